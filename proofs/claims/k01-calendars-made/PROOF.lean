import PyProof.Rows.All
import Wide.All
import OpenK.AllK
import Wide.FinOn
import HandS.ForMost
import HandS.IsInst
import HandS.Property
import HandS.ClsMeth
import HandS.Star
import HandS.SlotsOwn
import HandS.NoneIn
import HandS.TupMul
import HandS.Conv
import HandS.RaiseMore
import HandS.Walk
import HandS.Style
import HandS.HeadNt
import HandS.HeadEnd
import HandS.Head2
import PyProof.ReprRoads
import HandS.FStrTup
import KE.GoesMore
import KE.GoesEnum
import HandS.Iter
import KE.KOpsOwn
import HandS.Wide
import HandS.MakeKwOnly
import PyProof.LongRange
import HandS.Zip
import HandS.SetFor
import HandS.DictComp
import HandS.Records
import KE.KDictZip
import PyProof.Draws
import KE.GoesZip
import PyProof.Rows.Range3
import HandS.More
import HandS.SetBool
import HandS.Strs
import HandS.SortInts
import HandS.Text
import HandS.Exc
import HandS.ExcIs
import HandS.ExcField
import HandS.ExcValue
import KE.KExcIs
import HandS.ExcInit
import HandS.SortKw
import PyProof.WalkInts
import KE.KMinKey
import KE.KExcInit
import HandS.Lambda
import KE.LtSeq
import KE.LtData
import KE.KSortAsk
import HandS.NamedTupSort
import PyProof.MaxThree
import HandS.TupAny
import HandS.TupSets
import HandS.Deep
import PyProof.TupleOfSeq
import PyProof.DictUpdate
import HandS.MakeKw
import KE.KStateDown
import PySem.Challenge.RW_dayrecipes_k01_calendars_made
set_option Elab.async false
set_option linter.all false
set_option maxRecDepth 100000
set_option maxHeartbeats 4000000
/-! Plain mathematics: functions on dates that repeat, their least period, lists that stand for them. -/
namespace My
/-- f repeats with d -/
def Per (f : Int → Int) (d : Nat) : Prop := ∀ x : Int, f (x + (d : Int)) = f x
theorem Per.zero {f : Int → Int} : Per f 0 := fun x => by simp
theorem Per.mulN {f : Int → Int} {d : Nat} (h : Per f d) (k : Nat) : Per f (d * k) := by
  induction k with
  | zero => intro x; simp
  | succ k ih =>
    intro x
    have e : x + ((d * (k + 1) : Nat) : Int) = (x + ((d * k : Nat) : Int)) + (d : Int) := by
      rw [Nat.mul_succ]; omega
    rw [e, h, ih]
theorem Per.dvd {f : Int → Int} {d e : Nat} (h : Per f d) (hd : d ∣ e) : Per f e := by
  obtain ⟨k, rfl⟩ := hd
  exact h.mulN k
theorem Per.back {f : Int → Int} {d : Nat} (h : Per f d) (x : Int) : f (x - (d : Int)) = f x := by
  have := h (x - d)
  rw [Int.sub_add_cancel] at this
  exact this.symm
theorem Per.mulI {f : Int → Int} {d : Nat} (h : Per f d) (x k : Int) : f (x + (d : Int) * k) = f x := by
  rcases Int.le_total 0 k with hk | hk
  · have e := h.mulN k.toNat x
    have e2 : ((d * k.toNat : Nat) : Int) = (d : Int) * k := by
      rw [Int.natCast_mul, Int.toNat_of_nonneg hk]
    rw [e2] at e
    exact e
  · have e := (h.mulN (-k).toNat).back x
    have e2 : ((d * (-k).toNat : Nat) : Int) = -((d : Int) * k) := by
      rw [Int.natCast_mul, Int.toNat_of_nonneg (by omega), Int.mul_neg]
    rw [e2] at e
    have e3 : x - -((d : Int) * k) = x + (d : Int) * k := by omega
    rw [e3] at e
    exact e
theorem Per.emod {f : Int → Int} {d : Nat} (h : Per f d) (x : Int) : f (x % (d : Int)) = f x := by
  have e := h.mulI (x % (d : Int)) (x / (d : Int))
  rw [Int.emod_add_mul_ediv] at e
  exact e.symm
theorem Per.mod {f : Int → Int} {a b : Nat} (ha : Per f a) (hb : Per f b) : Per f (a % b) := by
  intro x
  have e : x + (a : Int) = (x + ((a % b : Nat) : Int)) + (b : Int) * ((a / b : Nat) : Int) := by
    have := Nat.mod_add_div a b
    have h2 : ((a % b + b * (a / b) : Nat) : Int) = (a : Int) := by rw [this]
    rw [Int.natCast_add, Int.natCast_mul] at h2
    omega
  have h1 := ha x
  rw [e, hb.mulI] at h1
  exact h1
theorem Per.gcd {f : Int → Int} (a b : Nat) : Per f a → Per f b → Per f (Nat.gcd a b) := by
  induction a, b using Nat.gcd.induction with
  | H0 n => intro _ hb; rw [Nat.gcd_zero_left]; exact hb
  | H1 m n hm ih =>
    intro ha hb
    rw [Nat.gcd_rec]
    exact ih (hb.mod ha) ha
/-- n days from day 0 on -/
def tab (n : Nat) (f : Int → Int) : List Int := (List.range n).map fun (i : Nat) => f (i : Int)
theorem tab_length {n : Nat} {f : Int → Int} : (tab n f).length = n := by simp [tab]
theorem tab_get {n i : Nat} {f : Int → Int} (h : i < n) : (tab n f)[i]? = some (f (i : Int)) := by
  simp [tab, h]
/-- the offset of a list at a date -/
def off (r : List Int) (x : Int) : Int := r.getD (x % (r.length : Int)).toNat 0
theorem off_get {r : List Int} (h : 0 < r.length) (x : Int) : r[(x % (r.length : Int)).toNat]? = some (off r x) := by
  have h1 : 0 ≤ x % (r.length : Int) := Int.emod_nonneg _ (by omega)
  have h2 : x % (r.length : Int) < r.length := Int.emod_lt_of_pos _ (by omega)
  have h3 : (x % (r.length : Int)).toNat < r.length := by omega
  unfold off
  rw [List.getD_eq_getElem?_getD, List.getElem?_eq_getElem h3]
  rfl
theorem off_per {r : List Int} : Per (off r) r.length := by
  intro x
  unfold off
  rw [Int.add_emod_right]
theorem off_nat {r : List Int} {i : Nat} (h : i < r.length) : r[i]? = some (off r (i : Int)) := by
  have e := off_get (by omega) (i : Int) (r := r)
  rw [Int.emod_eq_of_lt (by omega) (by omega)] at e
  simpa using e
theorem tab_off (r : List Int) : tab r.length (off r) = r := by
  apply List.ext_getElem?
  intro i
  by_cases h : i < r.length
  · rw [tab_get h, off_nat h]
  · rw [List.getElem?_eq_none (by rw [tab_length]; omega), List.getElem?_eq_none (by omega)]
theorem off_tab {n : Nat} {f : Int → Int} (hn : 0 < n) (h : Per f n) : off (tab n f) = f := by
  funext x
  have e := off_get (r := tab n f) (by rw [tab_length]; exact hn) x
  rw [tab_length] at e
  have h1 : 0 ≤ x % (n : Int) := Int.emod_nonneg _ (by omega)
  have h2 : x % (n : Int) < n := Int.emod_lt_of_pos _ (by omega)
  rw [tab_get (by omega), Int.toNat_of_nonneg h1, h.emod] at e
  exact (Option.some.inj e).symm
theorem tab_take {n d : Nat} {f : Int → Int} (h : d ≤ n) : (tab n f).take d = tab d f := by
  unfold tab
  rw [← List.map_take, List.take_range, Nat.min_eq_left h]
/-- d is the least period -/
structure Least (f : Int → Int) (d : Nat) : Prop where
  pos : 0 < d
  per : Per f d
  dvd : ∀ e : Nat, 0 < e → Per f e → d ∣ e
theorem Least.uniq {f : Int → Int} {d e : Nat} (a : Least f d) (b : Least f e) : d = e :=
  Nat.dvd_antisymm (a.dvd e b.pos b.per) (b.dvd d a.pos a.per)
/-- rows stand for f with its least period -/
structure Rows (f : Int → Int) (r : List Int) : Prop where
  least : Least f r.length
  eq : r = tab r.length f
theorem Rows.off {f : Int → Int} {r : List Int} (h : Rows f r) : off r = f := by
  have e := h.eq
  generalize r.length = n at e h
  exact Eq.trans (congrArg My.off e) (off_tab (by
    have := h.least.pos
    have e2 := congrArg List.length e
    rw [tab_length] at e2
    omega) (by
    have := h.least.per
    have e2 := congrArg List.length e
    rw [tab_length] at e2
    rw [← e2]; exact this))
theorem Rows.eq_iff {f g : Int → Int} {r q : List Int} (a : Rows f r) (b : Rows g q) : r = q ↔ f = g := by
  constructor
  · intro e
    rw [← a.off, ← b.off, e]
  · intro e
    subst e
    rw [a.eq, b.eq, a.least.uniq b.least]
theorem Rows.of_least {r : List Int} {d : Nat} (hd : Least (My.off r) d) (hr : 0 < r.length) : Rows (My.off r) (r.take d) ∧ (r.take d).length = d := by
  have hdl : d ≤ r.length := Nat.le_of_dvd hr (hd.dvd r.length hr off_per)
  have e : r.take d = tab d (My.off r) := by
    have e1 := tab_off r
    have e2 := tab_take (f := My.off r) hdl
    rw [e1] at e2
    exact e2
  have el : (r.take d).length = d := by rw [List.length_take]; omega
  exact ⟨⟨by rw [el]; exact hd, by rw [el]; exact e⟩, el⟩
/-! ### the test of least_period -/
theorem rep_per {r : List Int} {d : Nat} (hd : 0 < d) (hdv : d ∣ r.length) (h : r.drop d = r.take (r.length - d)) : Per (off r) d := by
  by_cases hr : r.length = 0
  · intro x
    have : r = [] := List.length_eq_zero_iff.mp hr
    subst this
    simp [off]
  have hn : 0 < r.length := by omega
  have hle : d ≤ r.length := Nat.le_of_dvd hn hdv
  have step : ∀ i : Nat, i + d < r.length → off r ((i : Int) + d) = off r (i : Int) := by
    intro i hi
    have e1 : (r.drop d)[i]? = r[i + d]? := by rw [List.getElem?_drop, Nat.add_comm]
    have e2 : (r.take (r.length - d))[i]? = r[i]? := List.getElem?_take_of_lt (by omega)
    rw [h, e2, off_nat (by omega), off_nat (by omega)] at e1
    have := Option.some.inj e1
    rw [this]
    simp
  have low : ∀ (k i : Nat), i < d → i + d * k < r.length → off r ((i : Int) + ((d * k : Nat) : Int)) = off r (i : Int) := by
    intro k
    induction k with
    | zero => intro i _ _; simp
    | succ k ih =>
      intro i hi hk
      have hk' : i + d * k + d < r.length := by rw [Nat.mul_succ] at hk; omega
      have s := step (i + d * k) hk'
      have e : (i : Int) + ((d * (k + 1) : Nat) : Int) = ((i + d * k : Nat) : Int) + (d : Int) := by
        rw [Nat.mul_succ]; omega
      rw [e, s]
      have := ih i hi (by omega)
      rw [← this]
      congr 1
  have red : ∀ i : Nat, i < r.length → off r (i : Int) = off r ((i % d : Nat) : Int) := by
    intro i hi
    have hm : i % d < d := Nat.mod_lt _ hd
    have e := Nat.mod_add_div i d
    have := low (i / d) (i % d) hm (by omega)
    rw [← this]
    congr 1
    omega
  have all : ∀ x : Int, off r x = off r (x % (d : Int)) := by
    intro x
    have h1 : 0 ≤ x % (r.length : Int) := Int.emod_nonneg _ (by omega)
    have h2 : x % (r.length : Int) < r.length := Int.emod_lt_of_pos _ (by omega)
    have e1 : off r x = off r (x % (r.length : Int)) := (off_per.emod x).symm
    have e2 := red (x % (r.length : Int)).toNat (by omega)
    rw [Int.toNat_of_nonneg h1] at e2
    rw [e1, e2]
    have e3 : (((x % (r.length : Int)).toNat % d : Nat) : Int) = x % (d : Int) := by
      rw [Int.natCast_emod, Int.toNat_of_nonneg h1]
      exact Int.emod_emod_of_dvd x (Int.natCast_dvd_natCast.mpr hdv)
    rw [e3]
  intro x
  rw [all, all x, Int.add_emod_right]
theorem per_rep {r : List Int} {d : Nat} (hle : d ≤ r.length) (h : Per (off r) d) : r.drop d = r.take (r.length - d) := by
  apply List.ext_getElem?
  intro i
  by_cases hi : i + d < r.length
  · rw [List.getElem?_drop, Nat.add_comm, List.getElem?_take_of_lt (by omega), off_nat hi, off_nat (by omega)]
    have := h (i : Int)
    rw [← this]
    simp
  · rw [List.getElem?_eq_none (by rw [List.length_drop]; omega), List.getElem?_eq_none (by rw [List.length_take]; omega)]
/-! ### the loop of least_period -/
structure LpInv (f : Int → Int) (n found rest prime : Nat) : Prop where
  rpos : 0 < rest
  rdv : rest ∣ found
  fdv : found ∣ n
  fpos : 0 < found
  per : Per f found
  p2 : 2 ≤ prime
  low : ∀ q, 2 ≤ q → q < prime → ¬ q ∣ rest
  goal : ∀ g, 0 < g → Per f g → found ∣ g * rest
  ple : 1 < rest → prime ≤ rest
theorem LpInv.start {f : Int → Int} {n : Nat} (hn : 0 < n) (h : Per f n) : LpInv f n n n 2 :=
  ⟨hn, Nat.dvd_refl _, Nat.dvd_refl _, hn, h, Nat.le_refl _, fun q h1 h2 => by omega, fun g _ _ => Nat.dvd_mul_left _ _, fun h => h⟩
theorem LpInv.done {f : Int → Int} {n found rest prime : Nat} (I : LpInv f n found rest prime) (h : ¬ 1 < rest) : Least f found := by
  have e : rest = 1 := by have := I.rpos; omega
  subst e
  exact ⟨I.fpos, I.per, fun e he hp => by have := I.goal e he hp; rw [Nat.mul_one] at this; exact this⟩
section
variable {f : Int → Int} {n found rest prime : Nat}
theorem LpInv.div_low (I : LpInv f n found rest prime) (hd : prime ∣ rest) : ∀ q, 2 ≤ q → q < prime → ¬ q ∣ rest / prime := by
  intro q h1 h2 h3
  exact I.low q h1 h2 (Nat.dvd_trans h3 (Nat.div_dvd_of_dvd hd))
theorem LpInv.ple' (I : LpInv f n found rest prime) (hd : prime ∣ rest) : 1 < rest / prime → prime ≤ rest / prime := by
  intro h1
  rcases Nat.lt_or_ge (rest / prime) prime with h | h
  · exact absurd (Nat.dvd_refl _) (I.div_low hd (rest / prime) (by omega) h)
  · exact h
theorem LpInv.yes (I : LpInv f n found rest prime) (hd : prime ∣ rest) (hp : Per f (found / prime)) : LpInv f n (found / prime) (rest / prime) prime := by
  have p2 := I.p2
  have hpf : prime ∣ found := Nat.dvd_trans hd I.rdv
  obtain ⟨r', rfl⟩ := hd
  obtain ⟨f', rfl⟩ := hpf
  have pp : 0 < prime := by omega
  have er : prime * r' / prime = r' := Nat.mul_div_cancel_left _ pp
  have ef : prime * f' / prime = f' := Nat.mul_div_cancel_left _ pp
  have hl := I.div_low (Nat.dvd_mul_right _ _)
  have hple := I.ple' (Nat.dvd_mul_right _ _)
  rw [er] at hl hple ⊢
  rw [ef] at hp ⊢
  refine ⟨?_, ?_, ?_, ?_, hp, p2, hl, ?_, hple⟩
  · exact Nat.pos_of_ne_zero fun e => by have := I.rpos; rw [e] at this; simp at this
  · exact Nat.dvd_of_mul_dvd_mul_left pp I.rdv
  · exact Nat.dvd_trans (Nat.dvd_mul_left _ _) I.fdv
  · exact Nat.pos_of_ne_zero fun e => by have := I.fpos; rw [e] at this; simp at this
  · intro g h1 h2
    have := I.goal g h1 h2
    rw [show g * (prime * r') = prime * (g * r') by rw [Nat.mul_left_comm]] at this
    exact Nat.dvd_of_mul_dvd_mul_left pp this
theorem LpInv.no (I : LpInv f n found rest prime) (hd : prime ∣ rest) (hp : ¬ Per f (found / prime)) : LpInv f n found (rest / prime) prime := by
  have p2 := I.p2
  have hpf : prime ∣ found := Nat.dvd_trans hd I.rdv
  have hl := I.div_low hd
  have hple := I.ple' hd
  have rdv' : rest / prime ∣ found := Nat.dvd_trans (Nat.div_dvd_of_dvd hd) I.rdv
  have rpos' : 0 < rest / prime := Nat.div_pos (Nat.le_of_dvd I.rpos hd) (by omega)
  refine ⟨rpos', rdv', I.fdv, I.fpos, I.per, p2, hl, ?_, hple⟩
  intro g h1 h2
  have hg' : Per f (Nat.gcd g found) := Per.gcd g found h2 I.per
  have hgp : 0 < Nat.gcd g found := Nat.gcd_pos_of_pos_left _ h1
  have hgd : Nat.gcd g found ∣ found := Nat.gcd_dvd_right _ _
  have hgg : Nat.gcd g found ∣ g := Nat.gcd_dvd_left _ _
  generalize Nat.gcd g found = c at hg' hgp hgd hgg
  obtain ⟨m, hm⟩ := hgd
  have hmr : m ∣ rest := by
    have := I.goal c hgp hg'
    rw [hm] at this
    exact Nat.dvd_of_mul_dvd_mul_left hgp this
  have hpm : ¬ prime ∣ m := by
    rintro ⟨m', hm'⟩
    apply hp
    have e : found / prime = c * m' := by
      rw [hm, hm', Nat.mul_left_comm]
      exact Nat.mul_div_cancel_left _ (by omega)
    rw [e]
    exact hg'.mulN m'
  have cop : Nat.gcd m prime = 1 := by
    have d1 : Nat.gcd m prime ∣ m := Nat.gcd_dvd_left _ _
    have d2 : Nat.gcd m prime ∣ prime := Nat.gcd_dvd_right _ _
    have pos : 0 < Nat.gcd m prime := Nat.gcd_pos_of_pos_right _ (by omega)
    have le : Nat.gcd m prime ≤ prime := Nat.le_of_dvd (by omega) d2
    rcases Nat.lt_or_ge (Nat.gcd m prime) 2 with h | h
    · omega
    · rcases Nat.lt_or_ge (Nat.gcd m prime) prime with h3 | h3
      · exact absurd (Nat.dvd_trans d1 hmr) (I.low _ h h3)
      · have e : Nat.gcd m prime = prime := by omega
        rw [e] at d1
        exact absurd d1 hpm
  have hm2 : m ∣ rest / prime := by
    obtain ⟨r', hr'⟩ := hd
    have er : rest / prime = r' := by rw [hr']; exact Nat.mul_div_cancel_left _ (by omega)
    rw [er]
    rw [hr'] at hmr
    exact Nat.Coprime.dvd_of_dvd_mul_left cop hmr
  rw [hm]
  exact Nat.dvd_trans (Nat.mul_dvd_mul_left c hm2) (Nat.mul_dvd_mul_right hgg _)
theorem LpInv.next (I : LpInv f n found rest prime) (h1 : 1 < rest) (hd : ¬ prime ∣ rest) (hs : prime * prime ≤ rest) : LpInv f n found rest (prime + 1) :=
  ⟨I.rpos, I.rdv, I.fdv, I.fpos, I.per, by have := I.p2; omega, fun q h2 h3 h4 => by
    rcases Nat.lt_or_ge q prime with h | h
    · exact I.low q h2 h h4
    · have e : q = prime := by omega
      rw [e] at h4; exact hd h4, I.goal, fun _ => by
    have h2 := I.p2
    have h3 : prime * 2 ≤ prime * prime := Nat.mul_le_mul_left _ h2
    omega⟩
theorem LpInv.jump (I : LpInv f n found rest prime) (h1 : 1 < rest) (hd : ¬ prime ∣ rest) (hs : ¬ prime * prime ≤ rest) : LpInv f n found rest rest :=
  ⟨I.rpos, I.rdv, I.fdv, I.fpos, I.per, h1, fun q h2 h3 h4 => by
    rcases Nat.lt_or_ge q prime with h | h
    · exact I.low q h2 h h4
    · rcases Nat.eq_or_lt_of_le h with e | e
      · rw [← e] at h4; exact hd h4
      · obtain ⟨c, hc⟩ := h4
        have hc2 : 2 ≤ c := by
          rcases Nat.lt_or_ge c 2 with h5 | h5
          · have : c = 0 ∨ c = 1 := by omega
            rcases this with e | e
            · rw [e] at hc; omega
            · rw [e] at hc; omega
          · exact h5
        have hcp : c < prime := by
          rcases Nat.lt_or_ge c prime with h5 | h5
          · exact h5
          · have : prime * prime ≤ q * c := Nat.mul_le_mul (by omega) h5
            omega
        exact I.low c hc2 hcp ⟨q, by rw [Nat.mul_comm]; exact hc⟩, I.goal, fun _ => Nat.le_refl _⟩
end
/-! ### lists -/
theorem map_erase {α β : Type} (f : α → β) : ∀ (xs : List α) (k : Nat), (xs.map f).eraseIdx k = (xs.eraseIdx k).map f
  | [], k => by simp
  | x :: xs, 0 => by simp
  | x :: xs, k + 1 => by simp [map_erase f xs k]
theorem erase_perm {α : Type} : ∀ (xs : List α) (k : Nat) (h : k < xs.length), (xs[k] :: xs.eraseIdx k).Perm xs
  | [], k, h => absurd h (by simp)
  | x :: xs, 0, h => by simp
  | x :: xs, k + 1, h => by
    have ih := erase_perm xs k (by simpa using h)
    simp only [List.getElem_cons_succ, List.eraseIdx_cons_succ]
    exact (List.Perm.swap x _ _).trans (ih.cons x)
end My

/-! Plain mathematics: rising maps, sorted lists. -/
namespace My
def Rising (f : Int → Int) : Prop := ∀ x : Int, x + f x ≤ (x + 1) + f (x + 1)
abbrev Up (l : List Int) : Prop := l.Pairwise (fun a b : Int => a ≤ b)
theorem filter_up {x : Int} : ∀ {l : List Int}, Up l → l.filter (fun v => decide (v ≤ x)) = l.take (l.filter (fun v => decide (v ≤ x))).length ∧ ∀ v ∈ l.drop (l.filter (fun v => decide (v ≤ x))).length, x < v
  | [], _ => by simp
  | y :: l, h => by
    obtain ⟨h1, h2⟩ := List.pairwise_cons.mp h
    obtain ⟨i1, i2⟩ := filter_up (x := x) h2
    by_cases c : y ≤ x
    · simp only [List.filter_cons, c, decide_true, if_true, List.length_cons, List.take_succ_cons, List.drop_succ_cons]
      exact ⟨by rw [← i1], i2⟩
    · have e : l.filter (fun v => decide (v ≤ x)) = [] := by
        rw [List.filter_eq_nil_iff]
        intro v hv
        have := h1 v hv
        simp
        omega
      simp only [List.filter_cons, c, decide_false, Bool.false_eq_true, if_false, e, List.length_nil, List.take_zero, List.drop_zero, true_and]
      intro v hv
      rcases List.mem_cons.mp hv with rfl | hv
      · omega
      · have := h1 v hv
        omega
/-- insertion behind all that are not greater -/
theorem insert_up {x : Int} {l : List Int} (h : Up l) : Up (l.take (l.filter (fun v => decide (v ≤ x))).length ++ [x] ++ l.drop (l.filter (fun v => decide (v ≤ x))).length) := by
  obtain ⟨e1, e2⟩ := filter_up (x := x) h
  have hl : ∀ v ∈ l.take (l.filter (fun v => decide (v ≤ x))).length, v ≤ x := by
    intro v hv
    rw [← e1] at hv
    have := (List.mem_filter.mp hv).2
    simpa using this
  have ht : Up (l.take (l.filter (fun v => decide (v ≤ x))).length) := h.sublist (List.take_sublist _ _)
  have hd : Up (l.drop (l.filter (fun v => decide (v ≤ x))).length) := h.sublist (List.drop_sublist _ _)
  rw [List.append_assoc]
  refine List.pairwise_append.mpr ⟨ht, ?_, ?_⟩
  · refine List.pairwise_cons.mpr ⟨fun v hv => Int.le_of_lt (e2 v hv), hd⟩
  · intro a ha b hb
    have := hl a ha
    rcases List.mem_cons.mp hb with rfl | hb
    · exact this
    · have := e2 b hb
      omega
theorem up_get {l : List Int} (h : Up l) {i j : Nat} {a b : Int} (hij : i ≤ j) (ha : l[i]? = some a) (hb : l[j]? = some b) : a ≤ b := by
  obtain ⟨h1, e1⟩ := List.getElem?_eq_some_iff.mp ha
  obtain ⟨h2, e2⟩ := List.getElem?_eq_some_iff.mp hb
  rcases Nat.eq_or_lt_of_le hij with e | e
  · subst e
    rw [e1] at e2
    omega
  · have := List.pairwise_iff_getElem.mp h i j h1 h2 e
    rw [e1, e2] at this
    exact this
/-- base + ascending[i] - i is rising -/
theorem rising_of {r asc : List Int} {base : Int} (hl : r.length = asc.length) (h0 : 0 < r.length) (up : Up asc) (lo : ∀ v ∈ asc, 0 ≤ v) (hi : ∀ v ∈ asc, v ≤ (r.length : Int))
    (hr : ∀ (i : Nat) (v : Int), asc[i]? = some v → r[i]? = some (base + v - (i : Int))) : Rising (off r) := by
  intro x
  have hn : (0 : Int) < r.length := by omega
  have m0 := Int.emod_nonneg x (show (r.length : Int) ≠ 0 by omega)
  have m1 := Int.emod_lt_of_pos x hn
  have dm := Int.emod_add_mul_ediv x (r.length : Int)
  obtain ⟨i, hi'⟩ : ∃ i : Nat, (i : Int) = x % (r.length : Int) := ⟨(x % (r.length : Int)).toNat, by omega⟩
  have val : ∀ (y : Int) (j : Nat) (v : Int), (j : Int) = y % (r.length : Int) → asc[j]? = some v → off r y = base + v - (j : Int) := by
    intro y j v hj hv
    have e := off_get h0 y
    rw [← hj, Int.toNat_natCast, hr j v hv] at e
    exact (Option.some.inj e).symm
  have ilt : i < asc.length := by omega
  obtain ⟨v, hv⟩ : ∃ v, asc[i]? = some v := ⟨asc[i], List.getElem?_eq_getElem ilt⟩
  have e1 := val x i v hi' hv
  by_cases hlast : i + 1 < asc.length
  · obtain ⟨u, hu⟩ : ∃ u, asc[i + 1]? = some u := ⟨asc[i + 1], List.getElem?_eq_getElem hlast⟩
    have hm : ((i + 1 : Nat) : Int) = (x + 1) % (r.length : Int) := by
      have : x + 1 = (x % (r.length : Int) + 1) + (r.length : Int) * (x / (r.length : Int)) := by omega
      rw [this, Int.add_mul_emod_self_left, Int.emod_eq_of_lt (by omega) (by omega)]
      omega
    have e2 := val (x + 1) (i + 1) u hm hu
    have := up_get up (Nat.le_succ i) hv hu
    rw [e1, e2]
    omega
  · obtain ⟨u, hu⟩ : ∃ u, asc[0]? = some u := ⟨asc[0], List.getElem?_eq_getElem (by omega)⟩
    have hm : ((0 : Nat) : Int) = (x + 1) % (r.length : Int) := by
      have : x + 1 = (r.length : Int) * (x / (r.length : Int) + 1) := by
        rw [Int.mul_add, Int.mul_one]
        omega
      rw [this, Int.mul_emod_right]
      rfl
    have e2 := val (x + 1) 0 u hm hu
    have l1 := lo u (List.mem_of_getElem? hu)
    have h1 := hi v (List.mem_of_getElem? hv)
    rw [e1, e2]
    omega
end My

/-! Plain mathematics: one after the other; maps that lead back; texts of bounded ints. -/
namespace My
/-- one after the other -/
def thn2 (f g : Int → Int) : Int → Int := fun x => f x + g (x + f x)
theorem thn2_assoc (f g h : Int → Int) : thn2 (thn2 f g) h = thn2 f (thn2 g h) := by
  funext x
  show f x + g (x + f x) + h (x + (f x + g (x + f x))) = f x + (g (x + f x) + h (x + f x + g (x + f x)))
  rw [Int.add_assoc, Int.add_assoc]
theorem thn2_idl (f : Int → Int) : thn2 (fun _ => 0) f = f := by
  funext x
  show 0 + f (x + 0) = f x
  rw [Int.zero_add, Int.add_zero]
theorem thn2_idr (f : Int → Int) : thn2 f (fun _ => 0) = f := by
  funext x
  show f x + 0 = f x
  rw [Int.add_zero]
theorem per_thn2 {f g : Int → Int} {n : Nat} (hf : Per f n) (hg : Per g n) : Per (thn2 f g) n := fun x => by
  show f (x + n) + g (x + n + f (x + n)) = f x + g (x + f x)
  rw [hf x, show x + (n : Int) + f x = x + f x + (n : Int) by omega, hg]
theorem const_off (d : Int) : off [d] = fun _ => d := by
  funext x
  have e : x % (([d] : List Int).length : Int) = 0 := Int.emod_one x
  unfold off
  rw [e]
  rfl
theorem per_const (d : Int) (n : Nat) : Per (fun _ => d) n := fun _ => rfl
theorem off_at {r : List Int} {x v : Int} {i : Nat} (h0 : 0 < r.length) (hi : (i : Int) = x % (r.length : Int)) (hv : r[i]? = some v) : off r x = v := by
  have e := off_get h0 x
  rw [← hi, Int.toNat_natCast, hv] at e
  exact (Option.some.inj e).symm
theorem off_twice (r : List Int) (h0 : 0 < r.length) : off (r ++ r) = off r := by
  funext x
  have hl : (r ++ r).length = r.length + r.length := List.length_append
  have m0 := Int.emod_nonneg x (show ((r ++ r).length : Int) ≠ 0 by omega)
  have m1 := Int.emod_lt_of_pos x (show (0 : Int) < ((r ++ r).length : Int) by omega)
  obtain ⟨i, hi⟩ : ∃ i : Nat, (i : Int) = x % ((r ++ r).length : Int) := ⟨(x % ((r ++ r).length : Int)).toNat, by omega⟩
  have hx : x % (r.length : Int) = (i : Int) % (r.length : Int) := by
    rw [hi, hl]
    refine (Int.emod_emod_of_dvd x ?_).symm
    rw [Int.natCast_add]
    exact ⟨2, by omega⟩
  by_cases c : i < r.length
  · have hg : (r ++ r)[i]? = some (off r (i : Int)) := by rw [List.getElem?_append_left c, off_nat c]
    rw [off_at (by omega) hi hg]
    have e := off_per.emod (f := off r) x
    rw [← e, hx, off_per.emod]
  · have c2 : i - r.length < r.length := by omega
    have hg : (r ++ r)[i]? = some (off r ((i - r.length : Nat) : Int)) := by rw [List.getElem?_append_right (by omega), off_nat c2]
    rw [off_at (by omega) hi hg]
    have e := off_per.emod (f := off r) x
    rw [← e, hx, off_per.emod]
    have e2 := off_per (r := r) ((i - r.length : Nat) : Int)
    rw [← e2]
    congr 1
    omega
theorem mod_of {x d g : Int} (h0 : 0 ≤ g) (h1 : g < d) (k : Int) (e : x = g + d * k) : g = x % d := by
  rw [e, Int.add_mul_emod_self_left, Int.emod_eq_of_lt h0 h1]
/-- rows r and back rows q over goals gs -/
structure Back (d : Nat) (gs r q : List Int) : Prop where
  d0 : 0 < d
  gl : gs.length = d
  rl : r.length = d
  ql : q.length = d
  nd : gs.Nodup
  gb : ∀ v ∈ gs, 0 ≤ v ∧ v < (d : Int)
  rr : ∀ (i : Nat) (g : Int), gs[i]? = some g → ∃ c : Int, r[i]? = some (g - (i : Int) + (d : Int) * c)
  qq : ∀ j : Nat, j < d → ∃ (i : Nat) (v : Int), gs[i]? = some (j : Int) ∧ r[i]? = some v ∧ q[j]? = some (0 - v)
theorem nodup_get {α : Type} {l : List α} (h : l.Nodup) {i j : Nat} {x : α} (hi : l[i]? = some x) (hj : l[j]? = some x) : i = j := by
  obtain ⟨h1, e1⟩ := List.getElem?_eq_some_iff.mp hi
  obtain ⟨h2, e2⟩ := List.getElem?_eq_some_iff.mp hj
  exact (List.getElem_inj h).mp (e1.trans e2.symm)
theorem Back.there {d : Nat} {gs r q : List Int} (B : Back d gs r q) : thn2 (off r) (off q) = fun _ => 0 := by
  funext x
  have d0 := B.d0
  have rl := B.rl
  have ql := B.ql
  have m0 := Int.emod_nonneg x (show (d : Int) ≠ 0 by omega)
  have m1 := Int.emod_lt_of_pos x (show (0 : Int) < (d : Int) by omega)
  have dm := Int.emod_add_mul_ediv x (d : Int)
  obtain ⟨i, hi⟩ : ∃ i : Nat, (i : Int) = x % (d : Int) := ⟨(x % (d : Int)).toNat, by omega⟩
  have il : i < gs.length := by rw [B.gl]; omega
  obtain ⟨g, hg⟩ : ∃ g, gs[i]? = some g := ⟨gs[i], List.getElem?_eq_getElem il⟩
  obtain ⟨c, hc⟩ := B.rr i g hg
  have gb := B.gb g (List.mem_of_getElem? hg)
  have e1 : off r x = g - (i : Int) + (d : Int) * c := off_at (by omega) (by rw [rl]; exact hi) hc
  obtain ⟨j, hj⟩ : ∃ j : Nat, (j : Int) = g := ⟨g.toNat, by omega⟩
  obtain ⟨i2, v, h1, h2, h3⟩ := B.qq j (by omega)
  rw [hj] at h1
  have ei : i2 = i := nodup_get B.nd h1 hg
  rw [ei, hc] at h2
  have ev : g - (i : Int) + (d : Int) * c = v := Option.some.inj h2
  have e2 : off q (x + off r x) = 0 - v := by
    refine off_at (by omega) ?_ h3
    rw [ql, hj]
    refine mod_of gb.1 gb.2 (x / (d : Int) + c) ?_
    rw [e1, Int.mul_add]
    omega
  show off r x + off q (x + off r x) = 0
  rw [e2, e1]
  omega
theorem Back.back {d : Nat} {gs r q : List Int} (B : Back d gs r q) : thn2 (off q) (off r) = fun _ => 0 := by
  funext x
  have d0 := B.d0
  have rl := B.rl
  have ql := B.ql
  have m0 := Int.emod_nonneg x (show (d : Int) ≠ 0 by omega)
  have m1 := Int.emod_lt_of_pos x (show (0 : Int) < (d : Int) by omega)
  have dm := Int.emod_add_mul_ediv x (d : Int)
  obtain ⟨j, hj⟩ : ∃ j : Nat, (j : Int) = x % (d : Int) := ⟨(x % (d : Int)).toNat, by omega⟩
  obtain ⟨i, v, h1, h2, h3⟩ := B.qq j (by omega)
  obtain ⟨c, hc⟩ := B.rr i _ h1
  rw [hc] at h2
  have ev : (j : Int) - (i : Int) + (d : Int) * c = v := Option.some.inj h2
  have il : i < gs.length := (List.getElem?_eq_some_iff.mp h1).1
  have il2 : i < d := by rw [B.gl] at il; exact il
  have e1 : off q x = 0 - v := off_at (by omega) (by rw [ql]; exact hj) h3
  have e2 : off r (x + off q x) = v := by
    rw [← ev]
    refine off_at (by omega) ?_ hc
    rw [rl]
    refine mod_of (by omega) (by omega) (x / (d : Int) - c) ?_
    rw [e1, Int.mul_sub]
    omega
  show off q x + off r (x + off q x) = 0
  rw [e2, e1]
  omega
theorem off_bnd {r : List Int} {B : Nat} (h0 : 0 < r.length) (h : ∀ v ∈ r, v.natAbs ≤ B) (x : Int) : (off r x).natAbs ≤ B := h _ (List.mem_of_getElem? (off_get h0 x))
theorem log_small {i : Int} (h : i.natAbs < 2 ^ 1920) : i.natAbs.log2 < 1920 := by
  by_cases e : i.natAbs = 0
  · rw [e]
    decide
  · exact (Nat.log2_lt e).mpr h
end My

/-! Plain mathematics: a map applied many times. -/
namespace My
def pw (f : Int → Int) : Nat → Int → Int
  | 0 => fun _ => 0
  | n + 1 => thn2 (pw f n) f
theorem pw_zero (f : Int → Int) : pw f 0 = fun _ => 0 := rfl
theorem pw_succ (f : Int → Int) (n : Nat) : pw f (n + 1) = thn2 (pw f n) f := rfl
theorem pw_one (f : Int → Int) : pw f 1 = f := thn2_idl f
theorem pw_add (f : Int → Int) (a : Nat) : ∀ b, pw f (a + b) = thn2 (pw f a) (pw f b)
  | 0 => (thn2_idr _).symm
  | b + 1 => by
    show thn2 (pw f (a + b)) f = thn2 (pw f a) (thn2 (pw f b) f)
    rw [pw_add f a b, thn2_assoc]
theorem pw_mul (f : Int → Int) (a : Nat) : ∀ b, pw (pw f a) b = pw f (a * b)
  | 0 => rfl
  | b + 1 => by
    show thn2 (pw (pw f a) b) (pw f a) = _
    rw [pw_mul f a b, ← pw_add, Nat.mul_succ]
theorem per_pw {f : Int → Int} {n : Nat} (h : Per f n) : ∀ k, Per (pw f k) n
  | 0 => fun _ => rfl
  | k + 1 => per_thn2 (per_pw h k) h
theorem pw_double (f : Int → Int) (n : Nat) : pw (thn2 f f) n = pw f (2 * n) := by
  have e : pw f 2 = thn2 f f := by
    show thn2 (pw f 1) f = _
    rw [pw_one]
  rw [← e, pw_mul]
theorem pw_const (d : Int) : ∀ n : Nat, pw (fun _ => d) n = fun _ => d * (n : Int)
  | 0 => by
    funext x
    show 0 = d * ((0 : Nat) : Int)
    rw [Int.natCast_zero, Int.mul_zero]
  | n + 1 => by
    show thn2 (pw (fun _ => d) n) (fun _ => d) = _
    rw [pw_const d n]
    funext x
    show d * (n : Int) + d = d * ((n + 1 : Nat) : Int)
    rw [Int.natCast_add, Int.mul_add, Int.natCast_one, Int.mul_one]
theorem pw_swap (f g : Int → Int) : ∀ n, thn2 (pw (thn2 f g) n) f = thn2 f (pw (thn2 g f) n)
  | 0 => by
    show thn2 (fun _ => 0) f = thn2 f (fun _ => 0)
    rw [thn2_idl, thn2_idr]
  | n + 1 => by
    show thn2 (thn2 (pw (thn2 f g) n) (thn2 f g)) f = thn2 f (thn2 (pw (thn2 g f) n) (thn2 g f))
    rw [← thn2_assoc f, ← pw_swap f g n, thn2_assoc, thn2_assoc, thn2_assoc]
theorem pw_comm (f : Int → Int) (a b : Nat) : thn2 (pw f a) (pw f b) = thn2 (pw f b) (pw f a) := by rw [← pw_add, ← pw_add, Nat.add_comm]
theorem pw_bnd {f : Int → Int} {B : Nat} (h : ∀ x, (f x).natAbs ≤ B) : ∀ n x, (pw f n x).natAbs ≤ B * n
  | 0, x => by
    show (0 : Int).natAbs ≤ _
    exact Nat.zero_le _
  | n + 1, x => by
    have h1 := pw_bnd h n x
    have h2 := h (x + pw f n x)
    show (pw f n x + f (x + pw f n x)).natAbs ≤ B * (n + 1)
    rw [Nat.mul_succ]
    omega
theorem thn2_bnd {f g : Int → Int} {A B : Nat} (hf : ∀ x, (f x).natAbs ≤ A) (hg : ∀ x, (g x).natAbs ≤ B) (x : Int) : (thn2 f g x).natAbs ≤ A + B := by
  have h1 := hf x
  have h2 := hg (x + f x)
  show (f x + g (x + f x)).natAbs ≤ A + B
  omega
theorem tab_add (a b : Nat) (f : Int → Int) : tab (a + b) f = tab a f ++ tab b (fun x => f ((a : Int) + x)) := by
  unfold tab
  rw [List.range_add, List.map_append, List.map_map]
  congr 1
theorem rep_tab {d : Nat} {f : Int → Int} (h : Per f d) : ∀ k : Nat, (List.replicate k (tab d f)).flatten = tab (d * k) f
  | 0 => rfl
  | k + 1 => by
    rw [List.replicate_succ, List.flatten_cons, rep_tab h k, Nat.mul_succ, Nat.add_comm (d * k) d, tab_add]
    congr 1
    refine congrArg (tab (d * k)) ?_
    funext x
    rw [Int.add_comm]
    exact (h x).symm
theorem rep_iff {r : List Int} {d k : Nat} (hd : 0 < d) (hk : 0 < k) (e : r.length = d * k) : r = (List.replicate k (r.take d)).flatten ↔ Per (off r) d := by
  have hle : d ≤ r.length := by
    rw [e]
    exact Nat.le_mul_of_pos_right d hk
  have tl : (r.take d).length = d := by
    rw [List.length_take]
    omega
  constructor
  · intro h
    have e1 : r.take d = tab d (off (r.take d)) := by
      have := tab_off (r.take d)
      rw [tl] at this
      exact this.symm
    have p : Per (off (r.take d)) d := by
      have := off_per (r := r.take d)
      rw [tl] at this
      exact this
    rw [e1, rep_tab p] at h
    have h2 : off r = off (r.take d) := by
      have h3 := congrArg off h
      rw [off_tab (Nat.mul_pos hd hk) (p.mulN k)] at h3
      exact h3
    rw [h2]
    exact p
  · intro p
    have e1 : r.take d = tab d (off r) := by
      have h := tab_take (f := off r) hle
      rw [tab_off] at h
      exact h
    rw [e1, rep_tab p, ← e, tab_off]
theorem least_of {f : Int → Int} {n d : Nat} (hd : 0 < d) (dv : d ∣ n) (p : Per f d) (min : ∀ e, 0 < e → e < d → e ∣ n → ¬ Per f e) : Least f d := by
  refine ⟨hd, p, fun m hm pm => ?_⟩
  have g := Per.gcd d m p pm
  have g0 : 0 < Nat.gcd d m := Nat.gcd_pos_of_pos_left m hd
  have gd : Nat.gcd d m ∣ d := Nat.gcd_dvd_left d m
  have gle : Nat.gcd d m ≤ d := Nat.le_of_dvd hd gd
  rcases Nat.lt_or_ge (Nat.gcd d m) d with h | h
  · exact absurd g (min _ g0 h (Nat.dvd_trans gd dv))
  · have e : Nat.gcd d m = d := Nat.le_antisymm gle h
    rw [← e]
    exact Nat.gcd_dvd_right d m
theorem rows_mem {f : Int → Int} {r : List Int} {B : Nat} (h : Rows f r) (hb : ∀ x, (f x).natAbs ≤ B) : ∀ v ∈ r, v.natAbs ≤ B := by
  intro v hv
  rw [h.eq] at hv
  unfold tab at hv
  obtain ⟨i, _, rfl⟩ := List.mem_map.mp hv
  exact hb _
end My

/-! Plain mathematics: maps that commute. -/
namespace My
theorem comm_pw {f g : Int → Int} (h : thn2 f g = thn2 g f) : ∀ k, thn2 (pw f k) g = thn2 g (pw f k)
  | 0 => by
    show thn2 (fun _ => 0) g = thn2 g (fun _ => 0)
    rw [thn2_idl, thn2_idr]
  | k + 1 => by
    show thn2 (thn2 (pw f k) f) g = thn2 g (thn2 (pw f k) f)
    rw [thn2_assoc, h, ← thn2_assoc, comm_pw h k, thn2_assoc]
theorem pw_thn2 {f g : Int → Int} (h : thn2 f g = thn2 g f) : ∀ k, pw (thn2 f g) k = thn2 (pw f k) (pw g k)
  | 0 => (thn2_idl _).symm
  | k + 1 => by
    show thn2 (pw (thn2 f g) k) (thn2 f g) = thn2 (thn2 (pw f k) f) (thn2 (pw g k) g)
    rw [pw_thn2 h k, thn2_assoc, ← thn2_assoc (pw g k) f g, comm_pw h.symm k, thn2_assoc f, ← thn2_assoc (pw f k) f]
theorem comm_shift {f : Int → Int} {d : Nat} (p : Per f d) (k : Int) : thn2 f (fun _ => (d : Int) * k) = thn2 (fun _ => (d : Int) * k) f := by
  funext x
  show f x + (d : Int) * k = (d : Int) * k + f (x + (d : Int) * k)
  rw [p.mulI, Int.add_comm]
end My

/-! Plain mathematics: the latest and the earliest start; the rising maps next to a map. -/
namespace My
def IsLat (f : Int → Int) (y t : Int) : Prop := t + f t ≤ y ∧ ∀ x, x + f x ≤ y → x ≤ t
def IsEar (f : Int → Int) (y t : Int) : Prop := y ≤ t + f t ∧ ∀ x, y ≤ x + f x → t ≤ x
def IsLow (f : Int → Int) (x v : Int) : Prop := (∃ z, x ≤ z ∧ v = z + f z) ∧ ∀ z, x ≤ z → v ≤ z + f z
def IsUpp (f : Int → Int) (x v : Int) : Prop := (∃ z, z ≤ x ∧ v = z + f z) ∧ ∀ z, z ≤ x → z + f z ≤ v
section
variable {f g h : Int → Int} {d i : Nat} {x y z t u v : Int}
theorem IsLat.uniq (a : IsLat f y t) (b : IsLat f y u) : t = u := Int.le_antisymm (b.2 t a.1) (a.2 u b.1)
theorem IsEar.uniq (a : IsEar f y t) (b : IsEar f y u) : t = u := Int.le_antisymm (a.2 u b.1) (b.2 t a.1)
theorem IsLow.uniq (a : IsLow f y t) (b : IsLow f y u) : t = u := by
  obtain ⟨⟨z, hz, rfl⟩, a2⟩ := a
  obtain ⟨⟨w, hw, rfl⟩, b2⟩ := b
  exact Int.le_antisymm (a2 w hw) (b2 z hz)
theorem IsUpp.uniq (a : IsUpp f y t) (b : IsUpp f y u) : t = u := by
  obtain ⟨⟨z, hz, rfl⟩, a2⟩ := a
  obtain ⟨⟨w, hw, rfl⟩, b2⟩ := b
  exact Int.le_antisymm (b2 z hz) (a2 w hw)
theorem Per.sub (p : Per f d) (x k : Int) : f (x - (d : Int) * k) = f x := by
  have e := p.mulI (x - (d : Int) * k) k
  rw [Int.sub_add_cancel] at e
  exact e.symm
theorem IsLat.move (p : Per f d) (a : IsLat f y t) (k : Int) : IsLat f (y + (d : Int) * k) (t + (d : Int) * k) := by
  refine ⟨?_, fun x hx => ?_⟩
  · rw [p.mulI]
    have := a.1
    omega
  · have := a.2 (x - (d : Int) * k) (by rw [p.sub]; omega)
    omega
theorem IsEar.move (p : Per f d) (a : IsEar f y t) (k : Int) : IsEar f (y + (d : Int) * k) (t + (d : Int) * k) := by
  refine ⟨?_, fun x hx => ?_⟩
  · rw [p.mulI]
    have := a.1
    omega
  · have := a.2 (x - (d : Int) * k) (by rw [p.sub]; omega)
    omega
theorem IsLow.move (p : Per f d) (a : IsLow f y t) (k : Int) : IsLow f (y + (d : Int) * k) (t + (d : Int) * k) := by
  obtain ⟨⟨z, hz, e⟩, a2⟩ := a
  refine ⟨⟨z + (d : Int) * k, by omega, by rw [p.mulI]; omega⟩, fun x hx => ?_⟩
  have := a2 (x - (d : Int) * k) (by omega)
  rw [p.sub] at this
  omega
theorem IsUpp.move (p : Per f d) (a : IsUpp f y t) (k : Int) : IsUpp f (y + (d : Int) * k) (t + (d : Int) * k) := by
  obtain ⟨⟨z, hz, e⟩, a2⟩ := a
  refine ⟨⟨z + (d : Int) * k, by omega, by rw [p.mulI]; omega⟩, fun x hx => ?_⟩
  have := a2 (x - (d : Int) * k) (by omega)
  rw [p.sub] at this
  omega
/-- maps that tell these -/
def Lats (f g : Int → Int) : Prop := ∀ y, IsLat f y (y + g y)
def Ears (f g : Int → Int) : Prop := ∀ y, IsEar f y (y + g y)
def Lows (f g : Int → Int) : Prop := ∀ y, IsLow f y (y + g y)
def Upps (f g : Int → Int) : Prop := ∀ y, IsUpp f y (y + g y)
theorem Lats.uniq (a : Lats f g) (b : Lats f h) : g = h := funext fun y => by
  have := (a y).uniq (b y)
  omega
theorem Ears.uniq (a : Ears f g) (b : Ears f h) : g = h := funext fun y => by
  have := (a y).uniq (b y)
  omega
theorem Lows.uniq (a : Lows f g) (b : Lows f h) : g = h := funext fun y => by
  have := (a y).uniq (b y)
  omega
theorem Upps.uniq (a : Upps f g) (b : Upps f h) : g = h := funext fun y => by
  have := (a y).uniq (b y)
  omega
theorem Lats.per (p : Per f d) (a : Lats f g) : Per g d := fun y => by
  have h1 := (a y).move p 1
  have h2 := a (y + (d : Int))
  rw [Int.mul_one] at h1
  have := h1.uniq h2
  omega
theorem Ears.per (p : Per f d) (a : Ears f g) : Per g d := fun y => by
  have h1 := (a y).move p 1
  have h2 := a (y + (d : Int))
  rw [Int.mul_one] at h1
  have := h1.uniq h2
  omega
theorem Lows.per (p : Per f d) (a : Lows f g) : Per g d := fun y => by
  have h1 := (a y).move p 1
  have h2 := a (y + (d : Int))
  rw [Int.mul_one] at h1
  have := h1.uniq h2
  omega
theorem Upps.per (p : Per f d) (a : Upps f g) : Per g d := fun y => by
  have h1 := (a y).move p 1
  have h2 := a (y + (d : Int))
  rw [Int.mul_one] at h1
  have := h1.uniq h2
  omega
/-- rows over one period tell them at all dates -/
theorem rows_all {P : Int → Int → Prop} {r : List Int} (h0 : 0 < r.length) (mv : ∀ y t k, P y t → P (y + (r.length : Int) * k) (t + (r.length : Int) * k)) (h : ∀ (i : Nat) (v : Int), r[i]? = some v → P (i : Int) ((i : Int) + v)) (y : Int) : P y (y + off r y) := by
  have m0 := Int.emod_nonneg y (show (r.length : Int) ≠ 0 by omega)
  have m1 := Int.emod_lt_of_pos y (show (0 : Int) < (r.length : Int) by omega)
  have dm := Int.emod_add_mul_ediv y (r.length : Int)
  have h1 := h (y % (r.length : Int)).toNat _ (off_get h0 y)
  rw [Int.toNat_of_nonneg m0] at h1
  have h2 := mv _ _ (y / (r.length : Int)) h1
  rw [dm, show y % (r.length : Int) + off r y + (r.length : Int) * (y / (r.length : Int)) = y + off r y by omega] at h2
  exact h2
/-! ### the greatest start of each remainder -/
structure BestM (f : Int → Int) (d i : Nat) (val : Int → Option Int) : Prop where
  yes : ∀ r s, val r = some s → 0 ≤ r ∧ r < (d : Int) ∧ s + f s = r ∧ ∀ x, x + f x = r → x % (d : Int) < (i : Int) → x ≤ s
  no : ∀ r, 0 ≤ r → r < (d : Int) → val r = none → ∀ x, x + f x = r → ¬ x % (d : Int) < (i : Int)
structure BestL (f : Int → Int) (d i : Nat) (val : Int → Option Int) : Prop where
  yes : ∀ r s, val r = some s → 0 ≤ r ∧ r < (d : Int) ∧ s + f s = r ∧ ∀ x, x + f x = r → x % (d : Int) < (i : Int) → s ≤ x
  no : ∀ r, 0 ≤ r → r < (d : Int) → val r = none → ∀ x, x + f x = r → ¬ x % (d : Int) < (i : Int)
/-- the one start of a day of the period -/
theorem start_one (p : Per f d) (d0 : 0 < d) {r x : Int} (r0 : 0 ≤ r) (r1 : r < (d : Int)) (hx : x + f x = r) (hi : x % (d : Int) = (i : Int)) :
    r = ((i : Int) + f (i : Int)) % (d : Int) ∧ x = (i : Int) - ((i : Int) + f (i : Int)) / (d : Int) * (d : Int) := by
  have dm := Int.emod_add_mul_ediv x (d : Int)
  have e : f x = f (i : Int) := by rw [← p.emod x, hi]
  rw [e] at hx
  rw [hi] at dm
  have e2 : (i : Int) + f (i : Int) = r + (d : Int) * (-(x / (d : Int))) := by
    rw [Int.mul_neg]
    omega
  have e3 : ((i : Int) + f (i : Int)) % (d : Int) = r := by
    rw [e2, Int.add_mul_emod_self_left, Int.emod_eq_of_lt r0 r1]
  have e4 : ((i : Int) + f (i : Int)) / (d : Int) = -(x / (d : Int)) := by
    rw [e2, Int.add_mul_ediv_left _ _ (by omega), Int.ediv_eq_zero_of_lt r0 r1, Int.zero_add]
  refine ⟨e3.symm, ?_⟩
  rw [e4, Int.neg_mul, Int.mul_comm]
  omega
theorem start_val (p : Per f d) (d0 : 0 < d) : (i : Int) - ((i : Int) + f (i : Int)) / (d : Int) * (d : Int) + f ((i : Int) - ((i : Int) + f (i : Int)) / (d : Int) * (d : Int)) = ((i : Int) + f (i : Int)) % (d : Int) := by
  have dm := Int.emod_add_mul_ediv ((i : Int) + f (i : Int)) (d : Int)
  rw [Int.mul_comm (((i : Int) + f (i : Int)) / (d : Int)) (d : Int), p.sub]
  omega
theorem BestM.start : BestM f d 0 (fun _ => none) := ⟨fun r s e => (nomatch e), fun r r0 r1 _ x _ h => by
  have := Int.emod_nonneg x (show (d : Int) ≠ 0 by omega)
  omega⟩
theorem BestL.start : BestL f d 0 (fun _ => none) := ⟨fun r s e => (nomatch e), fun r r0 r1 _ x _ h => by
  have := Int.emod_nonneg x (show (d : Int) ≠ 0 by omega)
  omega⟩
theorem BestM.step {val val' : Int → Option Int} (p : Per f d) (d0 : 0 < d) (B : BestM f d i val) {s : Int}
    (h1 : val' (((i : Int) + f (i : Int)) % (d : Int)) = some s) (h2 : ∀ r, r ≠ ((i : Int) + f (i : Int)) % (d : Int) → val' r = val r)
    (hs : (val (((i : Int) + f (i : Int)) % (d : Int)) = none ∧ s = (i : Int) - ((i : Int) + f (i : Int)) / (d : Int) * (d : Int)) ∨
      ∃ s0, val (((i : Int) + f (i : Int)) % (d : Int)) = some s0 ∧ s = max s0 ((i : Int) - ((i : Int) + f (i : Int)) / (d : Int) * (d : Int))) : BestM f d (i + 1) val' := by
  have sv := start_val (i := i) p d0
  have so := fun {r x : Int} => start_one (i := i) (r := r) (x := x) p d0
  have q0 := Int.emod_nonneg ((i : Int) + f (i : Int)) (show (d : Int) ≠ 0 by omega)
  have q1 := Int.emod_lt_of_pos ((i : Int) + f (i : Int)) (show (0 : Int) < (d : Int) by omega)
  generalize ((i : Int) + f (i : Int)) % (d : Int) = q at *
  generalize (i : Int) - ((i : Int) + f (i : Int)) / (d : Int) * (d : Int) = s1 at *
  have split : ∀ x : Int, x % (d : Int) < ((i + 1 : Nat) : Int) → x % (d : Int) < (i : Int) ∨ x % (d : Int) = (i : Int) := fun x hx => by omega
  refine ⟨fun r t e => ?_, fun r r0 r1 e x hx hi => ?_⟩
  · by_cases hr : r = q
    · subst hr
      rw [h1] at e
      obtain rfl := Option.some.inj e
      rcases hs with ⟨n, rfl⟩ | ⟨s0, n, rfl⟩
      · refine ⟨q0, q1, sv, fun x hx hi => ?_⟩
        rcases split x hi with h | h
        · exact absurd h (B.no r q0 q1 n x hx)
        · have := (so q0 q1 hx h).2
          omega
      · obtain ⟨_, _, b3, b4⟩ := B.yes r s0 n
        refine ⟨q0, q1, ?_, fun x hx hi => ?_⟩
        · rcases Int.le_total s0 s1 with h | h
          · rw [Int.max_eq_right h]
            exact sv
          · rw [Int.max_eq_left h]
            exact b3
        · rcases split x hi with h | h
          · have := b4 x hx h
            omega
          · have := (so q0 q1 hx h).2
            omega
    · rw [h2 r hr] at e
      obtain ⟨b1, b2, b3, b4⟩ := B.yes r t e
      refine ⟨b1, b2, b3, fun x hx hi => ?_⟩
      rcases split x hi with h | h
      · exact b4 x hx h
      · exact absurd (so b1 b2 hx h).1 hr
  · by_cases hr : r = q
    · rw [hr, h1] at e
      cases e
    · rw [h2 r hr] at e
      rcases split x hi with h | h
      · exact B.no r r0 r1 e x hx h
      · exact hr (so r0 r1 hx h).1
theorem BestL.step {val val' : Int → Option Int} (p : Per f d) (d0 : 0 < d) (B : BestL f d i val) {s : Int}
    (h1 : val' (((i : Int) + f (i : Int)) % (d : Int)) = some s) (h2 : ∀ r, r ≠ ((i : Int) + f (i : Int)) % (d : Int) → val' r = val r)
    (hs : (val (((i : Int) + f (i : Int)) % (d : Int)) = none ∧ s = (i : Int) - ((i : Int) + f (i : Int)) / (d : Int) * (d : Int)) ∨
      ∃ s0, val (((i : Int) + f (i : Int)) % (d : Int)) = some s0 ∧ s = min s0 ((i : Int) - ((i : Int) + f (i : Int)) / (d : Int) * (d : Int))) : BestL f d (i + 1) val' := by
  have sv := start_val (i := i) p d0
  have so := fun {r x : Int} => start_one (i := i) (r := r) (x := x) p d0
  have q0 := Int.emod_nonneg ((i : Int) + f (i : Int)) (show (d : Int) ≠ 0 by omega)
  have q1 := Int.emod_lt_of_pos ((i : Int) + f (i : Int)) (show (0 : Int) < (d : Int) by omega)
  generalize ((i : Int) + f (i : Int)) % (d : Int) = q at *
  generalize (i : Int) - ((i : Int) + f (i : Int)) / (d : Int) * (d : Int) = s1 at *
  have split : ∀ x : Int, x % (d : Int) < ((i + 1 : Nat) : Int) → x % (d : Int) < (i : Int) ∨ x % (d : Int) = (i : Int) := fun x hx => by omega
  refine ⟨fun r t e => ?_, fun r r0 r1 e x hx hi => ?_⟩
  · by_cases hr : r = q
    · subst hr
      rw [h1] at e
      obtain rfl := Option.some.inj e
      rcases hs with ⟨n, rfl⟩ | ⟨s0, n, rfl⟩
      · refine ⟨q0, q1, sv, fun x hx hi => ?_⟩
        rcases split x hi with h | h
        · exact absurd h (B.no r q0 q1 n x hx)
        · have := (so q0 q1 hx h).2
          omega
      · obtain ⟨_, _, b3, b4⟩ := B.yes r s0 n
        refine ⟨q0, q1, ?_, fun x hx hi => ?_⟩
        · rcases Int.le_total s0 s1 with h | h
          · rw [Int.min_eq_left h]
            exact b3
          · rw [Int.min_eq_right h]
            exact sv
        · rcases split x hi with h | h
          · have := b4 x hx h
            omega
          · have := (so q0 q1 hx h).2
            omega
    · rw [h2 r hr] at e
      obtain ⟨b1, b2, b3, b4⟩ := B.yes r t e
      refine ⟨b1, b2, b3, fun x hx hi => ?_⟩
      rcases split x hi with h | h
      · exact b4 x hx h
      · exact absurd (so b1 b2 hx h).1 hr
  · by_cases hr : r = q
    · rw [hr, h1] at e
      cases e
    · rw [h2 r hr] at e
      rcases split x hi with h | h
      · exact B.no r r0 r1 e x hx h
      · exact hr (so r0 r1 hx h).1
/-- behind all days: the greatest start of a date -/
theorem BestM.at_ {val : Int → Option Int} (p : Per f d) (d0 : 0 < d) (B : BestM f d d val) (y : Int) :
    (∀ s, val (y % (d : Int)) = some s → s + y / (d : Int) * (d : Int) + f (s + y / (d : Int) * (d : Int)) = y ∧ ∀ x, x + f x = y → x ≤ s + y / (d : Int) * (d : Int)) ∧ (val (y % (d : Int)) = none → ∀ x, x + f x ≠ y) := by
  have q0 := Int.emod_nonneg y (show (d : Int) ≠ 0 by omega)
  have q1 := Int.emod_lt_of_pos y (show (0 : Int) < (d : Int) by omega)
  have dm := Int.emod_add_mul_ediv y (d : Int)
  have lt : ∀ x : Int, x % (d : Int) < (d : Int) := fun x => Int.emod_lt_of_pos x (by omega)
  rw [Int.mul_comm (y / (d : Int)) (d : Int)]
  have back : ∀ x, x + f x = y → (x - (d : Int) * (y / (d : Int))) + f (x - (d : Int) * (y / (d : Int))) = y % (d : Int) := fun x hx => by
    rw [p.sub]
    omega
  refine ⟨fun s e => ?_, fun e x hx => ?_⟩
  · obtain ⟨_, _, b3, b4⟩ := B.yes _ s e
    refine ⟨by rw [p.mulI]; omega, fun x hx => ?_⟩
    have := b4 _ (back x hx) (lt _)
    omega
  · exact B.no _ q0 q1 e _ (back x hx) (lt _)
theorem BestL.at_ {val : Int → Option Int} (p : Per f d) (d0 : 0 < d) (B : BestL f d d val) (y : Int) :
    (∀ s, val (y % (d : Int)) = some s → s + y / (d : Int) * (d : Int) + f (s + y / (d : Int) * (d : Int)) = y ∧ ∀ x, x + f x = y → s + y / (d : Int) * (d : Int) ≤ x) ∧ (val (y % (d : Int)) = none → ∀ x, x + f x ≠ y) := by
  have q0 := Int.emod_nonneg y (show (d : Int) ≠ 0 by omega)
  have q1 := Int.emod_lt_of_pos y (show (0 : Int) < (d : Int) by omega)
  have dm := Int.emod_add_mul_ediv y (d : Int)
  have lt : ∀ x : Int, x % (d : Int) < (d : Int) := fun x => Int.emod_lt_of_pos x (by omega)
  rw [Int.mul_comm (y / (d : Int)) (d : Int)]
  have back : ∀ x, x + f x = y → (x - (d : Int) * (y / (d : Int))) + f (x - (d : Int) * (y / (d : Int))) = y % (d : Int) := fun x hx => by
    rw [p.sub]
    omega
  refine ⟨fun s e => ?_, fun e x hx => ?_⟩
  · obtain ⟨_, _, b3, b4⟩ := B.yes _ s e
    refine ⟨by rw [p.mulI]; omega, fun x hx => ?_⟩
    have := b4 _ (back x hx) (lt _)
    omega
  · exact B.no _ q0 q1 e _ (back x hx) (lt _)
/-! ### the walk through two periods -/
/-- dates from -d up to y, without y -/
def TopM (f : Int → Int) (d : Nat) (y : Int) : Option Int → Prop
  | none => ∀ x, -(d : Int) ≤ x + f x → x + f x < y → False
  | some t => -(d : Int) ≤ t + f t ∧ t + f t < y ∧ ∀ x, -(d : Int) ≤ x + f x → x + f x < y → x ≤ t
/-- dates from 2 d - 1 down to y, without y -/
def TopL (f : Int → Int) (d : Nat) (y : Int) : Option Int → Prop
  | none => ∀ x, x + f x < 2 * (d : Int) → y < x + f x → False
  | some t => t + f t < 2 * (d : Int) ∧ y < t + f t ∧ ∀ x, x + f x < 2 * (d : Int) → y < x + f x → t ≤ x
theorem TopM.start : TopM f d (-(d : Int)) none := fun x h1 h2 => by omega
theorem TopL.start : TopL f d (2 * (d : Int) - 1) none := fun x h1 h2 => by omega
theorem TopM.skip {o : Option Int} (T : TopM f d y o) (h : ∀ x, x + f x ≠ y) : TopM f d (y + 1) o := by
  cases o with
  | none => exact fun x h1 h2 => T x h1 (by have := h x; omega)
  | some t => exact ⟨T.1, by have := T.2.1; omega, fun x h1 h2 => T.2.2 x h1 (by have := h x; omega)⟩
theorem TopL.skip {o : Option Int} (T : TopL f d y o) (h : ∀ x, x + f x ≠ y) : TopL f d (y - 1) o := by
  cases o with
  | none => exact fun x h1 h2 => T x h1 (by have := h x; omega)
  | some t => exact ⟨T.1, by have := T.2.1; omega, fun x h1 h2 => T.2.2 x h1 (by have := h x; omega)⟩
theorem TopM.new {s : Int} (hy : -(d : Int) ≤ y) (T : TopM f d y none) (h : s + f s = y) (hm : ∀ x, x + f x = y → x ≤ s) : TopM f d (y + 1) (some s) :=
  ⟨by omega, by omega, fun x h1 h2 => by
    rcases Int.lt_or_eq_of_le (show x + f x ≤ y by omega) with h3 | h3
    · exact (T x h1 h3).elim
    · exact hm x h3⟩
theorem TopL.new {s : Int} (hy : y < 2 * (d : Int)) (T : TopL f d y none) (h : s + f s = y) (hm : ∀ x, x + f x = y → s ≤ x) : TopL f d (y - 1) (some s) :=
  ⟨by omega, by omega, fun x h1 h2 => by
    rcases Int.lt_or_eq_of_le (show y ≤ x + f x by omega) with h3 | h3
    · exact (T x h1 h3).elim
    · exact hm x h3.symm⟩
theorem TopM.more {s : Int} (hy : -(d : Int) ≤ y) (T : TopM f d y (some t)) (h : s + f s = y) (hm : ∀ x, x + f x = y → x ≤ s) : TopM f d (y + 1) (some (max t s)) := by
  obtain ⟨t1, t2, t3⟩ := T
  have hmx : max t s = t ∨ max t s = s := by omega
  refine ⟨by rcases hmx with e | e <;> rw [e] <;> omega, by rcases hmx with e | e <;> rw [e] <;> omega, fun x h1 h2 => ?_⟩
  rcases Int.lt_or_eq_of_le (show x + f x ≤ y by omega) with h3 | h3
  · have := t3 x h1 h3
    omega
  · have := hm x h3
    omega
theorem TopL.more {s : Int} (hy : y < 2 * (d : Int)) (T : TopL f d y (some t)) (h : s + f s = y) (hm : ∀ x, x + f x = y → s ≤ x) : TopL f d (y - 1) (some (min t s)) := by
  obtain ⟨t1, t2, t3⟩ := T
  have hmx : min t s = t ∨ min t s = s := by omega
  refine ⟨by rcases hmx with e | e <;> rw [e] <;> omega, by rcases hmx with e | e <;> rw [e] <;> omega, fun x h1 h2 => ?_⟩
  rcases Int.lt_or_eq_of_le (show y ≤ x + f x by omega) with h3 | h3
  · have := t3 x h1 h3
    omega
  · have := hm x h3.symm
    omega
/-- a start whose value lies in the period from a on -/
theorem start_in (p : Per f d) (d0 : 0 < d) (x k : Int) : ∃ z q, z = x + (d : Int) * q ∧ z + f z = x + f x + (d : Int) * q ∧ (d : Int) * k ≤ z + f z ∧ z + f z < (d : Int) * k + (d : Int) := by
  have q0 := Int.emod_nonneg (x + f x) (show (d : Int) ≠ 0 by omega)
  have q1 := Int.emod_lt_of_pos (x + f x) (show (0 : Int) < (d : Int) by omega)
  have dm := Int.emod_add_mul_ediv (x + f x) (d : Int)
  refine ⟨_, k - (x + f x) / (d : Int), rfl, by rw [p.mulI]; omega, ?_, ?_⟩
  · rw [p.mulI, Int.mul_sub]
    omega
  · rw [p.mulI, Int.mul_sub]
    omega
theorem TopM.lat (p : Per f d) (d0 : 0 < d) (hy : 0 ≤ y) {o : Option Int} (T : TopM f d (y + 1) o) : ∃ t, o = some t ∧ IsLat f y t := by
  cases o with
  | none =>
    obtain ⟨z, q, _, _, h3, h4⟩ := start_in p d0 0 (-1)
    rw [Int.mul_neg, Int.mul_one] at h3 h4
    exact (T z (by omega) (by omega)).elim
  | some t =>
    obtain ⟨t1, t2, t3⟩ := T
    refine ⟨t, rfl, by omega, fun x hx => ?_⟩
    by_cases h : -(d : Int) ≤ x + f x
    · exact t3 x h (by omega)
    · obtain ⟨z, q, h1, h2, h3, h4⟩ := start_in p d0 x (-1)
      rw [Int.mul_neg, Int.mul_one] at h3 h4
      have := t3 z (by omega) (by omega)
      omega
theorem TopL.ear (p : Per f d) (d0 : 0 < d) (hy : y < (d : Int)) {o : Option Int} (T : TopL f d (y - 1) o) : ∃ t, o = some t ∧ IsEar f y t := by
  cases o with
  | none =>
    obtain ⟨z, q, _, _, h3, h4⟩ := start_in p d0 0 1
    rw [Int.mul_one] at h3 h4
    exact (T z (by omega) (by omega)).elim
  | some t =>
    obtain ⟨t1, t2, t3⟩ := T
    refine ⟨t, rfl, by omega, fun x hx => ?_⟩
    by_cases h : x + f x < 2 * (d : Int)
    · exact t3 x h (by omega)
    · obtain ⟨z, q, h1, h2, h3, h4⟩ := start_in p d0 x 1
      rw [Int.mul_one] at h3 h4
      have := t3 z (by omega) (by omega)
      omega
/-! ### lower and upper: the walk -/
def LowW (f : Int → Int) (d : Nat) (y : Int) : Option Int → Prop
  | none => y = 2 * (d : Int) - 1
  | some v => (∃ z, y < z ∧ v = z + f z) ∧ ∀ z, y < z → z < 2 * (d : Int) → v ≤ z + f z
def UppW (f : Int → Int) (d : Nat) (y : Int) : Option Int → Prop
  | none => y = -(d : Int)
  | some v => (∃ z, z < y ∧ v = z + f z) ∧ ∀ z, z < y → -(d : Int) ≤ z → z + f z ≤ v
theorem LowW.first (T : LowW f d y none) : LowW f d (y - 1) (some (y + f y)) := by
  have e : y = 2 * (d : Int) - 1 := T
  exact ⟨⟨y, by omega, rfl⟩, fun z h1 h2 => by
    obtain rfl : z = y := by omega
    exact Int.le_refl _⟩
theorem UppW.first (T : UppW f d y none) : UppW f d (y + 1) (some (y + f y)) := by
  have e : y = -(d : Int) := T
  exact ⟨⟨y, by omega, rfl⟩, fun z h1 h2 => by
    obtain rfl : z = y := by omega
    exact Int.le_refl _⟩
theorem LowW.more (T : LowW f d y (some v)) : LowW f d (y - 1) (some (min v (y + f y))) := by
  obtain ⟨⟨z, z1, z2⟩, h⟩ := T
  refine ⟨?_, fun w h1 h2 => ?_⟩
  · rcases Int.le_total v (y + f y) with c | c
    · exact ⟨z, by omega, by omega⟩
    · exact ⟨y, by omega, by omega⟩
  · by_cases e : w = y
    · subst e
      omega
    · have := h w (by omega) h2
      omega
theorem UppW.more (T : UppW f d y (some v)) : UppW f d (y + 1) (some (max v (y + f y))) := by
  obtain ⟨⟨z, z1, z2⟩, h⟩ := T
  refine ⟨?_, fun w h1 h2 => ?_⟩
  · rcases Int.le_total v (y + f y) with c | c
    · exact ⟨y, by omega, by omega⟩
    · exact ⟨z, by omega, by omega⟩
  · by_cases e : w = y
    · subst e
      omega
    · have := h w (by omega) h2
      omega
theorem day_in (p : Per f d) (d0 : 0 < d) (x k : Int) : ∃ z q, z = x + (d : Int) * q ∧ z + f z = x + f x + (d : Int) * q ∧ (d : Int) * k ≤ z ∧ z < (d : Int) * k + (d : Int) := by
  have q0 := Int.emod_nonneg x (show (d : Int) ≠ 0 by omega)
  have q1 := Int.emod_lt_of_pos x (show (0 : Int) < (d : Int) by omega)
  have dm := Int.emod_add_mul_ediv x (d : Int)
  refine ⟨_, k - x / (d : Int), rfl, by rw [p.mulI]; omega, ?_, ?_⟩
  · rw [Int.mul_sub]
    omega
  · rw [Int.mul_sub]
    omega
theorem LowW.low (p : Per f d) (d0 : 0 < d) (hy : y < (d : Int)) (T : LowW f d (y - 1) (some v)) : IsLow f y v := by
  obtain ⟨⟨z, z1, z2⟩, h⟩ := T
  refine ⟨⟨z, by omega, z2⟩, fun w hw => ?_⟩
  by_cases c : w < 2 * (d : Int)
  · exact h w (by omega) c
  · obtain ⟨u, q, h1, h2, h3, h4⟩ := day_in p d0 w 1
    rw [Int.mul_one] at h3 h4
    have := h u (by omega) (by omega)
    omega
theorem UppW.upp (p : Per f d) (d0 : 0 < d) (hy : 0 ≤ y) (T : UppW f d (y + 1) (some v)) : IsUpp f y v := by
  obtain ⟨⟨z, z1, z2⟩, h⟩ := T
  refine ⟨⟨z, by omega, z2⟩, fun w hw => ?_⟩
  by_cases c : -(d : Int) ≤ w
  · exact h w (by omega) c
  · obtain ⟨u, q, h1, h2, h3, h4⟩ := day_in p d0 w (-1)
    rw [Int.mul_neg, Int.mul_one] at h3 h4
    have := h u (by omega) (by omega)
    omega
end
end My

/-! Plain mathematics: rising maps, the rules of the latest and the earliest start. -/
namespace My
section
variable {f g h e : Int → Int} {x y z : Int}
theorem Rising.nat (r : Rising f) (x : Int) : ∀ n : Nat, x + f x ≤ x + (n : Int) + f (x + (n : Int))
  | 0 => by
    rw [Int.natCast_zero, Int.add_zero]
    exact Int.le_refl _
  | n + 1 => by
    have h1 := Rising.nat r x n
    have h2 := r (x + (n : Int))
    rw [show x + ((n + 1 : Nat) : Int) = x + (n : Int) + 1 by omega]
    omega
theorem Rising.le (r : Rising f) (h : x ≤ y) : x + f x ≤ y + f y := by
  have := r.nat x (y - x).toNat
  rw [show x + ((y - x).toNat : Int) = y by omega] at this
  exact this
theorem rising_of_le (h : ∀ x y : Int, x ≤ y → x + f x ≤ y + f y) : Rising f := fun x => h x (x + 1) (by omega)
theorem Lats.rising (a : Lats f g) : Rising g := fun y => (a (y + 1)).2 _ (by have := (a y).1; omega)
theorem Ears.rising (a : Ears f g) : Rising g := fun y => (a y).2 _ (by have := (a (y + 1)).1; omega)
theorem Lows.rising (a : Lows f g) : Rising g := fun y => by
  obtain ⟨⟨z, z1, z2⟩, _⟩ := a (y + 1)
  rw [z2]
  exact (a y).2 z (by omega)
theorem Upps.rising (a : Upps f g) : Rising g := fun y => by
  obtain ⟨⟨z, z1, z2⟩, _⟩ := a y
  rw [z2]
  exact (a (y + 1)).2 z (by omega)
theorem lat_ear (r : Rising f) (a : Lats f g) (b : Ears f h) (y : Int) : y - 1 + g (y - 1) + 1 = y + h y := by
  have a1 := a (y - 1)
  have b1 := b y
  generalize y - 1 + g (y - 1) = t at a1
  generalize y + h y = u at b1
  have h1 : u ≤ t + 1 := b1.2 (t + 1) (by
    rcases Int.lt_or_le (t + 1 + f (t + 1)) y with c | c
    · have := a1.2 (t + 1) (by omega)
      omega
    · exact c)
  have h2 : t < u := by
    rcases Int.lt_or_le t u with c | c
    · exact c
    · have h3 := r.le c
      have h4 := a1.1
      have h5 := b1.1
      omega
  omega
/-- F t, F (F t): values -/
theorem lat_thn2 (r : Rising g) (a : Lats f h) (b : Lats g e) : Lats (thn2 f g) (thn2 e h) := by
  intro y
  have b1 := b y
  have a1 := a (y + e y)
  have e1 : ∀ x, x + thn2 f g x = x + f x + g (x + f x) := fun x => by
    show x + (f x + g (x + f x)) = _
    omega
  have e2 : y + thn2 e h y = y + e y + h (y + e y) := by
    show y + (e y + h (y + e y)) = _
    omega
  rw [e2]
  refine ⟨?_, fun x hx => ?_⟩
  · rw [e1]
    have h1 := r.le a1.1
    have h2 := b1.1
    omega
  · rw [e1] at hx
    exact a1.2 x (b1.2 _ hx)
theorem ear_thn2 (r : Rising g) (a : Ears f h) (b : Ears g e) : Ears (thn2 f g) (thn2 e h) := by
  intro y
  have b1 := b y
  have a1 := a (y + e y)
  have e1 : ∀ x, x + thn2 f g x = x + f x + g (x + f x) := fun x => by
    show x + (f x + g (x + f x)) = _
    omega
  have e2 : y + thn2 e h y = y + e y + h (y + e y) := by
    show y + (e y + h (y + e y)) = _
    omega
  rw [e2]
  refine ⟨?_, fun x hx => ?_⟩
  · rw [e1]
    have h1 := r.le a1.1
    have h2 := b1.1
    omega
  · rw [e1] at hx
    exact a1.2 x (b1.2 _ hx)
theorem rising_thn2 (a : Rising f) (b : Rising g) : Rising (thn2 f g) := fun x => by
  have := b.le (a x)
  show x + (f x + g (x + f x)) ≤ x + 1 + (f (x + 1) + g (x + 1 + f (x + 1)))
  omega
/-- the latest start of the lower map is that of the map -/
theorem lat_low (a : Lows f g) (b : Lats f h) : Lats g h := by
  intro y
  have b1 := b y
  refine ⟨?_, fun x hx => ?_⟩
  · have := (a (y + h y)).2 _ (Int.le_refl _)
    have := b1.1
    omega
  · obtain ⟨⟨z, z1, z2⟩, _⟩ := a x
    have := b1.2 z (by omega)
    omega
theorem ear_upp (a : Upps f g) (b : Ears f h) : Ears g h := by
  intro y
  have b1 := b y
  refine ⟨?_, fun x hx => ?_⟩
  · have := (a (y + h y)).2 _ (Int.le_refl _)
    have := b1.1
    omega
  · obtain ⟨⟨z, z1, z2⟩, _⟩ := a x
    have := b1.2 z (by omega)
    omega
/-- earliest of latest is lower -/
theorem ear_lat (a : Lats f g) (b : Lows f h) : Ears g h := by
  intro x
  obtain ⟨⟨z, z1, z2⟩, b2⟩ := b x
  refine ⟨?_, fun y hy => ?_⟩
  · have := (a (x + h x)).2 z (by omega)
    omega
  · have := b2 (y + g y) hy
    have := (a y).1
    omega
theorem lat_ear2 (a : Ears f g) (b : Upps f h) : Lats g h := by
  intro x
  obtain ⟨⟨z, z1, z2⟩, b2⟩ := b x
  refine ⟨?_, fun y hy => ?_⟩
  · have := (a (x + h x)).2 z (by omega)
    omega
  · have := b2 (y + g y) hy
    have := (a y).1
    omega
theorem Rising.lows (r : Rising f) : Lows f f := fun y => ⟨⟨y, Int.le_refl _, rfl⟩, fun _ hz => r.le hz⟩
theorem Rising.upps (r : Rising f) : Upps f f := fun y => ⟨⟨y, Int.le_refl _, rfl⟩, fun _ hz => r.le hz⟩
theorem rising_iff_low (a : Lows f g) : Rising f ↔ f = g := ⟨fun r => r.lows.uniq a, fun e => e ▸ a.rising⟩
theorem rising_iff_upp (a : Upps f g) : Rising f ↔ f = g := ⟨fun r => r.upps.uniq a, fun e => e ▸ a.rising⟩
theorem lats_const (d : Int) : Lats (fun _ => d) (fun _ => -d) := fun y => ⟨by
  show y + -d + d ≤ y
  omega, fun x hx => by
  have : x + d ≤ y := hx
  show x ≤ y + -d
  omega⟩
theorem ears_const (d : Int) : Ears (fun _ => d) (fun _ => -d) := fun y => ⟨by
  show y ≤ y + -d + d
  omega, fun x hx => by
  have : y ≤ x + d := hx
  show y + -d ≤ x
  omega⟩
theorem lats_below (a : Lats f g) (b : Lats h e) (hle : ∀ x, f x ≤ h x) (y : Int) : e y ≤ g y := by
  have h1 := (b y).1
  have h2 := hle (y + e y)
  have := (a y).2 (y + e y) (by omega)
  omega
theorem ears_below (a : Ears f g) (b : Ears h e) (hle : ∀ x, f x ≤ h x) (y : Int) : e y ≤ g y := by
  have h1 := (a y).1
  have h2 := hle (y + g y)
  have := (b y).2 (y + g y) (by omega)
  omega
end
end My

/-! Plain mathematics: a walk through remainders; lists written several times. -/
namespace My
/-- the date behind j steps -/
def it (f : Int → Int) (x : Int) (j : Nat) : Int := x + pw f j x
section
variable {f : Int → Int} {d : Nat} {x : Int}
theorem it_zero : it f x 0 = x := Int.add_zero x
theorem it_succ (j : Nat) : it f x (j + 1) = it f x j + f (it f x j) := by
  show x + (pw f j x + f (x + pw f j x)) = x + pw f j x + f (x + pw f j x)
  omega
theorem it_add (a b : Nat) : it f x (a + b) = it f (it f x a) b := by
  show x + pw f (a + b) x = x + pw f a x + pw f b (x + pw f a x)
  rw [pw_add]
  show x + (pw f a x + pw f b (x + pw f a x)) = _
  omega
theorem it_per (p : Per f d) (k : Int) (j : Nat) : it f (x + (d : Int) * k) j = it f x j + (d : Int) * k := by
  show x + (d : Int) * k + pw f j (x + (d : Int) * k) = x + pw f j x + (d : Int) * k
  rw [(per_pw p j).mulI]
  omega
theorem it_turns (p : Per f d) {a s : Nat} {k : Int} (h : it f x (a + s) = it f x a + (d : Int) * k) : ∀ q : Nat, it f x (a + s * q) = it f x a + (d : Int) * (k * (q : Int))
  | 0 => by
    rw [Nat.mul_zero, Nat.add_zero, Int.natCast_zero, Int.mul_zero, Int.mul_zero, Int.add_zero]
  | q + 1 => by
    have ih := it_turns p h q
    rw [Nat.mul_succ, ← Nat.add_assoc, it_add, ih, it_per p, ← it_add, h, Int.natCast_add, Int.natCast_one, Int.mul_add, Int.mul_one, Int.mul_add]
    omega
theorem it_ring (p : Per f d) {a s : Nat} (s0 : 0 < s) (h : it f x (a + s) % (d : Int) = it f x a % (d : Int)) (c : Nat) (hc : a ≤ c) :
    it f x c = it f x (a + (c - a) % s) + (((c - a) / s : Nat) : Int) * (it f x (a + s) - it f x a) := by
  obtain ⟨k, hk⟩ : ∃ k, it f x (a + s) = it f x a + (d : Int) * k := by
    have e1 := Int.emod_add_mul_ediv (it f x (a + s)) (d : Int)
    have e2 := Int.emod_add_mul_ediv (it f x a) (d : Int)
    refine ⟨it f x (a + s) / (d : Int) - it f x a / (d : Int), ?_⟩
    rw [Int.mul_sub]
    omega
  have e := it_turns p hk ((c - a) / s)
  have hd := Nat.mod_add_div (c - a) s
  have hc2 : c = a + s * ((c - a) / s) + (c - a) % s := by omega
  have e2 : it f x c = it f x (a + (c - a) % s) + (d : Int) * (k * (((c - a) / s : Nat) : Int)) := by
    have e3 : it f x (a + s * ((c - a) / s) + (c - a) % s) = it f x (a + (c - a) % s) + (d : Int) * (k * (((c - a) / s : Nat) : Int)) := by
      rw [it_add, e, it_per p, ← it_add]
    rw [← hc2] at e3
    exact e3
  rw [e2, hk]
  congr 1
  rw [show it f x a + (d : Int) * k - it f x a = (d : Int) * k by omega, Int.mul_comm k, ← Int.mul_assoc, Int.mul_comm (d : Int), Int.mul_assoc]
end
theorem pigeon : ∀ (d : Nat) (l : List Nat), l.Nodup → (∀ v ∈ l, v < d) → l.length ≤ d
  | 0, l, _, h => by
    cases l with
    | nil => exact Nat.le_refl _
    | cons v l => exact absurd (h v List.mem_cons_self) (Nat.not_lt_zero _)
  | d + 1, l, nd, h => by
    have h1 := pigeon d (l.erase d) (nd.erase d) fun v hv => by
      have h2 := (nd.mem_erase_iff).mp hv
      have := h v h2.2
      omega
    by_cases hm : d ∈ l
    · have := List.length_erase_of_mem hm
      omega
    · rw [List.erase_of_not_mem hm] at h1
      omega
theorem rep_flat (r : List Int) (k : Nat) : (List.replicate k r).flatten = tab (r.length * k) (off r) := by
  have h := rep_tab (off_per (r := r)) k
  rw [tab_off] at h
  exact h
theorem off_rep {r : List Int} {k : Nat} (h0 : 0 < r.length) (hk : 0 < k) : off (List.replicate k r).flatten = off r := by
  rw [rep_flat, off_tab (Nat.mul_pos h0 hk) (off_per.mulN k)]
theorem tab_mem {n : Nat} {f : Int → Int} {v : Int} (h : v ∈ tab n f) : ∃ i : Nat, i < n ∧ v = f (i : Int) := by
  unfold tab at h
  obtain ⟨i, hi, rfl⟩ := List.mem_map.mp h
  exact ⟨i, List.mem_range.mp hi, rfl⟩
end My

/-! Plain mathematics: the longest pieces of a list of offsets. -/
namespace My
/-- from j on as long as P holds at the next one -/
def grow (P : Nat → Prop) [DecidablePred P] : Nat → Nat → Nat
  | 0, j => j
  | k + 1, j => if P (j + 1) then grow P k (j + 1) else j
section
variable {P : Nat → Prop} [DecidablePred P]
theorem grow_ge : ∀ k j, j ≤ grow P k j
  | 0, j => Nat.le_refl _
  | k + 1, j => by
    unfold grow
    split
    · exact Nat.le_trans (Nat.le_succ j) (grow_ge k (j + 1))
    · exact Nat.le_refl _
theorem grow_stop {k j : Nat} (h : ¬ P (j + 1)) : grow P k j = j := by
  cases k with
  | zero => rfl
  | succ k =>
    unfold grow
    rw [if_neg h]
theorem grow_go {k j : Nat} (h : P (j + 1)) : grow P (k + 1) j = grow P k (j + 1) := by
  rw [grow, if_pos h]
theorem grow_lt {n : Nat} (h : ∀ j, P j → j < n) : ∀ k j, j < n → grow P k j < n
  | 0, j, hj => hj
  | k + 1, j, hj => by
    unfold grow
    split
    · rename_i hp
      exact grow_lt h k (j + 1) (h _ hp)
    · exact hj
end
def ByP (r : List Int) (i k : Nat) : Prop := k < r.length ∧ off r (k : Int) = off r (i : Int)
def ToP (r : List Int) (i k : Nat) : Prop := k < r.length ∧ (k : Int) + off r (k : Int) = (i : Int) + off r (i : Int)
instance (r : List Int) (i : Nat) : DecidablePred (ByP r i) := fun k => inferInstanceAs (Decidable (_ ∧ _))
instance (r : List Int) (i : Nat) : DecidablePred (ToP r i) := fun k => inferInstanceAs (Decidable (_ ∧ _))
def lastBy (r : List Int) (i : Nat) : Nat := grow (ByP r i) r.length i
def lastTo (r : List Int) (i : Nat) : Nat := grow (ToP r i) r.length i
theorem lastBy_ge (r : List Int) (i : Nat) : i ≤ lastBy r i := grow_ge _ _
theorem lastTo_ge (r : List Int) (i : Nat) : i ≤ lastTo r i := grow_ge _ _
theorem lastBy_lt {r : List Int} {i : Nat} (h : i < r.length) : lastBy r i < r.length := grow_lt (fun _ p => p.1) _ _ h
theorem lastTo_lt {r : List Int} {i : Nat} (h : i < r.length) : lastTo r i < r.length := grow_lt (fun _ p => p.1) _ _ h
/-- a piece: its last day, whether it leads to one date, its number -/
def pcLast (r : List Int) (i : Nat) : Nat := max (lastBy r i) (lastTo r i)
def pcTo (r : List Int) (i : Nat) : Bool := decide (lastBy r i < lastTo r i)
def pcNum (r : List Int) (i : Nat) : Int := if pcTo r i then (i : Int) + off r (i : Int) else off r (i : Int)
/-- the first days of the pieces -/
def fs (r : List Int) : Nat → Nat
  | 0 => 0
  | k + 1 => pcLast r (fs r k) + 1
theorem pcLast_ge (r : List Int) (i : Nat) : i ≤ pcLast r i := Nat.le_trans (lastBy_ge r i) (Nat.le_max_left _ _)
theorem pcLast_lt {r : List Int} {i : Nat} (h : i < r.length) : pcLast r i < r.length := by
  have h1 := lastBy_lt h
  have h2 := lastTo_lt h
  unfold pcLast
  omega
theorem fs_lt (r : List Int) (k : Nat) : fs r k < fs r (k + 1) := Nat.lt_succ_of_le (pcLast_ge r _)
theorem fs_ge (r : List Int) : ∀ k, k ≤ fs r k
  | 0 => Nat.le_refl _
  | k + 1 => Nat.lt_of_le_of_lt (fs_ge r k) (fs_lt r k)
/-- k pieces cover the list -/
structure IsCount (r : List Int) (k : Nat) : Prop where
  low : ∀ j, j < k → fs r j < r.length
  end_ : ¬ fs r k < r.length
theorem IsCount.uniq {r : List Int} {a b : Nat} (x : IsCount r a) (y : IsCount r b) : a = b := by
  rcases Nat.lt_trichotomy a b with h | h | h
  · exact absurd (y.low a h) x.end_
  · exact h
  · exact absurd (x.low b h) y.end_
theorem IsCount.le {r : List Int} {k : Nat} (x : IsCount r k) : k ≤ r.length := by
  rcases Nat.eq_zero_or_pos k with h | h
  · omega
  · have h1 := x.low (k - 1) (by omega)
    have h2 := fs_ge r (k - 1)
    omega
theorem IsCount.pos {r : List Int} {k : Nat} (x : IsCount r k) (h : 0 < r.length) : 0 < k := by
  rcases Nat.eq_zero_or_pos k with e | e
  · rw [e] at x
    exact absurd h x.end_
  · exact e
theorem IsCount.last {r : List Int} {k : Nat} (x : IsCount r (k + 1)) : pcLast r (fs r k) = r.length - 1 := by
  have h1 := x.end_
  have h2 := pcLast_lt (x.low k (Nat.lt_succ_self k))
  have h3 : fs r (k + 1) = pcLast r (fs r k) + 1 := rfl
  omega
/-- one day otherwise: no shorter period -/
theorem least_one {r : List Int} {m : Nat} {b e : Int} (hm : m < r.length) (he : r[m]? = some e) (ho : ∀ j, j < r.length → j ≠ m → r[j]? = some b) (hne : e ≠ b) : Least (off r) r.length := by
  have h0 : 0 < r.length := by omega
  refine ⟨h0, off_per, fun d d0 pd => ?_⟩
  have g := Per.gcd d r.length pd off_per
  have g0 : 0 < Nat.gcd d r.length := Nat.gcd_pos_of_pos_left _ d0
  have gr : Nat.gcd d r.length ∣ r.length := Nat.gcd_dvd_right _ _
  have gle := Nat.le_of_dvd h0 gr
  rcases Nat.eq_or_lt_of_le gle with h | h
  · rw [← h]
    exact Nat.gcd_dvd_left _ _
  · exfalso
    generalize Nat.gcd d r.length = c at g g0 gr h
    have em : off r (m : Int) = e := by
      have := off_nat hm
      rw [he] at this
      exact (Option.some.inj this).symm
    have hx : off r ((m : Int) + (c : Int)) = e := by rw [g, em]
    by_cases hlt : m + c < r.length
    · have h2 := off_nat hlt
      rw [ho (m + c) hlt (by omega)] at h2
      have h3 := Option.some.inj h2
      rw [show ((m + c : Nat) : Int) = (m : Int) + (c : Int) by omega, hx] at h3
      exact hne h3.symm
    · have h4 := off_per.back (f := off r) ((m : Int) + (c : Int))
      rw [hx, show (m : Int) + (c : Int) - (r.length : Int) = ((m + c - r.length : Nat) : Int) by omega] at h4
      have h2 := off_nat (r := r) (i := m + c - r.length) (by omega)
      rw [ho _ (by omega) (by omega)] at h2
      have h3 := Option.some.inj h2
      rw [h4] at h3
      exact hne h3.symm
end My

/-! Plain mathematics: a map that is the same but for one day of its period. -/
namespace My
theorem off_set {r : List Int} {v : Int} (h0 : 0 < r.length) (y x : Int) : off (r.set (y % (r.length : Int)).toNat v) x = if x % (r.length : Int) = y % (r.length : Int) then v else off r x := by
  have y0 := Int.emod_nonneg y (show (r.length : Int) ≠ 0 by omega)
  have y1 := Int.emod_lt_of_pos y (show (0 : Int) < (r.length : Int) by omega)
  have x0 := Int.emod_nonneg x (show (r.length : Int) ≠ 0 by omega)
  have x1 := Int.emod_lt_of_pos x (show (0 : Int) < (r.length : Int) by omega)
  have hl : (r.set (y % (r.length : Int)).toNat v).length = r.length := List.length_set
  have e := off_get (r := r.set (y % (r.length : Int)).toNat v) (by rw [hl]; exact h0) x
  rw [hl] at e
  by_cases c : x % (r.length : Int) = y % (r.length : Int)
  · rw [if_pos c]
    rw [c, List.getElem?_set_self (by omega)] at e
    exact (Option.some.inj e).symm
  · rw [if_neg c]
    rw [List.getElem?_set_ne (by omega), off_get h0] at e
    exact (Option.some.inj e).symm
/-- the rows with changes -/
def chRow (span : Nat) (r : List Int) (c : Int × Int) : List Int := r.set (c.1 % (span : Int)).toNat c.2
def longR (span : Nat) (b : Int) (cs : List (Int × Int)) : List Int := cs.foldl (chRow span) (List.replicate span b)
theorem foldl_len (span : Nat) : ∀ (cs : List (Int × Int)) (r : List Int), (cs.foldl (chRow span) r).length = r.length
  | [], r => rfl
  | c :: cs, r => by
    rw [List.foldl_cons, foldl_len span cs]
    unfold chRow
    rw [List.length_set]
theorem longR_length (span : Nat) (b : Int) (cs : List (Int × Int)) : (longR span b cs).length = span := by
  unfold longR
  rw [foldl_len, List.length_replicate]
theorem longR_snoc (span : Nat) (b : Int) (cs : List (Int × Int)) (c : Int × Int) : longR span b (cs ++ [c]) = chRow span (longR span b cs) c := by
  unfold longR
  rw [List.foldl_append]
  rfl
section
variable {n : Nat}
theorem off_rep1 {b : Int} (h0 : 0 < n) (x : Int) : off (List.replicate n b) x = b := by
  have hl : (List.replicate n b).length = n := List.length_replicate
  have e := off_get (r := List.replicate n b) (by omega) x
  have := List.mem_of_getElem? e
  exact (List.mem_replicate.mp this).2
theorem mod_sub_iff (h0 : 0 < n) {x y c : Int} (hc : 0 ≤ c) (hc1 : c < (n : Int)) : x % (n : Int) = (y + c) % (n : Int) ↔ (x - y) % (n : Int) = c := by
  have a1 := Int.emod_add_mul_ediv x (n : Int)
  have a2 := Int.emod_add_mul_ediv (y + c) (n : Int)
  have a3 := Int.emod_add_mul_ediv (x - y) (n : Int)
  constructor
  · intro h
    have e : x - y = c + (n : Int) * (x / (n : Int) - (y + c) / (n : Int)) := by
      rw [Int.mul_sub]
      omega
    rw [e, Int.add_mul_emod_self_left, Int.emod_eq_of_lt hc hc1]
  · intro h
    have e : x = y + c + (n : Int) * ((x - y) / (n : Int)) := by omega
    rw [e, Int.add_mul_emod_self_left]
/-- changes at s, s + 1, .. by e, e - 1, .. -/
theorem long_up (h0 : 0 < n) (b s e : Int) : ∀ g : Nat, g ≤ n → ∀ x, off (longR n b ((List.range g).map fun k : Nat => (s + (k : Int), e - (k : Int)))) x = if (x - s) % (n : Int) < (g : Int) then e - (x - s) % (n : Int) else b
  | 0, _, x => by
    have := Int.emod_nonneg (x - s) (show (n : Int) ≠ 0 by omega)
    rw [if_neg (by omega)]
    exact off_rep1 h0 x
  | g + 1, hg, x => by
    have ih := long_up h0 b s e g (by omega) x
    have hl := longR_length n b ((List.range g).map fun k : Nat => (s + (k : Int), e - (k : Int)))
    have m0 := Int.emod_nonneg (x - s) (show (n : Int) ≠ 0 by omega)
    rw [List.range_succ, List.map_append, List.map_singleton, longR_snoc]
    unfold chRow
    have os := off_set (r := longR n b ((List.range g).map fun k : Nat => (s + (k : Int), e - (k : Int)))) (v := e - (g : Int)) (by omega) (s + (g : Int)) x
    rw [hl] at os
    show off ((longR n b ((List.range g).map fun k : Nat => (s + (k : Int), e - (k : Int)))).set ((s + (g : Int)) % (n : Int)).toNat (e - (g : Int))) x = _
    rw [os]
    have iff := mod_sub_iff h0 (x := x) (y := s) (c := (g : Int)) (by omega) (by omega)
    by_cases c : x % (n : Int) = (s + (g : Int)) % (n : Int)
    · have := iff.mp c
      rw [if_pos c, if_pos (by omega), this]
    · have : (x - s) % (n : Int) ≠ (g : Int) := fun h => c (iff.mpr h)
      rw [if_neg c, ih]
      by_cases d : (x - s) % (n : Int) < (g : Int)
      · rw [if_pos d, if_pos (by omega)]
      · rw [if_neg d, if_neg (by omega)]
/-- changes at s, s - 1, .. by e, e + 1, .. -/
theorem long_down (h0 : 0 < n) (b s e : Int) : ∀ g : Nat, g ≤ n → ∀ x, off (longR n b ((List.range g).map fun k : Nat => (s - (k : Int), e + (k : Int)))) x = if (s - x) % (n : Int) < (g : Int) then e + (s - x) % (n : Int) else b
  | 0, _, x => by
    have := Int.emod_nonneg (s - x) (show (n : Int) ≠ 0 by omega)
    rw [if_neg (by omega)]
    exact off_rep1 h0 x
  | g + 1, hg, x => by
    have ih := long_down h0 b s e g (by omega) x
    have hl := longR_length n b ((List.range g).map fun k : Nat => (s - (k : Int), e + (k : Int)))
    have m0 := Int.emod_nonneg (s - x) (show (n : Int) ≠ 0 by omega)
    rw [List.range_succ, List.map_append, List.map_singleton, longR_snoc]
    unfold chRow
    have os := off_set (r := longR n b ((List.range g).map fun k : Nat => (s - (k : Int), e + (k : Int)))) (v := e + (g : Int)) (by omega) (s - (g : Int)) x
    rw [hl] at os
    show off ((longR n b ((List.range g).map fun k : Nat => (s - (k : Int), e + (k : Int)))).set ((s - (g : Int)) % (n : Int)).toNat (e + (g : Int))) x = _
    rw [os]
    have iff := mod_sub_iff h0 (x := s) (y := x) (c := (g : Int)) (by omega) (by omega)
    have iff2 := mod_sub_iff h0 (x := x) (y := s - (g : Int)) (c := 0) (by omega) (by omega)
    have link : x % (n : Int) = (s - (g : Int)) % (n : Int) ↔ (s - x) % (n : Int) = (g : Int) := by
      rw [← iff]
      constructor
      · intro h
        have h1 : (x + (g : Int)) % (n : Int) = (s - (g : Int) + (g : Int)) % (n : Int) := by rw [Int.add_emod, h, ← Int.add_emod]
        rw [Int.sub_add_cancel] at h1
        exact h1.symm
      · intro h
        have h1 : (s - (g : Int)) % (n : Int) = (x + (g : Int) - (g : Int)) % (n : Int) := by rw [Int.sub_emod, h, ← Int.sub_emod]
        rw [Int.add_sub_cancel] at h1
        exact h1.symm
    by_cases c : x % (n : Int) = (s - (g : Int)) % (n : Int)
    · have := link.mp c
      rw [if_pos c, if_pos (by omega), this]
    · have : (s - x) % (n : Int) ≠ (g : Int) := fun h => c (link.mpr h)
      rw [if_neg c, ih]
      by_cases d : (s - x) % (n : Int) < (g : Int)
      · rw [if_pos d, if_pos (by omega)]
      · rw [if_neg d, if_neg (by omega)]
/-- the greatest multiple up to c -/
theorem mul_le_of {a c : Int} (h0 : 0 < n) (ha : a % (n : Int) = 0) (h : a ≤ c) : a ≤ c - c % (n : Int) := by
  have a1 := Int.emod_add_mul_ediv a (n : Int)
  have c1 := Int.emod_add_mul_ediv c (n : Int)
  have h1 : a / (n : Int) ≤ c / (n : Int) := Int.ediv_le_ediv (by omega) h
  have h2 := Int.mul_le_mul_of_nonneg_left h1 (show (0 : Int) ≤ (n : Int) by omega)
  omega
/-- one day is otherwise: e instead of b -/
def One (f : Int → Int) (n : Nat) (s b e : Int) : Prop := ∀ x, f x = if (x - s) % (n : Int) = 0 then e else b
variable {f : Int → Int} {s b e : Int}
theorem One.at_ (h : One f n s b e) {x : Int} (c : (x - s) % (n : Int) = 0) : f x = e := by rw [h x, if_pos c]
theorem One.else_ (h : One f n s b e) {x : Int} (c : ¬ (x - s) % (n : Int) = 0) : f x = b := by rw [h x, if_neg c]
theorem One.cases (h : One f n s b e) (x : Int) : ((x - s) % (n : Int) = 0 ∧ f x = e) ∨ (¬ (x - s) % (n : Int) = 0 ∧ f x = b) := by
  by_cases c : (x - s) % (n : Int) = 0
  · exact .inl ⟨c, h.at_ c⟩
  · exact .inr ⟨c, h.else_ c⟩
theorem one_long (h0 : 0 < n) (s b e : Int) : One (off (longR n b [(s, e)])) n s b e := fun x => by
  have h := long_up h0 b s e 1 (by omega) x
  have e1 : (List.range 1).map (fun k : Nat => (s + (k : Int), e - (k : Int))) = [(s, e)] := by
    show [(s + ((0 : Nat) : Int), e - ((0 : Nat) : Int))] = _
    rw [Int.natCast_zero, Int.add_zero, Int.sub_zero]
  rw [e1] at h
  rw [h]
  have m0 := Int.emod_nonneg (x - s) (show (n : Int) ≠ 0 by omega)
  by_cases c : (x - s) % (n : Int) = 0
  · rw [if_pos c, if_pos (by omega), c, Int.sub_zero]
  · rw [if_neg c, if_neg (by omega)]
theorem succ_mod (h1 : 1 < n) {x : Int} (h : x % (n : Int) = 0) : ¬ (x + 1) % (n : Int) = 0 := fun h2 => by
  have a1 := Int.emod_add_mul_ediv x (n : Int)
  rw [h, Int.zero_add] at a1
  rw [← a1, Int.add_comm, Int.add_mul_emod_self_left, Int.emod_eq_of_lt (by omega) (by omega)] at h2
  omega
theorem pred_mod (h1 : 1 < n) {x : Int} (h : x % (n : Int) = 0) : ¬ (x - 1) % (n : Int) = 0 := fun h2 => by
  have := succ_mod h1 h2
  rw [Int.sub_add_cancel] at this
  exact this h
section
variable {g : Int → Int}
/-- more on one day: lower -/
theorem one_low_up (h1 : 1 < n) (h : One f n s b e) (hb : b < e) (hg : One g n s b (b + 1)) : Lows f g := fun x => by
  have all : ∀ z, z + b ≤ z + f z := fun z => by rcases h.cases z with ⟨_, c⟩ | ⟨_, c⟩ <;> omega
  rcases hg.cases x with ⟨c, d⟩ | ⟨c, d⟩
  · refine ⟨⟨x + 1, by omega, ?_⟩, fun z hz => ?_⟩
    · have : f (x + 1) = b := h.else_ (by rw [show x + 1 - s = x - s + 1 by omega]; exact succ_mod h1 c)
      omega
    · by_cases ez : z = x
      · have := h.at_ c
        rw [ez]
        omega
      · have := all z
        omega
  · refine ⟨⟨x, Int.le_refl _, by rw [h.else_ c]; omega⟩, fun z hz => ?_⟩
    have := all z
    omega
/-- .. upper -/
theorem one_upp_up (h0 : 0 < n) (h : One f n s b e) {m : Nat} (hm : e = b + (m : Int)) (m0 : 0 < m) (hg : ∀ x, g x = if (x - s) % (n : Int) < (m : Int) then e - (x - s) % (n : Int) else b) : Upps f g := fun x => by
  have q0 := Int.emod_nonneg (x - s) (show (n : Int) ≠ 0 by omega)
  have top : ∀ z, z ≤ x → (z - s) % (n : Int) = 0 → z ≤ x - (x - s) % (n : Int) := fun z hz hc => by
    have := mul_le_of h0 hc (show z - s ≤ x - s by omega)
    omega
  have dm : (x - (x - s) % (n : Int) - s) % (n : Int) = 0 := by
    have a1 := Int.emod_add_mul_ediv (x - s) (n : Int)
    rw [show x - (x - s) % (n : Int) - s = (n : Int) * ((x - s) / (n : Int)) by omega, Int.mul_emod_right]
  rw [hg x]
  by_cases c : (x - s) % (n : Int) < (m : Int)
  · rw [if_pos c]
    refine ⟨⟨x - (x - s) % (n : Int), by omega, by rw [h.at_ dm]; omega⟩, fun z hz => ?_⟩
    rcases h.cases z with ⟨c1, c2⟩ | ⟨c1, c2⟩
    · have := top z hz c1
      omega
    · omega
  · rw [if_neg c]
    refine ⟨⟨x, Int.le_refl _, by rw [h.else_ (by omega)]⟩, fun z hz => ?_⟩
    rcases h.cases z with ⟨c1, c2⟩ | ⟨c1, c2⟩
    · have := top z hz c1
      omega
    · omega
/-- less on one day: upper -/
theorem one_upp_down (h1 : 1 < n) (h : One f n s b e) (hb : e < b) (hg : One g n s b (b - 1)) : Upps f g := fun x => by
  have all : ∀ z, z + f z ≤ z + b := fun z => by rcases h.cases z with ⟨_, c⟩ | ⟨_, c⟩ <;> omega
  rcases hg.cases x with ⟨c, d⟩ | ⟨c, d⟩
  · refine ⟨⟨x - 1, by omega, ?_⟩, fun z hz => ?_⟩
    · have : f (x - 1) = b := h.else_ (by rw [show x - 1 - s = x - s - 1 by omega]; exact pred_mod h1 c)
      omega
    · by_cases ez : z = x
      · have := h.at_ c
        rw [ez]
        omega
      · have := all z
        omega
  · refine ⟨⟨x, Int.le_refl _, by rw [h.else_ c]; omega⟩, fun z hz => ?_⟩
    have := all z
    omega
/-- .. lower -/
theorem one_low_down (h0 : 0 < n) (h : One f n s b e) {m : Nat} (hm : e = b - (m : Int)) (m0 : 0 < m) (hg : ∀ x, g x = if (s - x) % (n : Int) < (m : Int) then e + (s - x) % (n : Int) else b) : Lows f g := fun x => by
  have q0 := Int.emod_nonneg (s - x) (show (n : Int) ≠ 0 by omega)
  have neg : ∀ z : Int, (z - s) % (n : Int) = 0 → (s - z) % (n : Int) = 0 := fun z hz => by
    rw [show s - z = -(z - s) by omega]
    exact Int.emod_eq_zero_of_dvd (Int.dvd_neg.mpr (Int.dvd_of_emod_eq_zero hz))
  have low : ∀ z, x ≤ z → (z - s) % (n : Int) = 0 → x + (s - x) % (n : Int) ≤ z := fun z hz hc => by
    have := mul_le_of h0 (neg z hc) (show s - z ≤ s - x by omega)
    omega
  have dm : (x + (s - x) % (n : Int) - s) % (n : Int) = 0 := by
    have a1 := Int.emod_add_mul_ediv (s - x) (n : Int)
    rw [show x + (s - x) % (n : Int) - s = (n : Int) * (-((s - x) / (n : Int))) by rw [Int.mul_neg]; omega, Int.mul_emod_right]
  rw [hg x]
  by_cases c : (s - x) % (n : Int) < (m : Int)
  · rw [if_pos c]
    refine ⟨⟨x + (s - x) % (n : Int), by omega, by rw [h.at_ dm]; omega⟩, fun z hz => ?_⟩
    rcases h.cases z with ⟨c1, c2⟩ | ⟨c1, c2⟩
    · have := low z hz c1
      omega
    · omega
  · rw [if_neg c]
    have hx : ¬ (x - s) % (n : Int) = 0 := fun h2 => by
      have := neg x h2
      omega
    refine ⟨⟨x, Int.le_refl _, by rw [h.else_ hx]⟩, fun z hz => ?_⟩
    rcases h.cases z with ⟨c1, c2⟩ | ⟨c1, c2⟩
    · have := low z hz c1
      omega
    · omega
end
/-- a fall -/
theorem one_fall_up (h1 : 1 < n) (h : One f n s b e) (hb : b < e) (x : Int) : x + 1 + f (x + 1) < x + f x ↔ (x - s) % (n : Int) = 0 ∧ b + 1 < e := by
  constructor
  · intro hl
    rcases h.cases x with ⟨c, d⟩ | ⟨c, d⟩
    · have : f (x + 1) = b := h.else_ (by rw [show x + 1 - s = x - s + 1 by omega]; exact succ_mod h1 c)
      exact ⟨c, by omega⟩
    · rcases h.cases (x + 1) with ⟨_, c2⟩ | ⟨_, c2⟩ <;> omega
  · rintro ⟨c, d⟩
    have h2 : f (x + 1) = b := h.else_ (by rw [show x + 1 - s = x - s + 1 by omega]; exact succ_mod h1 c)
    have h3 := h.at_ c
    omega
theorem one_fall_down (h1 : 1 < n) (h : One f n s b e) (hb : e < b) (x : Int) : x + 1 + f (x + 1) < x + f x ↔ (x + 1 - s) % (n : Int) = 0 ∧ e + 1 < b := by
  constructor
  · intro hl
    rcases h.cases (x + 1) with ⟨c, d⟩ | ⟨c, d⟩
    · have : f x = b := h.else_ (by rw [show x - s = x + 1 - s - 1 by omega]; exact pred_mod h1 c)
      exact ⟨c, by omega⟩
    · rcases h.cases x with ⟨_, c2⟩ | ⟨_, c2⟩ <;> omega
  · rintro ⟨c, d⟩
    have h2 : f x = b := h.else_ (by rw [show x - s = x + 1 - s - 1 by omega]; exact pred_mod h1 c)
    have h3 := h.at_ c
    omega
end
end My

/-! Plain mathematics: the latest and the earliest start of such maps; by remainders. -/
namespace My
def dual (f : Int → Int) : Int → Int := fun x => -f (-x)
theorem dual_dual (f : Int → Int) : dual (dual f) = f := by
  funext x
  show - -f (- -x) = f x
  rw [Int.neg_neg, Int.neg_neg]
theorem lat_of_dual {f : Int → Int} {y t : Int} (h : IsEar (dual f) (-y) (-t)) : IsLat f y t := by
  refine ⟨?_, fun x hx => ?_⟩
  · have h1 : -y ≤ -t + -f (- -t) := h.1
    rw [Int.neg_neg] at h1
    omega
  · have := h.2 (-x) (by
      show -y ≤ -x + -f (- -x)
      rw [Int.neg_neg]
      omega)
    omega
theorem ear_of_dual {f : Int → Int} {y t : Int} (h : IsLat (dual f) (-y) (-t)) : IsEar f y t := by
  refine ⟨?_, fun x hx => ?_⟩
  · have h1 : -t + -f (- -t) ≤ -y := h.1
    rw [Int.neg_neg] at h1
    omega
  · have := h.2 (-x) (by
      show -x + -f (- -x) ≤ -y
      rw [Int.neg_neg]
      omega)
    omega
theorem Lats.of_dual {f g : Int → Int} (h : Ears (dual f) (dual g)) : Lats f g := fun y => lat_of_dual (by
  have h1 := h (-y)
  have e : -y + dual g (-y) = -(y + g y) := by
    show -y + -g (- -y) = _
    rw [Int.neg_neg]
    omega
  rw [e] at h1
  exact h1)
theorem Ears.of_dual {f g : Int → Int} (h : Lats (dual f) (dual g)) : Ears f g := fun y => ear_of_dual (by
  have h1 := h (-y)
  have e : -y + dual g (-y) = -(y + g y) := by
    show -y + -g (- -y) = _
    rw [Int.neg_neg]
    omega
  rw [e] at h1
  exact h1)
section
variable {n : Nat} {f g : Int → Int} {s b e : Int}
theorem neg_mod_zero {x : Int} : (-x) % (n : Int) = 0 ↔ x % (n : Int) = 0 :=
  ⟨fun h => Int.emod_eq_zero_of_dvd (Int.dvd_neg.mp (Int.dvd_of_emod_eq_zero h)), fun h => Int.emod_eq_zero_of_dvd (Int.dvd_neg.mpr (Int.dvd_of_emod_eq_zero h))⟩
theorem One.dual (h : One f n s b e) : One (dual f) n (-s) (-b) (-e) := fun x => by
  have h1 : (x - -s) % (n : Int) = 0 ↔ (-x - s) % (n : Int) = 0 := by
    rw [← neg_mod_zero, show -(x - -s) = -x - s by omega]
  show -f (-x) = _
  rw [h (-x)]
  by_cases c : (-x - s) % (n : Int) = 0
  · rw [if_pos c, if_pos (h1.mpr c)]
  · rw [if_neg c, if_neg (fun z => c (h1.mp z))]
/-- more on one day -/
theorem one_lat_up (h1 : 1 < n) (h : One f n s b e) (hb : b < e) (hg : One g n (s + b) (0 - b) (0 - b - 1)) : Lats f g := fun y => by
  have all : ∀ z, z + b ≤ z + f z := fun z => by rcases h.cases z with ⟨_, c⟩ | ⟨_, c⟩ <;> omega
  rcases hg.cases y with ⟨c, d⟩ | ⟨c, d⟩
  · rw [d]
    have hm : (y - b - s) % (n : Int) = 0 := by
      rw [show y - b - s = y - (s + b) by omega]
      exact c
    refine ⟨?_, fun x hx => ?_⟩
    · have : f (y + (0 - b - 1)) = b := h.else_ (by rw [show y + (0 - b - 1) - s = y - b - s - 1 by omega]; exact pred_mod h1 hm)
      omega
    · have a1 := all x
      by_cases ex : x = y - b
      · have := h.at_ (x := x) (by rw [ex]; exact hm)
        omega
      · omega
  · rw [d]
    have hm : ¬ (y + (0 - b) - s) % (n : Int) = 0 := by
      rw [show y + (0 - b) - s = y - (s + b) by omega]
      exact c
    refine ⟨by rw [h.else_ hm]; omega, fun x hx => ?_⟩
    have a1 := all x
    omega
theorem one_ear_up (h0 : 0 < n) (h : One f n s b e) {m : Nat} (hm : e = b + (m : Int)) (m0 : 0 < m) (m1 : m < n) (hg : ∀ y, g y = if (y - (s + b + 1)) % (n : Int) < (m : Int) then 0 - b - 1 - (y - (s + b + 1)) % (n : Int) else 0 - b) : Ears f g := fun y => by
  have q0 := Int.emod_nonneg (y - (s + b + 1)) (show (n : Int) ≠ 0 by omega)
  have q1 := Int.emod_lt_of_pos (y - (s + b + 1)) (show (0 : Int) < (n : Int) by omega)
  have dm := Int.emod_add_mul_ediv (y - (s + b + 1)) (n : Int)
  rw [hg y]
  by_cases c : (y - (s + b + 1)) % (n : Int) < (m : Int)
  · rw [if_pos c]
    have tm : (y + (0 - b - 1 - (y - (s + b + 1)) % (n : Int)) - s) % (n : Int) = 0 := by
      rw [show y + (0 - b - 1 - (y - (s + b + 1)) % (n : Int)) - s = (n : Int) * ((y - (s + b + 1)) / (n : Int)) by omega, Int.mul_emod_right]
    refine ⟨by rw [h.at_ tm]; omega, fun x hx => ?_⟩
    rcases Int.lt_or_le x (y + (0 - b - 1 - (y - (s + b + 1)) % (n : Int))) with lt | le
    · exfalso
      rcases h.cases x with ⟨c1, c2⟩ | ⟨c1, c2⟩
      · have h3 := mul_le_of (n := n) (a := x - s) (c := y + (0 - b - 1 - (y - (s + b + 1)) % (n : Int)) - s - 1) h0 c1 (by omega)
        have h4 : (y + (0 - b - 1 - (y - (s + b + 1)) % (n : Int)) - s - 1) % (n : Int) = (n : Int) - 1 := by
          rw [show y + (0 - b - 1 - (y - (s + b + 1)) % (n : Int)) - s - 1 = (n : Int) - 1 + (n : Int) * ((y - (s + b + 1)) / (n : Int) - 1) by rw [Int.mul_sub]; omega, Int.add_mul_emod_self_left, Int.emod_eq_of_lt (by omega) (by omega)]
        omega
      · omega
    · exact le
  · rw [if_neg c]
    refine ⟨by rcases h.cases (y + (0 - b)) with ⟨_, d⟩ | ⟨_, d⟩ <;> omega, fun x hx => ?_⟩
    rcases Int.lt_or_le x (y + (0 - b)) with lt | le
    · exfalso
      rcases h.cases x with ⟨c1, c2⟩ | ⟨c1, c2⟩
      · apply c
        have a1 := Int.emod_add_mul_ediv (x - s) (n : Int)
        rw [c1] at a1
        have e1 : y - (s + b + 1) = (y - b - x - 1) + (n : Int) * ((x - s) / (n : Int)) := by omega
        rw [e1, Int.add_mul_emod_self_left, Int.emod_eq_of_lt (by omega) (by omega)]
        omega
      · omega
    · exact le
/-- less on one day -/
theorem one_ear_down (h1 : 1 < n) (h : One f n s b e) (hb : e < b) (hg : One g n (s + b) (0 - b) (1 - b)) : Ears f g := Ears.of_dual (one_lat_up h1 h.dual (by omega) (by
  have := hg.dual
  rw [show -(s + b) = -s + -b by omega, show -(0 - b) = 0 - -b by omega, show -(1 - b) = 0 - -b - 1 by omega] at this
  exact this))
theorem one_lat_down (h0 : 0 < n) (h : One f n s b e) {m : Nat} (hm : e = b - (m : Int)) (m0 : 0 < m) (m1 : m < n) (hg : ∀ y, g y = if (s + b - 1 - y) % (n : Int) < (m : Int) then 1 - b + (s + b - 1 - y) % (n : Int) else 0 - b) : Lats f g :=
  Lats.of_dual (one_ear_up h0 h.dual (m := m) (by omega) m0 m1 fun y => by
    show -g (-y) = _
    rw [hg (-y), show s + b - 1 - -y = y - (-s + -b + 1) by omega]
    by_cases c : (y - (-s + -b + 1)) % (n : Int) < (m : Int)
    · rw [if_pos c, if_pos c]
      omega
    · rw [if_neg c, if_neg c]
      omega)
end
/-! ### by remainders -/
section
variable {r : List Int}
theorem rem_lat (h0 : 0 < r.length) {y m : Int} {ns : List Int} (hns : ns = (List.range r.length).map fun j : Nat => y - off r (j : Int) - (y - off r (j : Int) - (j : Int)) % (r.length : Int)) (hm : m ∈ ns) (hle : ∀ z ∈ ns, z ≤ m) : IsLat (off r) y m := by
  subst hns
  have key : ∀ j : Nat, j < r.length → (y - off r (j : Int) - (y - off r (j : Int) - (j : Int)) % (r.length : Int)) % (r.length : Int) = (j : Int) := fun j hj => by
    have dm := Int.emod_add_mul_ediv (y - off r (j : Int) - (j : Int)) (r.length : Int)
    rw [show y - off r (j : Int) - (y - off r (j : Int) - (j : Int)) % (r.length : Int) = (j : Int) + (r.length : Int) * ((y - off r (j : Int) - (j : Int)) / (r.length : Int)) by omega, Int.add_mul_emod_self_left, Int.emod_eq_of_lt (by omega) (by omega)]
  have val : ∀ (x : Int) (j : Nat), x % (r.length : Int) = (j : Int) → off r x = off r (j : Int) := fun x j hx => by rw [← off_per.emod (f := off r) x, hx]
  refine ⟨?_, fun x hx => ?_⟩
  · obtain ⟨j, hj, rfl⟩ := List.mem_map.mp hm
    have hj2 := List.mem_range.mp hj
    have q0 := Int.emod_nonneg (y - off r (j : Int) - (j : Int)) (show (r.length : Int) ≠ 0 by omega)
    rw [val _ j (key j hj2)]
    omega
  · have x0 := Int.emod_nonneg x (show (r.length : Int) ≠ 0 by omega)
    have x1 := Int.emod_lt_of_pos x (show (0 : Int) < (r.length : Int) by omega)
    obtain ⟨j, hj⟩ : ∃ j : Nat, x % (r.length : Int) = (j : Int) := ⟨(x % (r.length : Int)).toNat, by omega⟩
    have h1 := hle _ (List.mem_map.mpr ⟨j, List.mem_range.mpr (by omega), rfl⟩)
    have dx := Int.emod_add_mul_ediv x (r.length : Int)
    rw [val x j hj] at hx
    have h2 := mul_le_of (n := r.length) (a := x - (j : Int)) (c := y - off r (j : Int) - (j : Int)) h0 (by
      rw [show x - (j : Int) = (r.length : Int) * (x / (r.length : Int)) by omega, Int.mul_emod_right]) (by omega)
    omega
theorem rem_ear (h0 : 0 < r.length) {y m : Int} {ns : List Int} (hns : ns = (List.range r.length).map fun j : Nat => y - off r (j : Int) + ((j : Int) - (y - off r (j : Int))) % (r.length : Int)) (hm : m ∈ ns) (hle : ∀ z ∈ ns, m ≤ z) : IsEar (off r) y m := by
  subst hns
  have key : ∀ j : Nat, j < r.length → (y - off r (j : Int) + ((j : Int) - (y - off r (j : Int))) % (r.length : Int)) % (r.length : Int) = (j : Int) := fun j hj => by
    have dm := Int.emod_add_mul_ediv ((j : Int) - (y - off r (j : Int))) (r.length : Int)
    rw [show y - off r (j : Int) + ((j : Int) - (y - off r (j : Int))) % (r.length : Int) = (j : Int) + (r.length : Int) * (-(((j : Int) - (y - off r (j : Int))) / (r.length : Int))) by rw [Int.mul_neg]; omega, Int.add_mul_emod_self_left, Int.emod_eq_of_lt (by omega) (by omega)]
  have val : ∀ (x : Int) (j : Nat), x % (r.length : Int) = (j : Int) → off r x = off r (j : Int) := fun x j hx => by rw [← off_per.emod (f := off r) x, hx]
  refine ⟨?_, fun x hx => ?_⟩
  · obtain ⟨j, hj, rfl⟩ := List.mem_map.mp hm
    have hj2 := List.mem_range.mp hj
    have q0 := Int.emod_nonneg ((j : Int) - (y - off r (j : Int))) (show (r.length : Int) ≠ 0 by omega)
    rw [val _ j (key j hj2)]
    omega
  · have x0 := Int.emod_nonneg x (show (r.length : Int) ≠ 0 by omega)
    have x1 := Int.emod_lt_of_pos x (show (0 : Int) < (r.length : Int) by omega)
    obtain ⟨j, hj⟩ : ∃ j : Nat, x % (r.length : Int) = (j : Int) := ⟨(x % (r.length : Int)).toNat, by omega⟩
    have h1 := hle _ (List.mem_map.mpr ⟨j, List.mem_range.mpr (by omega), rfl⟩)
    have dx := Int.emod_add_mul_ediv x (r.length : Int)
    rw [val x j hj] at hx
    have h2 := mul_le_of (n := r.length) (a := (j : Int) - x) (c := (j : Int) - (y - off r (j : Int))) h0 (by
      rw [show (j : Int) - x = (r.length : Int) * (-(x / (r.length : Int))) by rw [Int.mul_neg]; omega, Int.mul_emod_right]) (by omega)
    omega
/-- the greatest of those that a window has -/
theorem win_lat {f : Int → Int} {B y m : Int} {ns : List Int} (hb : ∀ x, -B ≤ f x ∧ f x ≤ B) (hns : ∀ z, z ∈ ns ↔ (y - B ≤ z ∧ z < y + B + 1) ∧ z + f z ≤ y) (hm : m ∈ ns) (hle : ∀ z ∈ ns, z ≤ m) : IsLat f y m := by
  refine ⟨((hns m).mp hm).2, fun x hx => ?_⟩
  rcases Int.lt_or_le x (y - B) with c | c
  · have h1 := hb (y - B)
    have h0 := hb x
    have := hle (y - B) ((hns _).mpr ⟨⟨by omega, by omega⟩, by omega⟩)
    omega
  · have h0 := hb x
    exact hle x ((hns x).mpr ⟨⟨c, by omega⟩, hx⟩)
theorem win_ear {f : Int → Int} {B y m : Int} {ns : List Int} (hb : ∀ x, -B ≤ f x ∧ f x ≤ B) (hns : ∀ z, z ∈ ns ↔ (y - B ≤ z ∧ z < y + B + 1) ∧ y ≤ z + f z) (hm : m ∈ ns) (hle : ∀ z ∈ ns, m ≤ z) : IsEar f y m := by
  refine ⟨((hns m).mp hm).2, fun x hx => ?_⟩
  rcases Int.lt_or_le (y + B) x with c | c
  · have h1 := hb (y + B)
    have := hle (y + B) ((hns _).mpr ⟨⟨by have := hb 0; omega, by omega⟩, by omega⟩)
    omega
  · have h0 := hb x
    exact hle x ((hns x).mpr ⟨⟨by omega, by omega⟩, hx⟩)
end
end My

/-! Plain mathematics: rows turned. -/
namespace My
theorem off_turn {r : List Int} (p : Nat) (h0 : 0 < r.length) (hp : p ≤ r.length) (x : Int) : off (r.drop p ++ r.take p) x = off r (x + (p : Int)) := by
  have hl : (r.drop p ++ r.take p).length = r.length := by
    rw [List.length_append, List.length_drop, List.length_take]
    omega
  have m0 := Int.emod_nonneg x (show (r.length : Int) ≠ 0 by omega)
  have m1 := Int.emod_lt_of_pos x (show (0 : Int) < (r.length : Int) by omega)
  have dm := Int.emod_add_mul_ediv x (r.length : Int)
  have e := off_get (r := r.drop p ++ r.take p) (by omega) x
  rw [hl] at e
  have back : off r (x + (p : Int)) = off r (x % (r.length : Int) + (p : Int)) := by
    have := off_per.mulI (f := off r) (x % (r.length : Int) + (p : Int)) (x / (r.length : Int))
    rw [show x % (r.length : Int) + (p : Int) + (r.length : Int) * (x / (r.length : Int)) = x + (p : Int) by omega] at this
    exact this
  rw [back]
  by_cases c : (x % (r.length : Int)).toNat < r.length - p
  · rw [List.getElem?_append_left (by rw [List.length_drop]; exact c), List.getElem?_drop, off_nat (by omega)] at e
    have := Option.some.inj e
    rw [← this]
    congr 1
    omega
  · rw [List.getElem?_append_right (by rw [List.length_drop]; omega), List.length_drop, List.getElem?_take_of_lt (by omega), off_nat (by omega)] at e
    have := Option.some.inj e
    rw [← this]
    have h2 := off_per (r := r) (((x % (r.length : Int)).toNat - (r.length - p) : Nat) : Int)
    rw [← h2]
    congr 1
    omega
theorem rising_turn {f g : Int → Int} {p : Int} (r : Rising f) (h : ∀ x, g x = f (x + p)) : Rising g := fun x => by
  have := r (x + p)
  rw [h x, h (x + 1), show x + 1 + p = x + p + 1 by omega]
  omega
end My

/-! Plain mathematics: the starts of a date. -/
namespace My
/-- the days among the first i that a turn leads to d, as the code lists them -/
def fnd (g : Int → Int) (n : Nat) (d : Int) (i : Nat) : List Int := (List.range i).filterMap fun j : Nat => if (d - (j : Int) - g (j : Int)) % (n : Int) = 0 then some (d - g (j : Int)) else none
/-- all starts of d, in order -/
def Sts (g : Int → Int) (d : Int) (ns : List Int) : Prop := ns.Pairwise (· < ·) ∧ ∀ x, x ∈ ns ↔ x + g x = d
section
variable {g : Int → Int} {n : Nat} {d : Int}
theorem fnd_zero : fnd g n d 0 = [] := rfl
theorem fnd_yes {i : Nat} (h : (d - (i : Int) - g (i : Int)) % (n : Int) = 0) : fnd g n d (i + 1) = fnd g n d i ++ [d - g (i : Int)] := by
  unfold fnd
  rw [List.range_succ, List.filterMap_append, List.filterMap_cons, if_pos h, List.filterMap_nil]
theorem fnd_no {i : Nat} (h : ¬ (d - (i : Int) - g (i : Int)) % (n : Int) = 0) : fnd g n d (i + 1) = fnd g n d i := by
  unfold fnd
  rw [List.range_succ, List.filterMap_append, List.filterMap_cons, if_neg h, List.filterMap_nil, List.append_nil]
theorem fnd_len : ∀ i, (fnd g n d i).length ≤ i
  | 0 => Nat.le_refl _
  | i + 1 => by
    have := fnd_len i
    by_cases h : (d - (i : Int) - g (i : Int)) % (n : Int) = 0
    · rw [fnd_yes h, List.length_append, List.length_singleton]
      omega
    · rw [fnd_no h]
      omega
theorem fnd_in {i : Nat} {x : Int} : x ∈ fnd g n d i ↔ ∃ j : Nat, j < i ∧ (d - (j : Int) - g (j : Int)) % (n : Int) = 0 ∧ x = d - g (j : Int) := by
  unfold fnd
  rw [List.mem_filterMap]
  constructor
  · rintro ⟨j, hj, h⟩
    by_cases h2 : (d - (j : Int) - g (j : Int)) % (n : Int) = 0
    · rw [if_pos h2] at h
      exact ⟨j, List.mem_range.mp hj, h2, (Option.some.inj h).symm⟩
    · rw [if_neg h2] at h
      cases h
  · rintro ⟨j, hj, h2, rfl⟩
    exact ⟨j, List.mem_range.mpr hj, if_pos h2⟩
theorem fnd_res {j : Nat} (hj : j < n) (h : (d - (j : Int) - g (j : Int)) % (n : Int) = 0) : (d - g (j : Int)) % (n : Int) = (j : Int) := by
  obtain ⟨c, hc⟩ := Int.dvd_of_emod_eq_zero h
  rw [show d - g (j : Int) = (j : Int) + (n : Int) * c by omega, Int.add_mul_emod_self_left, Int.emod_eq_of_lt (by omega) (by omega)]
theorem fnd_nodup : ∀ i, i ≤ n → (fnd g n d i).Nodup
  | 0, _ => List.nodup_nil
  | i + 1, hi => by
    have ih := fnd_nodup i (by omega)
    by_cases h : (d - (i : Int) - g (i : Int)) % (n : Int) = 0
    · rw [fnd_yes h]
      refine List.nodup_append.mpr ⟨ih, by simp, fun a ha b hb e => ?_⟩
      obtain rfl := List.mem_singleton.mp hb
      subst e
      obtain ⟨j, hj, h2, e⟩ := fnd_in.mp ha
      have e1 := fnd_res (n := n) (by omega) h
      rw [e, fnd_res (by omega) h2] at e1
      omega
    · rw [fnd_no h]
      exact ih
theorem fnd_mem (p : Per g n) (n0 : 0 < n) (x : Int) : x ∈ fnd g n d n ↔ x + g x = d := by
  have m0 := Int.emod_nonneg x (show (n : Int) ≠ 0 by omega)
  have m1 := Int.emod_lt_of_pos x (show (0 : Int) < (n : Int) by omega)
  rw [fnd_in]
  constructor
  · rintro ⟨j, hj, h2, rfl⟩
    have e := p.emod (d - g (j : Int))
    rw [fnd_res hj h2] at e
    omega
  · intro h
    obtain ⟨j, hj⟩ : ∃ j : Nat, x % (n : Int) = (j : Int) := ⟨_, (Int.toNat_of_nonneg m0).symm⟩
    have e := p.emod x
    rw [hj] at e
    refine ⟨j, by omega, ?_, by omega⟩
    have dm := Int.emod_add_mul_ediv x (n : Int)
    rw [show d - (j : Int) - g (j : Int) = (n : Int) * (x / (n : Int)) by omega, Int.mul_emod_right]
end
theorem pw_lt : ∀ {l : List Int}, l.Pairwise (· ≤ ·) → l.Nodup → l.Pairwise (· < ·)
  | [], _, _ => .nil
  | a :: l, h, nd => by
    obtain ⟨h1, h2⟩ := List.pairwise_cons.mp h
    obtain ⟨n1, n2⟩ := List.nodup_cons.mp nd
    refine List.pairwise_cons.mpr ⟨fun b hb => ?_, pw_lt h2 n2⟩
    have := h1 b hb
    have : a ≠ b := fun e => n1 (e ▸ hb)
    omega
theorem lt_eq : ∀ {l m : List Int}, l.Pairwise (· < ·) → m.Pairwise (· < ·) → (∀ x, x ∈ l ↔ x ∈ m) → l = m
  | [], [], _, _, _ => rfl
  | [], b :: m, _, _, h => absurd ((h b).mpr List.mem_cons_self) (by simp)
  | a :: l, [], _, _, h => absurd ((h a).mp List.mem_cons_self) (by simp)
  | a :: l, b :: m, hl, hm, h => by
    obtain ⟨l1, l2⟩ := List.pairwise_cons.mp hl
    obtain ⟨m1, m2⟩ := List.pairwise_cons.mp hm
    have e : a = b := by
      rcases List.mem_cons.mp ((h a).mp List.mem_cons_self) with e | ha
      · exact e
      · rcases List.mem_cons.mp ((h b).mpr List.mem_cons_self) with e | hb
        · exact e.symm
        · have h3 := m1 a ha
          have h4 := l1 b hb
          omega
    subst e
    congr 1
    refine lt_eq l2 m2 fun x => ⟨fun hx => ?_, fun hx => ?_⟩
    · rcases List.mem_cons.mp ((h x).mp (List.mem_cons_of_mem _ hx)) with e | h2
      · have := l1 x hx
        omega
      · exact h2
    · rcases List.mem_cons.mp ((h x).mpr (List.mem_cons_of_mem _ hx)) with e | h2
      · have := m1 x hx
        omega
      · exact h2
theorem nd_le : ∀ (l c : List Int), l.Nodup → (∀ x ∈ l, x ∈ c) → l.length ≤ c.length
  | [], _, _, _ => Nat.zero_le _
  | a :: l, c, nd, h => by
    obtain ⟨n1, n2⟩ := List.nodup_cons.mp nd
    have ha := h a List.mem_cons_self
    have ih := nd_le l (c.erase a) n2 fun x hx => (List.mem_erase_of_ne (fun e : x = a => n1 (e ▸ hx))).mpr (h x (List.mem_cons_of_mem _ hx))
    have hl := List.length_erase_of_mem ha
    have : 0 < c.length := List.length_pos_of_mem ha
    rw [List.length_cons]
    omega
section
variable {g : Int → Int} {n : Nat} {d : Int}
theorem Sts.eq {l m : List Int} (a : Sts g d l) (b : Sts g d m) : l = m := lt_eq a.1 b.1 fun x => (a.2 x).trans (b.2 x).symm
theorem Sts.of (p : Per g n) (n0 : 0 < n) {ns : List Int} (h1 : ns.Perm (fnd g n d n)) (h2 : ns.Pairwise (· ≤ ·)) : Sts g d ns :=
  ⟨pw_lt h2 (h1.nodup_iff.mpr (fnd_nodup n (Nat.le_refl _))), fun x => h1.mem_iff.trans (fnd_mem p n0 x)⟩
theorem fnd_few (p : Per g n) (n0 : 0 < n) {c : List Int} (h : ∀ x, x + g x = d → x ∈ c) : (fnd g n d n).length ≤ c.length :=
  nd_le _ _ (fnd_nodup n (Nat.le_refl _)) fun x hx => h x ((fnd_mem p n0 x).mp hx)
end
theorem long_few {n lt : Nat} {b e d : Int} (n0 : 0 < n) (x : Int) (h : x + off ((List.replicate n b).set lt (b + e)) x = d) : x ∈ [d - b, d - b - e] := by
  have hl : ((List.replicate n b).set lt (b + e)).length = n := by rw [List.length_set, List.length_replicate]
  have hg := off_get (r := (List.replicate n b).set lt (b + e)) (by omega) x
  have hm := List.mem_of_getElem? hg
  rcases List.mem_or_eq_of_mem_set hm with h2 | h2
  · have := (List.mem_replicate.mp h2).2
    simp only [List.mem_cons, List.not_mem_nil, or_false]
    omega
  · simp only [List.mem_cons, List.not_mem_nil, or_false]
    omega
end My

/-! Plain mathematics: members of a set of days, counted. -/
namespace My
/-- how many of the days before i -/
def cI (f : Int → Int) : Nat → Int
  | 0 => 0
  | i + 1 => cI f i + f (i : Int)
/-- how many members lie before x, from day 0 on -/
def ps (f : Int → Int) (n : Nat) (x : Int) : Int := x / (n : Int) * cI f n + cI f (x % (n : Int)).toNat
section
variable {f : Int → Int} {n : Nat}
theorem ps_succ (p : Per f n) (n0 : 0 < n) (x : Int) : ps f n (x + 1) = ps f n x + f x := by
  have m0 := Int.emod_nonneg x (show (n : Int) ≠ 0 by omega)
  have m1 := Int.emod_lt_of_pos x (show (0 : Int) < (n : Int) by omega)
  have dm := Int.emod_add_mul_ediv x (n : Int)
  have e := p.emod x
  obtain ⟨t, ht⟩ : ∃ t : Nat, x % (n : Int) = (t : Int) := ⟨_, (Int.toNat_of_nonneg m0).symm⟩
  rw [ht] at e
  unfold ps
  rw [ht, Int.toNat_natCast]
  by_cases h : t + 1 < n
  · have h1 : (x + 1) / (n : Int) = x / (n : Int) := by
      rw [show x + 1 = ((t : Int) + 1) + (n : Int) * (x / (n : Int)) by omega, Int.add_mul_ediv_left _ _ (show (n : Int) ≠ 0 by omega), Int.ediv_eq_zero_of_lt (by omega) (by omega)]
      omega
    have h2 : (x + 1) % (n : Int) = ((t + 1 : Nat) : Int) := by
      rw [show x + 1 = ((t : Int) + 1) + (n : Int) * (x / (n : Int)) by omega, Int.add_mul_emod_self_left, Int.emod_eq_of_lt (by omega) (by omega)]
      omega
    rw [h1, h2, Int.toNat_natCast]
    show _ + (cI f t + f (t : Int)) = _
    omega
  · have hn : n = t + 1 := by omega
    have h1 : (x + 1) / (n : Int) = x / (n : Int) + 1 := by
      rw [show x + 1 = 0 + (n : Int) * (x / (n : Int) + 1) by rw [Int.mul_add]; omega, Int.add_mul_ediv_left _ _ (show (n : Int) ≠ 0 by omega)]
      simp
    have h2 : (x + 1) % (n : Int) = 0 := by
      rw [show x + 1 = 0 + (n : Int) * (x / (n : Int) + 1) by rw [Int.mul_add]; omega, Int.add_mul_emod_self_left]
      simp
    have h3 : cI f n = cI f t + f (t : Int) := by rw [hn]; rfl
    rw [h1, h2, Int.add_mul, Int.one_mul]
    show _ + 0 = _
    omega
theorem ps_turn (n0 : 0 < n) (x k : Int) : ps f n (x + (n : Int) * k) = ps f n x + k * cI f n := by
  unfold ps
  rw [Int.add_mul_ediv_left _ _ (show (n : Int) ≠ 0 by omega), Int.add_mul_emod_self_left, Int.add_mul]
  omega
theorem ps_mono (p : Per f n) (n0 : 0 < n) (hb : ∀ x, f x = 0 ∨ f x = 1) {x y : Int} (h : x ≤ y) : ps f n x ≤ ps f n y := by
  obtain ⟨k, hk⟩ : ∃ k : Nat, y = x + (k : Int) := ⟨(y - x).toNat, by omega⟩
  subst hk
  clear h
  induction k with
  | zero => simp
  | succ k ih =>
    have h1 := ps_succ p n0 (x + (k : Int))
    have h2 := hb (x + (k : Int))
    rw [show x + ((k + 1 : Nat) : Int) = x + (k : Int) + 1 by omega]
    omega
/-- nothing between two days with the same count -/
theorem ps_gap (p : Per f n) (n0 : 0 < n) (hb : ∀ x, f x = 0 ∨ f x = 1) {x y z : Int} (h : ps f n x = ps f n y) (h1 : x ≤ z) (h2 : z < y) : f z = 0 := by
  have a := ps_mono p n0 hb h1
  have b := ps_mono p n0 hb (show z + 1 ≤ y by omega)
  have c := ps_succ p n0 z
  have d := hb z
  omega
theorem ps_first (p : Per f n) (n0 : 0 < n) (hb : ∀ x, f x = 0 ∨ f x = 1) {x y : Int} (h1 : f y = 1) (h2 : ps f n y = ps f n x) : x ≤ y ∧ ∀ z, x ≤ z → z < y → f z = 0 := by
  have c := ps_succ p n0 y
  refine ⟨Int.not_lt.mp fun h => ?_, fun z z0 z1 => ps_gap p n0 hb h2.symm z0 z1⟩
  have := ps_mono p n0 hb (show y + 1 ≤ x by omega)
  omega
theorem ps_last (p : Per f n) (n0 : 0 < n) (hb : ∀ x, f x = 0 ∨ f x = 1) {x y : Int} (h1 : f y = 1) (h2 : ps f n y = ps f n (x + 1) - 1) : y ≤ x ∧ ∀ z, y < z → z ≤ x → f z = 0 := by
  have c := ps_succ p n0 y
  refine ⟨Int.not_lt.mp fun h => ?_, fun z z0 z1 => ps_gap p n0 hb (x := y + 1) (y := x + 1) (by omega) (by omega) (by omega)⟩
  have := ps_mono p n0 hb (show x + 1 ≤ y by omega)
  omega
end
/-- the members before day i -/
def mem1 (r : List Int) (i : Nat) : List Int := (List.range i).filterMap fun j : Nat => if off r (j : Int) = 1 then some (j : Int) else none
section
variable {r : List Int} {i : Nat}
theorem mem1_yes (h : off r (i : Int) = 1) : mem1 r (i + 1) = mem1 r i ++ [(i : Int)] := by
  unfold mem1
  rw [List.range_succ, List.filterMap_append, List.filterMap_cons, if_pos h, List.filterMap_nil]
theorem mem1_no (h : ¬ off r (i : Int) = 1) : mem1 r (i + 1) = mem1 r i := by
  unfold mem1
  rw [List.range_succ, List.filterMap_append, List.filterMap_cons, if_neg h, List.filterMap_nil, List.append_nil]
theorem mem1_len (r : List Int) : ∀ i, (mem1 r i).length ≤ i
  | 0 => Nat.le_refl _
  | i + 1 => by
    have := mem1_len r i
    by_cases h : off r (i : Int) = 1
    · rw [mem1_yes h, List.length_append, List.length_singleton]
      omega
    · rw [mem1_no h]
      omega
theorem mem1_cI (hb : ∀ x, off r x = 0 ∨ off r x = 1) : ∀ i, ((mem1 r i).length : Int) = cI (off r) i
  | 0 => rfl
  | i + 1 => by
    have ih := mem1_cI hb i
    show _ = cI (off r) i + off r (i : Int)
    by_cases h : off r (i : Int) = 1
    · rw [mem1_yes h, List.length_append, List.length_singleton]
      omega
    · rw [mem1_no h]
      have := hb (i : Int)
      omega
theorem mem1_in {x : Int} : x ∈ mem1 r i ↔ ∃ j : Nat, j < i ∧ x = (j : Int) ∧ off r (j : Int) = 1 := by
  unfold mem1
  rw [List.mem_filterMap]
  constructor
  · rintro ⟨j, hj, h⟩
    by_cases h2 : off r (j : Int) = 1
    · rw [if_pos h2] at h
      exact ⟨j, List.mem_range.mp hj, (Option.some.inj h).symm, h2⟩
    · rw [if_neg h2] at h
      cases h
  · rintro ⟨j, hj, rfl, h2⟩
    exact ⟨j, List.mem_range.mpr hj, if_pos h2⟩
theorem mem1_asc (r : List Int) : ∀ i, (mem1 r i).Pairwise (· < ·)
  | 0 => .nil
  | i + 1 => by
    by_cases h : off r (i : Int) = 1
    · rw [mem1_yes h]
      refine List.pairwise_append.mpr ⟨mem1_asc r i, by simp, fun a ha b hb => ?_⟩
      obtain rfl := List.mem_singleton.mp hb
      obtain ⟨j, hj, rfl, _⟩ := mem1_in.mp ha
      omega
    · rw [mem1_no h]
      exact mem1_asc r i
/-- the first i days' members stand first -/
theorem mem1_pre : ∀ (k i : Nat), ∃ t, mem1 r (i + k) = mem1 r i ++ t ∧ ∀ x ∈ t, (i : Int) ≤ x
  | 0, i => ⟨[], by simp, fun x h => by simp at h⟩
  | k + 1, i => by
    obtain ⟨t, h1, h2⟩ := mem1_pre k i
    by_cases h : off r ((i + k : Nat) : Int) = 1
    · refine ⟨t ++ [((i + k : Nat) : Int)], ?_, fun x hx => ?_⟩
      · rw [show i + (k + 1) = (i + k) + 1 by omega, mem1_yes h, h1, List.append_assoc]
      · rcases List.mem_append.mp hx with h3 | h3
        · exact h2 x h3
        · obtain rfl := List.mem_singleton.mp h3
          omega
    · refine ⟨t, ?_, h2⟩
      rw [show i + (k + 1) = (i + k) + 1 by omega, mem1_no h, h1]
/-- a place that parts the members as the search does is the count -/
theorem mem1_part {n t k : Nat} (ht : t ≤ n) (hk : k ≤ (mem1 r n).length) (h1 : ∀ (j : Nat) (v : Int), j < k → (mem1 r n)[j]? = some v → v < (t : Int)) (h2 : ∀ (j : Nat) (v : Int), k ≤ j → (mem1 r n)[j]? = some v → (t : Int) ≤ v) : k = (mem1 r t).length := by
  obtain ⟨s, e, hs⟩ := mem1_pre (r := r) (n - t) t
  rw [show t + (n - t) = n by omega] at e
  rcases Nat.lt_trichotomy k (mem1 r t).length with h | h | h
  · have hg : (mem1 r n)[k]? = some (mem1 r t)[k] := by
      rw [e, List.getElem?_append_left h, List.getElem?_eq_getElem h]
    have a := h2 k _ (Nat.le_refl _) hg
    obtain ⟨j, hj, ej, _⟩ := mem1_in.mp (List.getElem_mem h)
    omega
  · exact h
  · have hl : (mem1 r t).length < (mem1 r n).length := by omega
    have hl2 : 0 < s.length := by
      rw [e, List.length_append] at hl
      omega
    have hg : (mem1 r n)[(mem1 r t).length]? = some s[0] := by
      rw [e, List.getElem?_append_right (Nat.le_refl _), Nat.sub_self, List.getElem?_eq_getElem hl2]
    have a := h1 _ _ h hg
    have b := hs _ (List.getElem_mem hl2)
    omega
theorem mem1_at {n i : Nat} {v : Int} (h : (mem1 r n)[i]? = some v) : ∃ j : Nat, j < n ∧ v = (j : Int) ∧ off r (j : Int) = 1 ∧ (mem1 r j).length = i := by
  obtain ⟨j, hj, rfl, h1⟩ := mem1_in.mp (List.mem_of_getElem? h)
  obtain ⟨hi, hv⟩ := List.getElem?_eq_some_iff.mp h
  have asc := List.pairwise_iff_getElem.mp (mem1_asc r n)
  refine ⟨j, hj, rfl, h1, (mem1_part (n := n) (t := j) (k := i) (by omega) (by omega) (fun a w ha hw => ?_) (fun a w ha hw => ?_)).symm⟩
  · obtain ⟨hal, rfl⟩ := List.getElem?_eq_some_iff.mp hw
    rw [← hv]
    exact asc a i hal hi ha
  · obtain ⟨hal, rfl⟩ := List.getElem?_eq_some_iff.mp hw
    rw [← hv]
    rcases Nat.eq_or_lt_of_le ha with e | e
    · subst e
      omega
    · exact Int.le_of_lt (asc i a hi hal e)
/-- the member with the number k -/
theorem num_ok (r0 : 0 < r.length) (hb : ∀ x, off r x = 0 ∨ off r x = 1) {m : Nat} (hm : (mem1 r r.length).length = m) (m0 : 0 < m) {k v : Int} (hv : (mem1 r r.length)[(k % (m : Int)).toNat]? = some v) :
    off r (k / (m : Int) * (r.length : Int) + v) = 1 ∧ ps (off r) r.length (k / (m : Int) * (r.length : Int) + v) = k := by
  obtain ⟨j, hj, rfl, h1, h2⟩ := mem1_at hv
  have k0 := Int.emod_nonneg k (show (m : Int) ≠ 0 by omega)
  have dm := Int.emod_add_mul_ediv k (m : Int)
  have e : k / (m : Int) * (r.length : Int) + (j : Int) = (j : Int) + (r.length : Int) * (k / (m : Int)) := by
    rw [Int.mul_comm]
    omega
  rw [e]
  refine ⟨?_, ?_⟩
  · rw [off_per.mulI]
    exact h1
  · rw [ps_turn r0, ← mem1_cI hb r.length, hm]
    have h3 : ps (off r) r.length (j : Int) = cI (off r) j := by
      unfold ps
      rw [Int.ediv_eq_zero_of_lt (by omega) (by omega), Int.emod_eq_of_lt (by omega) (by omega), Int.toNat_natCast]
      omega
    rw [h3, ← mem1_cI hb j, h2, Int.mul_comm]
    omega
end
end My

/-! Plain mathematics: the first member from a day, the last until a day. -/
namespace My
/-- o is the first day from x with f = 1, if there is one -/
def FstO (f : Int → Int) (x : Int) : Option Int → Prop
  | none => ∀ y, f y ≠ 1
  | some y => x ≤ y ∧ f y = 1 ∧ ∀ z, x ≤ z → z < y → f z ≠ 1
def LstO (f : Int → Int) (x : Int) : Option Int → Prop
  | none => ∀ y, f y ≠ 1
  | some y => y ≤ x ∧ f y = 1 ∧ ∀ z, y < z → z ≤ x → f z ≠ 1
theorem FstO.uniq {f : Int → Int} {x : Int} : ∀ {o p : Option Int}, FstO f x o → FstO f x p → o = p
  | none, none, _, _ => rfl
  | none, some y, a, b => absurd b.2.1 (a y)
  | some y, none, a, b => absurd a.2.1 (b y)
  | some y, some z, a, b => by
    rcases Int.lt_trichotomy y z with h | h | h
    · exact absurd a.2.1 (b.2.2 y a.1 h)
    · rw [h]
    · exact absurd b.2.1 (a.2.2 z b.1 h)
theorem LstO.uniq {f : Int → Int} {x : Int} : ∀ {o p : Option Int}, LstO f x o → LstO f x p → o = p
  | none, none, _, _ => rfl
  | none, some y, a, b => absurd b.2.1 (a y)
  | some y, none, a, b => absurd a.2.1 (b y)
  | some y, some z, a, b => by
    rcases Int.lt_trichotomy y z with h | h | h
    · exact absurd b.2.1 (a.2.2 z h b.1)
    · rw [h]
    · exact absurd a.2.1 (b.2.2 y h a.1)
/-- nothing in one period: nothing at all -/
theorem per_none {f : Int → Int} {n : Nat} (p : Per f n) (n0 : 0 < n) {x : Int} (h : ∀ y, x ≤ y → y < x + (n : Int) → f y ≠ 1) : ∀ y, f y ≠ 1 := fun y => by
  have m0 := Int.emod_nonneg (y - x) (show (n : Int) ≠ 0 by omega)
  have m1 := Int.emod_lt_of_pos (y - x) (show (0 : Int) < (n : Int) by omega)
  have dm := Int.emod_add_mul_ediv (y - x) (n : Int)
  have e := p.mulI (x + (y - x) % (n : Int)) ((y - x) / (n : Int))
  rw [show x + (y - x) % (n : Int) + (n : Int) * ((y - x) / (n : Int)) = y by omega] at e
  rw [e]
  exact h _ (by omega) (by omega)
theorem mem1_none {r : List Int} (r0 : 0 < r.length) (h : mem1 r r.length = []) : ∀ y, off r y ≠ 1 := by
  refine per_none off_per r0 (x := 0) fun y h0 h1 e => ?_
  have : (y.toNat : Int) ∈ mem1 r r.length := mem1_in.mpr ⟨y.toNat, by omega, rfl, by rw [Int.toNat_of_nonneg h0]; exact e⟩
  rw [h] at this
  cases this
end My

/-! Plain mathematics: members by their numbers, the greatest gap. -/
namespace My
section
variable {f : Int → Int} {n : Nat}
theorem num_uniq (p : Per f n) (n0 : 0 < n) (hb : ∀ x, f x = 0 ∨ f x = 1) {y z : Int} (h1 : f y = 1) (h2 : f z = 1) (h : ps f n y = ps f n z) : y = z := by
  have a := ps_succ p n0 y
  have b := ps_succ p n0 z
  rcases Int.lt_trichotomy y z with c | c | c
  · have := ps_mono p n0 hb (show y + 1 ≤ z by omega)
    omega
  · exact c
  · have := ps_mono p n0 hb (show z + 1 ≤ y by omega)
    omega
/-- the members are in the order of their numbers -/
theorem num_lt (p : Per f n) (n0 : 0 < n) (hb : ∀ x, f x = 0 ∨ f x = 1) {y z : Int} (h : ps f n y < ps f n z) : y < z := by
  rcases Int.lt_or_le y z with c | c
  · exact c
  · have := ps_mono p n0 hb c
    omega
end
section
variable {r : List Int}
theorem mem_ps (r0 : 0 < r.length) (hb : ∀ x, off r x = 0 ∨ off r x = 1) {i : Nat} {v : Int} (h : (mem1 r r.length)[i]? = some v) : off r v = 1 ∧ ps (off r) r.length v = (i : Int) := by
  obtain ⟨j, hj, rfl, h1, h2⟩ := mem1_at h
  refine ⟨h1, ?_⟩
  unfold ps
  rw [Int.ediv_eq_zero_of_lt (by omega) (by omega), Int.emod_eq_of_lt (by omega) (by omega), Int.toNat_natCast, ← mem1_cI hb j, h2]
  omega
/-- the next members of the members -/
def foll (r : List Int) (h : Int) : List Int := (mem1 r r.length).drop 1 ++ [h + (r.length : Int)]
theorem foll_len {h : Int} (h0 : 0 < (mem1 r r.length).length) : (foll r h).length = (mem1 r r.length).length := by
  unfold foll
  rw [List.length_append, List.length_drop, List.length_singleton]
  omega
theorem foll_ps (r0 : 0 < r.length) (hb : ∀ x, off r x = 0 ∨ off r x = 1) {h : Int} (hh : (mem1 r r.length)[0]? = some h) {i : Nat} {v : Int} (hv : (foll r h)[i]? = some v) : off r v = 1 ∧ ps (off r) r.length v = (i : Int) + 1 := by
  obtain ⟨a1, a2⟩ := mem_ps r0 hb hh
  have m0 : 0 < (mem1 r r.length).length := (List.getElem?_eq_some_iff.mp hh).1
  unfold foll at hv
  by_cases hi : i < (mem1 r r.length).length - 1
  · rw [List.getElem?_append_left (by rw [List.length_drop]; exact hi), List.getElem?_drop] at hv
    obtain ⟨b1, b2⟩ := mem_ps r0 hb hv
    refine ⟨b1, ?_⟩
    rw [b2]
    omega
  · rw [List.getElem?_append_right (by rw [List.length_drop]; omega), List.length_drop] at hv
    have e0 : i - ((mem1 r r.length).length - 1) = 0 := by
      rcases Nat.eq_zero_or_pos (i - ((mem1 r r.length).length - 1)) with c | c
      · exact c
      · rw [List.getElem?_eq_none (by rw [List.length_singleton]; omega)] at hv
        cases hv
    rw [e0] at hv
    obtain rfl : h + (r.length : Int) = v := Option.some.inj hv
    refine ⟨?_, ?_⟩
    · rw [off_per h]
      exact a1
    · have t := ps_turn (f := off r) r0 h 1
      rw [Int.mul_one, Int.one_mul, a2, ← mem1_cI hb r.length] at t
      rw [t]
      omega
/-- the distance of two members next to each other is told in the list -/
theorem gap_in (r0 : 0 < r.length) (hb : ∀ x, off r x = 0 ∨ off r x = 1) {h : Int} (hh : (mem1 r r.length)[0]? = some h) {y z : Int} (h1 : off r y = 1) (h2 : off r z = 1) (h3 : ps (off r) r.length z = ps (off r) r.length y + 1) :
    ∃ (i : Nat) (u v : Int), (mem1 r r.length)[i]? = some u ∧ (foll r h)[i]? = some v ∧ z - y = v - u := by
  have m0 : 0 < (mem1 r r.length).length := (List.getElem?_eq_some_iff.mp hh).1
  obtain ⟨m, hm⟩ : ∃ m, (mem1 r r.length).length = m := ⟨_, rfl⟩
  have pr : Per (off r) r.length := off_per
  obtain ⟨j, hj⟩ : ∃ j, ps (off r) r.length y = j := ⟨_, rfl⟩
  have k0 := Int.emod_nonneg j (show (m : Int) ≠ 0 by omega)
  have k1 := Int.emod_lt_of_pos j (show (0 : Int) < (m : Int) by omega)
  have dm := Int.emod_add_mul_ediv j (m : Int)
  obtain ⟨i, hi⟩ : ∃ i : Nat, j % (m : Int) = (i : Int) := ⟨_, (Int.toNat_of_nonneg k0).symm⟩
  have il : i < (mem1 r r.length).length := by omega
  have fl : i < (foll r h).length := by
    rw [foll_len m0]
    exact il
  refine ⟨i, (mem1 r r.length)[i], (foll r h)[i], List.getElem?_eq_getElem il, List.getElem?_eq_getElem fl, ?_⟩
  obtain ⟨a1, a2⟩ := mem_ps r0 hb (List.getElem?_eq_getElem il)
  obtain ⟨b1, b2⟩ := foll_ps r0 hb hh (List.getElem?_eq_getElem fl)
  generalize (mem1 r r.length)[i] = u at a1 a2
  generalize (foll r h)[i] = v at b1 b2
  have cm := mem1_cI hb r.length
  rw [hm] at cm
  have t1 := ps_turn (f := off r) r0 u (j / (m : Int))
  have t2 := ps_turn (f := off r) r0 v (j / (m : Int))
  rw [← cm] at t1 t2
  have o1 := pr.mulI u (j / (m : Int))
  have o2 := pr.mulI v (j / (m : Int))
  have ec : j / (m : Int) * (m : Int) = (m : Int) * (j / (m : Int)) := Int.mul_comm _ _
  have e1 : y = u + (r.length : Int) * (j / (m : Int)) := num_uniq pr r0 hb h1 (by rw [o1]; exact a1) (by rw [t1, a2, hj]; omega)
  have e2 : z = v + (r.length : Int) * (j / (m : Int)) := num_uniq pr r0 hb h2 (by rw [o2]; exact b1) (by rw [t2, b2, h3, hj]; omega)
  omega
end
/-- the count is the same by any period -/
theorem ps_diff {f : Int → Int} {n m : Nat} (pn : Per f n) (n0 : 0 < n) (pm : Per f m) (m0 : 0 < m) (x y : Int) : ps f n y - ps f n x = ps f m y - ps f m x := by
  have up : ∀ (a : Int) (j : Nat), ps f n (a + (j : Int)) - ps f n a = ps f m (a + (j : Int)) - ps f m a := fun a j => by
    induction j with
    | zero => simp
    | succ j ih =>
      have h1 := ps_succ pn n0 (a + (j : Int))
      have h2 := ps_succ pm m0 (a + (j : Int))
      rw [show a + ((j + 1 : Nat) : Int) = a + (j : Int) + 1 by omega]
      omega
  by_cases h : x ≤ y
  · have := up x (y - x).toNat
    rw [Int.toNat_of_nonneg (by omega), show x + (y - x) = y by omega] at this
    exact this
  · have := up y (x - y).toNat
    rw [Int.toNat_of_nonneg (by omega), show y + (x - y) = x by omega] at this
    omega
end My

/-! Plain mathematics: pieces that cover a period. -/
namespace My
theorem grow_all {P : Nat → Prop} [DecidablePred P] : ∀ (k j d : Nat), j < d → d ≤ grow P k j → P d
  | 0, j, d, h1, h2 => by
    unfold grow at h2
    omega
  | k + 1, j, d, h1, h2 => by
    unfold grow at h2
    split at h2
    · rename_i hp
      by_cases e : d = j + 1
      · rw [e]
        exact hp
      · exact grow_all k (j + 1) d (by omega) h2
    · omega
structure Pc where
  fst : Nat
  last : Nat
  to : Bool
  num : Int
def Pc.at (c : Pc) (d : Nat) : Int := if c.to then c.num - (d : Int) else c.num
def Cov : List Pc → Nat → Nat → Prop
  | [], i, n => i = n
  | c :: cs, i, n => c.fst = i ∧ i ≤ c.last ∧ c.last < n ∧ Cov cs (c.last + 1) n
def Pc.rows (c : Pc) : List Int := (List.range (c.last + 1 - c.fst)).map fun j => c.at (c.fst + j)
def rowsOf (cs : List Pc) : List Int := cs.flatMap Pc.rows
theorem Pc.rows_len (c : Pc) : c.rows.length = c.last + 1 - c.fst := by
  unfold Pc.rows
  rw [List.length_map, List.length_range]
theorem rowsOf_nil : rowsOf [] = [] := rfl
theorem rowsOf_cons (c : Pc) (cs : List Pc) : rowsOf (c :: cs) = c.rows ++ rowsOf cs := rfl
theorem rowsOf_app (cs ds : List Pc) : rowsOf (cs ++ ds) = rowsOf cs ++ rowsOf ds := List.flatMap_append
theorem rowsOf_len : ∀ {cs : List Pc} {i n : Nat}, Cov cs i n → (rowsOf cs).length + i = n
  | [], i, n, h => by
    rw [rowsOf_nil]
    exact (Nat.zero_add i).trans h
  | c :: cs, i, n, h => by
    obtain ⟨h1, h2, h3, h4⟩ := h
    have ih := rowsOf_len h4
    rw [rowsOf_cons, List.length_append, c.rows_len]
    omega
theorem rowsOf_eq {r : List Int} : ∀ {cs : List Pc} {i : Nat}, Cov cs i r.length → (∀ c ∈ cs, ∀ d : Nat, c.fst ≤ d → d ≤ c.last → off r (d : Int) = c.at d) → rowsOf cs = r.drop i
  | [], i, h, _ => by
    have : i = r.length := h
    rw [rowsOf_nil, this, List.drop_length]
  | c :: cs, i, h, hv => by
    obtain ⟨h1, h2, h3, h4⟩ := h
    have ih := rowsOf_eq h4 fun d hd => hv d (List.mem_cons_of_mem _ hd)
    rw [rowsOf_cons, ih]
    have e : r.drop i = (r.drop i).take (c.last + 1 - i) ++ r.drop (c.last + 1) := by
      conv => lhs; rw [← List.take_append_drop (c.last + 1 - i) (r.drop i)]
      rw [List.drop_drop]
      congr 2
      omega
    rw [e]
    congr 1
    refine List.ext_getElem? fun j => ?_
    unfold Pc.rows
    rw [List.getElem?_map, List.getElem?_take]
    by_cases hj : j < c.last + 1 - c.fst
    · rw [List.getElem?_range hj, if_pos (by omega), List.getElem?_drop]
      have ho := off_nat (r := r) (i := i + j) (by omega)
      rw [ho, hv c List.mem_cons_self (i + j) (by omega) (by omega), h1]
      rfl
    · rw [List.getElem?_eq_none (by rw [List.length_range]; omega), if_neg (by omega)]
      rfl
theorem Cov.le : ∀ {cs : List Pc} {i n : Nat}, Cov cs i n → i ≤ n
  | [], i, n, h => Nat.le_of_eq h
  | c :: cs, i, n, h => by
    obtain ⟨h1, h2, h3, h4⟩ := h
    omega
/-- the pieces of the form -/
def pcOf (r : List Int) (i : Nat) : Pc := ⟨i, pcLast r i, pcTo r i, pcNum r i⟩
def formPcs (r : List Int) (k : Nat) : List Pc := (List.range k).map fun j => pcOf r (fs r j)
theorem pcOf_at {r : List Int} {i : Nat} (hi : i < r.length) (d : Nat) (h1 : i ≤ d) (h2 : d ≤ pcLast r i) : off r (d : Int) = (pcOf r i).at d := by
  unfold Pc.at pcOf pcNum
  by_cases e : d = i
  · rw [e]
    cases pcTo r i
    · rfl
    · show off r (i : Int) = (i : Int) + off r (i : Int) - (i : Int)
      omega
  · by_cases hto : lastBy r i < lastTo r i
    · have ht : pcTo r i = true := decide_eq_true hto
      have hl : pcLast r i = lastTo r i := Nat.max_eq_right (Nat.le_of_lt hto)
      rw [hl] at h2
      have := (grow_all (P := ToP r i) _ _ d (by omega) h2).2
      rw [ht]
      show off r (d : Int) = (i : Int) + off r (i : Int) - (d : Int)
      omega
    · have ht : pcTo r i = false := decide_eq_false hto
      have hl : pcLast r i = lastBy r i := Nat.max_eq_left (by omega)
      rw [hl] at h2
      have := (grow_all (P := ByP r i) _ _ d (by omega) h2).2
      rw [ht]
      exact this
theorem formPcs_cov {r : List Int} {k : Nat} (h : IsCount r k) : Cov (formPcs r k) 0 r.length := by
  have key : ∀ m j, j + m = k → Cov ((List.range m).map fun x => pcOf r (fs r (j + x))) (fs r j) r.length := by
    intro m
    induction m with
    | zero =>
      intro j hj
      have hjk : j = k := by omega
      show fs r j = r.length
      have h1 := h.end_
      rw [← hjk] at h1
      cases j with
      | zero =>
        have : fs r 0 = 0 := rfl
        omega
      | succ j =>
        have h2 := pcLast_lt (h.low j (by omega))
        have : fs r (j + 1) = pcLast r (fs r j) + 1 := rfl
        omega
    | succ m ih =>
      intro j hj
      have hl := h.low j (by omega)
      rw [List.range_succ_eq_map, List.map_cons, List.map_map]
      refine ⟨rfl, pcLast_ge r _, pcLast_lt hl, ?_⟩
      have := ih (j + 1) (by omega)
      have e : (fun x => pcOf r (fs r (j + 1 + x))) = ((fun x => pcOf r (fs r (j + x))) ∘ Nat.succ) := by
        funext x
        show pcOf r (fs r (j + 1 + x)) = pcOf r (fs r (j + (x + 1)))
        rw [show j + 1 + x = j + (x + 1) by omega]
      rw [e] at this
      exact this
  have h0 := key k 0 (by omega)
  simp only [Nat.zero_add] at h0
  exact h0
theorem formPcs_rows {r : List Int} {k : Nat} (h : IsCount r k) : rowsOf (formPcs r k) = r := by
  have e := rowsOf_eq (formPcs_cov h) fun c hc d h1 h2 => by
    obtain ⟨j, hj, rfl⟩ := List.mem_map.mp hc
    exact pcOf_at (h.low j (List.mem_range.mp hj)) d h1 h2
  rw [e, List.drop_zero]
end My

/-! Rules of our own over the hand layer: own comparisons and operators of instances with a dict, properties and makers by positional promises. -/
namespace My
open PySem PySem.Spec PyProof.Rows L2
section
variable {X : Cx} {CX : CXT} {n : Nat} {C g : Addr} {sp : Sp} {E : XK}
/-- an instance that is tracked, as the library sees it -/
theorem inst_of {pins : List (Addr × Obj)} {σ : L2.St} {H : Hp} {s : Shared} {a dx : Addr} {fs : List (Str × V)} (I : Inv X pins σ H s) (h : H a = some (.ins C dx fs)) :
    ∃ od, PySem.W.InstAt s.heap a (PySem.W.instObj C dx) C (some od) := by
  obtain ⟨mA, O, _⟩ := ins_get I.hok h
  obtain ⟨od, J, _⟩ := O.look
  exact ⟨od, J⟩
/-- x op y for two instances, by a def of the left one's class -/
def rOwnI (K : PySem.W.Frag) (C : Addr) (sp : Sp) (E : XK) : R2 := fun x y H Q =>
  ∃ a dx fs b C' dy gs, x = .ref a ∧ y = .ref b ∧ H a = some (.ins C dx fs) ∧ H b = some (.ins C' dy gs) ∧ PySem.W.notFirst K C (.ref C') = true ∧ sp [x, y] H Q E
theorem op_ownI {op : CmpOp} (hop : ∀ a b, compareOp op a b = richCompare op a b) (hs : PySem.W.findIn X.K (.ref C) (cmpInfo op).2.1 = some (some (.ref g)))
    (hf : PySem.W.isFn X.K (.ref g) = true) (F : FnR X.prog X.w X.K X.mg X.base CX n g sp) (hr : Room n X.A) (hx : Passes CX X E) :
    OpR X (compareOp op) (rOwnI X.K C sp E) := by
  intro pins s σ H x y v u Q I rx ry h
  obtain ⟨a, dx, fs, b, C', dy, gs, rfl, rfl, ha, hb, hn, q⟩ := h
  obtain rfl : v = Value.ref a := rx
  obtain rfl : u = Value.ref b := ry
  obtain ⟨od, J⟩ := inst_of I ha
  obtain ⟨od', J'⟩ := inst_of I hb
  obtain ⟨m, hF⟩ := I.fr
  rw [hop]
  refine PySem.W.cmp_K (op := op) (tb := .ref C') hr.units0 hF I.ok.mod.kin J J'.type hn hs hf ?_
  have vs2 : Vals [V.ref a, V.ref b] [Value.ref a, Value.ref b] := .cons rfl (.cons rfl .nil)
  refine thn (wpAny_call (run_fnR F hr hx I vs2 q)) fun w s' z => ?_
  obtain ⟨z', H', I', rz, qz⟩ := z
  exact SlX.cmpback rz ⟨z', H', I', rz, qz⟩
/-- x op y (arithmetic) for two instances of one class -/
def rBinI (C : Addr) (sp : Sp) (E : XK) : R2 := fun x y H Q =>
  ∃ a dx fs b dy gs, x = .ref a ∧ y = .ref b ∧ H a = some (.ins C dx fs) ∧ H b = some (.ins C dy gs) ∧ sp [x, y] H Q E
theorem op_binI {op : Operator} (hc : PySem.W.selfFirst X.K C = true) (hs : PySem.W.findIn X.K (.ref C) (PySem.dunder op.info.2) = some (some (.ref g)))
    (hf : PySem.W.isFn X.K (.ref g) = true) (F : FnR X.prog X.w X.K X.mg X.base CX n g sp) (hr : Room n X.A) (hx : Passes CX X E) :
    OpR X (binaryOp op) (rBinI C sp E) := by
  intro pins s σ H x y v u Q I rx ry h
  obtain ⟨a, dx, fs, b, dy, gs, rfl, rfl, ha, hb, q⟩ := h
  obtain rfl : v = Value.ref a := rx
  obtain rfl : u = Value.ref b := ry
  obtain ⟨od, J⟩ := inst_of I ha
  obtain ⟨od', J'⟩ := inst_of I hb
  obtain ⟨m, hF⟩ := I.fr
  refine PySem.W.binop_K (op := op) hF I.ok.mod.kin J J'.type hc hs hf ?_
  have vs2 : Vals [V.ref a, V.ref b] [Value.ref a, Value.ref b] := .cons rfl (.cons rfl .nil)
  refine thn (wpAny_call (run_fnR F hr hx I vs2 q)) fun w s' z => ?_
  obtain ⟨z', H', I', rz, qz⟩ := z
  exact SlX.cmpback rz ⟨z', H', I', rz, qz⟩
end
/-! ### a property by a positional promise -/
def tPropR (C : Addr) (sp : Sp) (E : XK) (ta : TE) : TE := fun σ H Q => ta σ H fun x H1 => ∃ a dx fs, x = .ref a ∧ H1 a = some (.ins C dx fs) ∧ sp [.ref a] H1 Q E
section
variable {X : Cx} {CX : CXT} {k : Nat} {C p g : Addr} {f : Str} {sp : Sp} {E : XK} {e : Expr} {pos : Pos} {ta : TE}
theorem pe_propR (he : PE X e ta) (c : Cls X.K C) (hp : PropOf X.K C f p g) (F : FnR X.prog X.w X.K X.mg X.base CX k g sp) (hr : Room (k + 1) X.A)
    (hx : Passes CX X.nox E) (hab : attributeBase e f X.env (eval e X.env) = eval e X.env := by rfl) : PE X (.Attribute e f pos) (tPropR C sp E ta) := by
  refine ⟨fun pins s σ H Q I h => attr_of hab (thn (he.run pins s σ H _ I h) fun u s1 z => ?_)⟩
  obtain ⟨x, H1, I1, rx, a, dx, fs, ex, ea, q⟩ := z
  subst ex
  obtain rfl : u = Value.ref a := rx
  obtain ⟨od, J⟩ := inst_of I1 ea
  obtain ⟨rest, hrec⟩ := hp.rec_
  have I2 := I1.tok (s1.toks + 1)
  have isC : (PySem.W.clsIn X.K C).isSome = true := by
    obtain ⟨cd, hcd, _⟩ := PySem.W.any_some c.hd
    rw [hcd]
    rfl
  refine PySem.W.get_bind I1.kIn J (PySem.W.plainGet_of (c.get f)).1 (PySem.W.findObj_data isC hp.at_ hp.get hp.tak) (PySem.W.plainGet_of (c.get f)).2
    (wpAny_call (PySem.W.prop_get (s := { s1 with toks := s1.toks + 1 }) I1.kIn hrec ?_))
  have v1 : Vals [V.ref a] [Value.ref a] := .cons rfl .nil
  refine codeAny_mono (F X.A.in1 X.stack _ H1 _ _ Q E hr.in1 I2.env0.in1 v1 q) fun r s' hq => ?_
  rcases r with er | fl
  · exact False.elim (hx pins σ H1 { s1 with toks := s1.toks + 1 } er s' (I2.wish _) hq)
  · cases fl with
    | ret w =>
      obtain ⟨v, H', I3, rv, q3⟩ := I2.after hq
      show wpAny _ _ (handedOut w) _ _ _
      rw [PySem.W.handedOut_of (handed_of rv)]
      exact wpAny_pure ⟨v, H', I3, rv, q3⟩
    | next => exact False.elim hq
    | brk => exact False.elim hq
    | cont => exact False.elim hq
end
/-! ### calls by positional promises -/
def tFn (sp : Sp) (E : XK) (t : TA) : TE := fun σ H Q => t σ H fun vs H1 => sp vs H1 Q E
section
variable {X : Cx} {CX : CXT} {k i : Nat} {C f p g : Addr} {mc : Value} {sp : Sp} {E : XK} {x m : Str} {e o : Expr} {es : List Expr} {ta : TE} {t : TA} {np pos apos : Pos} {pl : Sem Bool}
/-- x(e, ..), x a def of the module -/
theorem pe_fR (F : FnR X.prog X.w X.K X.mg X.base CX k f sp) (hk : PySem.W.keepIn X.K (.ref f) = true) (hm : X.mg x = some (.ref f)) (hr : Room k X.A) (hx : Passes CX X E) (ha : PA X (e :: es) t)
    (hg : Gl X x := by rfl) (hd : (x == ("__debug__" : Str)) = false := by decide) (hse : starEach (e :: es) X.env = (false, eval e X.env) :: starEach es X.env := by rfl)
    (hpl : (backTo pos (starEach es X.env)).any (·.1) = false := by rfl) : PE X (.Call (.Name x np) (e :: es) [] pos) (tFn sp E t) := by
  refine ⟨fun pins s σ H Q I h => wpAny_Call_Name_kw (ld_glob I hg hm ?_ hd)⟩
  refine PySem.W.callWith_K (h₀ := X.base) I.ok.mod.kin hk (thn (ha.run pos pins s σ H _ I h) fun us s1 z => ?_) hse hpl
  obtain ⟨vs, H1, I1, r, q⟩ := z
  exact ⟨I1.kIn, wpAny_call (run_fnR F hr hx I1 r q)⟩
/-- x() -/
theorem pe_f0R (F : FnR X.prog X.w X.K X.mg X.base CX k f sp) (hk : PySem.W.keepIn X.K (.ref f) = true) (hm : X.mg x = some (.ref f)) (hr : Room k X.A) (hx : Passes CX X E)
    (hg : Gl X x := by rfl) (hd : (x == ("__debug__" : Str)) = false := by decide) : PE X (.Call (.Name x np) [] [] pos) (tFn sp E tNil) := by
  refine ⟨fun pins s σ H Q I h => wpAny_Call_Name_kw (ld_glob I hg hm ?_ hd)⟩
  exact PySem.W.callWith_K0 I.kIn hk (wpAny_call (run_fnR (us := []) (vs := []) F hr hx I .nil h))
/-- o.m() of an instance -/
theorem pe_m0R (he : PE X o ta) (c : Cls X.K C) (hm : Meth X.K C m f) (F : FnR X.prog X.w X.K X.mg X.base CX k f sp) (hr : Room k X.A) (hx : Passes CX X E)
    (ht : eval (.Call (.Attribute o m apos) [] [] pos) X.env = (do
      let ov ← eval o X.env
      standAt apos.atName
      let (f, first) ← holding [ov] (getMethod ov m pl)
      callWith pos f first (backTo pos (starEach [] X.env)) (backToKw pos (keywordEach [] X.env))) := by rfl) :
    PE X (.Call (.Attribute o m apos) [] [] pos) (tMethR C m sp E ta tNil) := by
  refine ⟨fun pins s σ H Q I h => PySem.W.methodCall_KW (pl := pl) (thn (he.run pins s σ H _ I h) fun u s1 z => ?_) ht⟩
  obtain ⟨y, H1, I1, ry, a, dx, fs, ey, ea, l, q⟩ := z
  subst ey
  obtain rfl : u = Value.ref a := ry
  have v1 : Vals [V.ref a] [Value.ref a] := .cons rfl .nil
  exact getmeth_ok I1 ea c hm l (PySem.W.callWith_K0 (first := [.ref a]) I1.kIn hm.kp (wpAny_call (run_fnR F hr hx I1 v1 q)))
/-- C.m(), m a classmethod -/
theorem pe_cm0R (he : PE X o ta) (r : ClX.CRead X.K C mc) (c : ClX.CMet X.K C mc m p g) (F : FnR X.prog X.w X.K X.mg X.base CX k g sp) (hr : Room k X.A) (hx : Passes CX X E)
    (ht : eval (.Call (.Attribute o m apos) [] [] pos) X.env = (do
      let ov ← eval o X.env
      standAt apos.atName
      let (f, first) ← holding [ov] (getMethod ov m pl)
      callWith pos f first (backTo pos (starEach [] X.env)) (backToKw pos (keywordEach [] X.env))) := by rfl) :
    PE X (.Call (.Attribute o m apos) [] [] pos) (ClX.tCMeth C sp E ta tNil) := by
  refine ⟨fun pins s σ H Q I h => PySem.W.methodCall_KW (pl := pl) (thn (he.run pins s σ H _ I h) fun u s1 z => ?_) ht⟩
  obtain ⟨y, H1, I1, ry, ey, q⟩ := z
  subst ey
  obtain rfl : u = Value.ref C := ry
  refine ClX.getmethcm_ok I1 r c fun s2 I2 => ?_
  exact PySem.W.callWith_M0 (first := []) ⟨ClX.pin_at I2, I2.kIn⟩ c.fi (ClX.run_cm (us := []) F hr hx I2 .nil q)
/-- x(e, ..), x a local name that holds the class at C -/
def tMakeV (i : Nat) (C : Addr) (sp : Sp) (E : XK) (t : TA) : TE := fun σ H Q => σ[i]? = some (some (.ref C)) ∧ StX.tMakeR C sp E t σ H Q
theorem pe_makeV (M : Mk X.K C f) (F : FnR X.prog X.w X.K X.mg X.base CX k f sp) (hr : Room (k + 1) X.A) (hx : Passes CX X E) (ha : PA X (e :: es) t) (hN : X.N[i]? = some x := by rfl)
    (hv : Vis X.env.scope x := by first | exact Or.inl rfl | exact Or.inr (Or.inl rfl) | exact Or.inr (Or.inr rfl))
    (hd : (x == ("__debug__" : Str)) = false := by decide) (hcd : (x == ("__classdict__" : Str)) = false := by decide)
    (hse : starEach (e :: es) X.env = (false, eval e X.env) :: starEach es X.env := by rfl)
    (hpl : (backTo pos (starEach es X.env)).any (·.1) = false := by rfl) : PE X (.Call (.Name x np) (e :: es) [] pos) (tMakeV i C sp E t) := by
  refine ⟨fun pins s σ H Q I h => ?_⟩
  obtain ⟨hs, h⟩ := h
  have hvar := (pe_var (pos := np) (i := i) hN hv hd hcd).run pins s σ H (fun v H1 => v = .ref C ∧ H1 = H) I ⟨.ref C, hs, rfl, rfl⟩
  refine wpAny_Call_Name_kw (thn hvar fun u s1 z => ?_)
  obtain ⟨v, H1, I1, r1, ev, eH⟩ := z
  subst ev
  rw [eH] at I1
  obtain rfl : u = Value.ref C := r1
  refine PySem.W.callWith_K (h₀ := X.base) I.ok.mod.kin M.kp (thn (ha.run pos pins s1 σ H _ I1 h) fun us s2 z => ?_) hse hpl
  obtain ⟨vs, H2, I2, r, q⟩ := z
  exact ⟨I2.kIn, StX.run_makeR M F hr hx I2 r q⟩
end
end My

/-! What the top has left, as one list of Bools over its part of the heap, and each def of the text by its place in a list. -/
namespace My
open PySem PySem.Spec PyProof.Rows L2
abbrev Fg := PySem.W.Frag
/-- the hook's look -/
def seeX (fa : List (Fg → Bool)) (fn : List He5.DefA) (K : Fg) : He.AlD := (fa.all (fun f => f K) && fn.all (fun d => d.ok K), fn.map fun d => He5.fnA K (d.at_ K))
def dueX (fn : List He5.DefA) : He.AlD := (true, fn.map He5.DefA.val)
/-- what some addresses reach in n steps -/
def front (g : Addr → Option Obj) : Nat → List Addr → List Addr
  | 0, as => as
  | n + 1, as => as ++ front g n (as.flatMap fun a => match g a with
    | some o => He.refsD o
    | none => [])
/-- the module's names, what some of them reach in n steps, and the interpreter's own statics -/
def asW (ns : List Str) (n : Nat) (g : Addr → Option Obj) : List Addr := mainGlobals :: cStatics :: sysModules :: front g n (ns.map (He.ga (He.frG g [mainGlobals])))
def seeG (ns : List Str) (n : Nat) (fa : List (Fg → Bool)) (fn : List He5.DefA) (g : Addr → Option Obj) : He.AlD := seeX fa fn (He.frG g (asW ns n g))
def hookX (ns : List Str) (n : Nat) (fa : List (Fg → Bool)) (fn : List He5.DefA) : PySem.W.Hook where
  α := He.AlD
  obs := fun s => seeG ns n fa fn s.heap.get?
  val := fun _ => dueX fn
  says := fun _ h => ∃ K : Fg, K.In h ∧ seeX fa fn K = dueX fn
  of := fun _ _ e => ⟨_, He.frG_in, e⟩
  keeps := fun _ _ _ z k => z.elim fun K q => ⟨K, PySem.W.Frag.In.keeps q.1 k, q.2⟩
theorem seeG_eq {ns : List Str} {n : Nat} {fa : List (Fg → Bool)} {fn : List He5.DefA} {g : Addr → Option Obj} {s : Shared} (h : ∀ a, g a = s.heap.get? a) : seeG ns n fa fn g = (hookX ns n fa fn).obs s := by
  obtain rfl : g = s.heap.get? := funext h
  rfl
structure TxOf (fa : List (Fg → Bool)) (fn : List He5.DefA) (K : Fg) (mg : Str → Option Value) : Prop where
  inn : ∃ h : Heap, K.In h ∧ h.Ns mainGlobals mg
  says : seeX fa fn K = dueX fn
section
variable {fa : List (Fg → Bool)} {fn : List He5.DefA} {K : Fg} {mg : Str → Option Value}
theorem TxOf.fact (T : TxOf fa fn K mg) (i : Nat) {f : Fg → Bool} (h : fa[i]? = some f := by rfl) : f K = true := by
  have e : (fa.all (fun f => f K) && fn.all (fun d => d.ok K)) = true := congrArg (fun z : He.AlD => z.1) T.says
  have e1 := List.all_eq_true.mp (He.ba e).1
  exact e1 f (List.mem_of_getElem? h)
theorem TxOf.fund (T : TxOf fa fn K mg) (i : Nat) {d : He5.DefA} (h : fn[i]? = some d := by rfl) : ∃ fd, FunD K d.name d.qual d.params d.body d.scope (d.dvs K) (d.kws K) (d.at_ K) fd := by
  have e : (fa.all (fun f => f K) && fn.all (fun d => d.ok K)) = true := congrArg (fun z : He.AlD => z.1) T.says
  have e1 := List.all_eq_true.mp (He.ba e).2 d (List.mem_of_getElem? h)
  have e2 : fn.map (fun d => He5.fnA K (d.at_ K)) = fn.map He5.DefA.val := congrArg (fun z : He.AlD => z.2) T.says
  have e3 := congrArg (fun l => l[i]?) e2
  simp only [List.getElem?_map, h, Option.map_some, Option.some.injEq] at e3
  exact He5.DefA.funD e3 e1
theorem TxOf.glo (T : TxOf fa fn K mg) {x : Str} (c : (He.Fa.glo x).ok K = true) : mg x = some (.ref (He.ga K x)) := T.inn.elim fun _ q => He.glo_ok q.1 q.2 c
theorem TxOf.free (T : TxOf fa fn K mg) {x : Str} (c : (He.Fa.free x).ok K = true) : mg x = none := T.inn.elim fun _ q => He.free_ok q.1 q.2 c
theorem TxOf.int (T : TxOf fa fn K mg) {x : Str} {i : Int} (c : (He.Fa.int x i).ok K = true) : ∃ t, mg x = some (.int i t) := T.inn.elim fun _ q => He.int_ok q.1 q.2 c
/-- a def keeps its promise, by positional values: no defaults, nothing raised -/
theorem TxOf.fnR {P : Program} {w : World} {base : Heap} (T : TxOf fa fn K mg) (i : Nat) {x qual : Str} {st : Stmt} {at_ : Fg → Addr} {N ps : List Str} {k : Nat} {sp : Sp}
    (hi : fn[i]? = some ⟨at_, x, qual, defArgs st, defBody st, defScope st, [], []⟩) (S : FnScope N ps (defScope st))
    (hb : ∀ (kV doc pm : Value) (an : Option Addr) (cdv ct : Value) (us : List Value), us.length = ps.length →
      bindArgs (PySem.W.fnOf x qual (defArgs st) (defBody st) (defScope st) .none kV doc pm an cdv ct) ⟨us, []⟩ = pure (ps.zip us))
    (len : ∀ vs H Q E, sp vs H Q E → vs.length = ps.length)
    (hbody : ∀ (cdv : Value) (A : Around) (outer : List Env) (s : Shared) (H : Hp) (vs : List V) (Q : VK) (E : XK), Room k (A.deeper (envOfC qual (defScope st) s.heap.objs.size (at_ K) cdv)) → sp vs H Q E →
      ∃ t, PSs (cxOf CX0 P w K mg base N qual (defScope st) (at_ K) cdv A outer s H E).nox (defBody st) t ∧ t { nx := fun _ H' => Q .non H', rt := Q } (start N vs) H) :
    FnR P w K mg base CX0 (k + 1) (at_ K) sp := by
  obtain ⟨fd, F⟩ := T.fund i hi
  have F0 : FunD K x qual (defArgs st) (defBody st) (defScope st) [] [] (at_ K) fd := F
  have G : FnOk P w K mg base CX0 (k + 1) (at_ K) fd ps sp := F0.ok S len fun cdv A outer s H vs Q E hr h => by
    obtain ⟨t, h1, h2⟩ := hbody cdv A outer s H vs Q E hr h
    exact ⟨t, h1.nox, h2⟩
  exact (G.raw (F0.bindsN hb) .nil).imp fun vs H Q E h => by
    rw [List.append_nil]
    exact h
theorem TxOf.kp (T : TxOf fa fn K mg) (i : Nat) {x qual : Str} {st : Stmt} {at_ : Fg → Addr} (hi : fn[i]? = some ⟨at_, x, qual, defArgs st, defBody st, defScope st, [], []⟩) : PySem.W.keepIn K (.ref (at_ K)) = true := by
  obtain ⟨fd, F⟩ := T.fund i hi
  exact F.kp
end
/-! ### more looks -/
def propB (C f : Str) (K : Fg) : Bool := He.eqO (PySem.W.findIn K (.ref (He.ga K C)) f) (some (some (.ref (He.ma K (He.ga K C) f)))) &&
  (He.eqO (PySem.W.specialIn K (.ref (He.ma K (He.ga K C) f)) "__get__") (some (some (.builtin "property.__get__"))) && (decide (PySem.W.takesIn K (.ref (He.ma K (He.ga K C) f)) = some true) &&
  (match PySem.W.recIn K (He.ma K (He.ga K C) f) "property" with
    | some (.ref _ :: _) => true
    | _ => false)))
theorem propB_ok {C f : Str} {K : Fg} (h : propB C f K = true) : PropOf K (He.ga K C) f (He.ma K (He.ga K C) f) (He5.wf K (He.ga K C) "property" f) := by
  obtain ⟨h1, h⟩ := He.ba h
  obtain ⟨h2, h⟩ := He.ba h
  obtain ⟨h3, h4⟩ := He.ba h
  refine ⟨He.eqO_ok h1, He.eqO_ok h2, of_decide_eq_true h3, ?_⟩
  unfold He5.wf
  split at h4
  · rename_i f r e
    exact ⟨r, by rw [e]⟩
  · cases h4
def cmB (C m : Str) (K : Fg) : Bool := He5.wrapB K (He.ga K C) "classmethod" "classmethod.__get__" m && PySem.W.fnIn K (He5.wf K (He.ga K C) "classmethod" m)
theorem cmB_ok {C m : Str} {K : Fg} (h : cmB C m K = true) : ClX.CMet K (He.ga K C) (.type "type") m (He.ma K (He.ga K C) m) (He5.wf K (He.ga K C) "classmethod" m) :=
  He5.cmet_of (He.ba h).1 (He.ba h).2
def crB (C : Str) (K : Fg) : Bool := PySem.W.readsIn K (He.ga K C) (.type "type") && He.eqO (PySem.W.specialIn K (.ref (He.ga K C)) "__getattribute__") (some (some (.builtin "type.__getattribute__")))
theorem crB_ok {C : Str} {K : Fg} (h : crB C K = true) : ClX.CRead K (He.ga K C) (.type "type") := ⟨(He.ba h).1, He.eqO_ok (He.ba h).2⟩
def coB (C : Str) (K : Fg) : Bool := He.eqO (PySem.W.findIn K (.ref (He.ga K C)) "__call__") (some (some (.ref (He.ma K (He.ga K C) "__call__")))) &&
  (PySem.W.isFn K (.ref (He.ma K (He.ga K C) "__call__")) && PySem.W.fnIn K (He.ma K (He.ga K C) "__call__"))
theorem coB_ok {C : Str} {K : Fg} (h : coB C K = true) : StX.CallO K (He.ga K C) (He.ma K (He.ga K C) "__call__") := by
  obtain ⟨h1, h⟩ := He.ba h
  obtain ⟨h2, h3⟩ := He.ba h
  exact ⟨He.eqO_ok h1, h2, h3⟩
/-- an own special method -/
def spB (C m : Str) (K : Fg) : Bool := He.eqO (PySem.W.findIn K (.ref (He.ga K C)) m) (some (some (.ref (He.ma K (He.ga K C) m)))) && PySem.W.isFn K (.ref (He.ma K (He.ga K C) m))
theorem spB_ok {C m : Str} {K : Fg} (h : spB C m K = true) : PySem.W.findIn K (.ref (He.ga K C)) m = some (some (.ref (He.ma K (He.ga K C) m))) ∧ PySem.W.isFn K (.ref (He.ma K (He.ga K C) m)) = true :=
  ⟨He.eqO_ok (He.ba h).1, (He.ba h).2⟩
def firstB (C : Str) (K : Fg) : Bool := PySem.W.selfFirst K (He.ga K C) && PySem.W.notFirst K (He.ga K C) (.ref (He.ga K C))
/-- what isinstance asks of the class of an instance -/
def tyB (C : Str) (K : Fg) : Bool := He.eqO (PySem.W.findIn K (.ref (He.ga K C)) "__class__") (some (some (.builtin "object.__class__"))) &&
  (He.eqO (PySem.W.specialIn K (.builtin "object.__class__") "__get__") (some (some (.builtin "getset_descriptor.__get__"))) &&
  (decide (PySem.W.takesIn K (.builtin "object.__class__") = some true) && decide (PySem.W.mroIn K (He.ga K C) (.type "object") = some true)))
theorem tyB_ok {C : Str} {K : Fg} (h : tyB C K = true) (c : Cls K (He.ga K C)) {H : Hp} {a dx : Addr} {fs : List (Str × V)} (e : H a = some (.ins (He.ga K C) dx fs)) : TyX K H (.ref a) (.ref (He.ga K C)) := by
  obtain ⟨h1, h⟩ := He.ba h
  obtain ⟨h2, h⟩ := He.ba h
  obtain ⟨h3, h4⟩ := He.ba h
  exact .base (.ins e c (He.eqO_ok h1) (He.eqO_ok h2) (of_decide_eq_true h3) (of_decide_eq_true h4))
def isiB (C D : Str) (b : Bool) (K : Fg) : Bool := decide (PySem.W.kitOne K (.ref (He.ga K C)) (.ref (He.ga K D)) = some b)
theorem isiB_ok {C D : Str} {b : Bool} {K : Fg} (h : isiB C D b K = true) : PySem.W.kitOne K (.ref (He.ga K C)) (.ref (He.ga K D)) = some b := of_decide_eq_true h
/-! ### lists and tuples of ints compared -/
theorem eqvAll_ints : ∀ xs ys : List Int, PyData.eqvAll (xs.map PyData.int) (ys.map PyData.int) = decide (xs = ys)
  | [], [] => by simp [PyData.eqvAll]
  | [], y :: ys => by simp [PyData.eqvAll]
  | x :: xs, [] => by simp [PyData.eqvAll]
  | x :: xs, y :: ys => by
    have ih := eqvAll_ints xs ys
    simp only [List.map_cons, PyData.eqvAll, PyData.eqv, ih]
    by_cases h1 : x = y <;> by_cases h2 : xs = ys <;> simp [h1, h2]
theorem canLay_ints : ∀ xs : List Int, PyData.canLayAll0 (xs.map PyData.int) = true
  | [] => by simp [PyData.canLayAll0]
  | x :: xs => by simp [PyData.canLayAll0, PyData.canLay0, canLay_ints xs]
theorem depth_ints : ∀ xs : List Int, PyData.depthAll (xs.map PyData.int) ≤ 1
  | [] => by simp [PyData.depthAll]
  | x :: xs => by
    have := depth_ints xs
    simp [PyData.depthAll, PyData.depth]
    omega
theorem shaped_list (xs : List Int) : SeqAt.shaped (.list (xs.map PyData.int)) = true := by
  have := depth_ints xs
  simp [SeqAt.shaped, PyData.canLay0, PyData.depth, canLay_ints]
  omega
theorem shaped_tup (xs : List Int) : SeqAt.shaped (.tuple (xs.map PyData.int)) = true := by
  have := depth_ints xs
  simp [SeqAt.shaped, PyData.canLay0, PyData.depth, canLay_ints]
  omega
theorem dp_ints {K : Fg} {H : Hp} : ∀ xs : List Int, DpAll K H (xs.map V.int) (xs.map PyData.int)
  | [] => .nil
  | x :: xs => .cons (.int x) (dp_ints xs)
def rEqI (K : Fg) (neg : Bool) : R2 := fun x y H Q => ∃ (a b : Addr) (xs ys : List Int), x = .ref a ∧ y = .ref b ∧
  ((SqL K H a (xs.map V.int) ∧ SqL K H b (ys.map V.int)) ∨ (SqT K H a (xs.map V.int) ∧ SqT K H b (ys.map V.int))) ∧ Q (.bl (if neg then !decide (xs = ys) else decide (xs = ys))) H
section
variable {X : Cx}
/-- two lists, two tuples of ints: == -/
theorem op_eqI (hu : X.A.units + 64 < cLine) : OpR X (compareOp .Eq) (rEqI X.K false) := by
  intro pins s σ H x y v u Q I rx ry h
  obtain ⟨a, b, xs, ys, rfl, rfl, h, q⟩ := h
  rcases h with ⟨h1, h2⟩ | ⟨h1, h2⟩
  · refine op_eqD hu pins s σ H (.ref a) (.ref b) v u Q I rx ry ⟨_, _, .lst h1 (dp_ints xs), .lst h2 (dp_ints ys), ?_, ?_, ?_⟩
    · first | exact shaped_list _ | exact shaped_tup _
    · first | exact shaped_list _ | exact shaped_tup _
    · rw [PyData.eqv, eqvAll_ints]
      exact q
  · refine op_eqD hu pins s σ H (.ref a) (.ref b) v u Q I rx ry ⟨_, _, .tup h1 (dp_ints xs), .tup h2 (dp_ints ys), ?_, ?_, ?_⟩
    · first | exact shaped_list _ | exact shaped_tup _
    · first | exact shaped_list _ | exact shaped_tup _
    · rw [PyData.eqv, eqvAll_ints]
      exact q
/-- .. and != -/
theorem op_neI (hu : X.A.units + 64 < cLine) : OpR X (compareOp .NotEq) (rEqI X.K true) := by
  intro pins s σ H x y v u Q I rx ry h
  obtain ⟨a, b, xs, ys, rfl, rfl, h, q⟩ := h
  rcases h with ⟨h1, h2⟩ | ⟨h1, h2⟩
  · refine op_neD hu pins s σ H (.ref a) (.ref b) v u Q I rx ry ⟨_, _, .lst h1 (dp_ints xs), .lst h2 (dp_ints ys), ?_, ?_, ?_⟩
    · first | exact shaped_list _ | exact shaped_tup _
    · first | exact shaped_list _ | exact shaped_tup _
    · rw [PyData.eqv, eqvAll_ints]
      exact q
  · refine op_neD hu pins s σ H (.ref a) (.ref b) v u Q I rx ry ⟨_, _, .tup h1 (dp_ints xs), .tup h2 (dp_ints ys), ?_, ?_, ?_⟩
    · first | exact shaped_list _ | exact shaped_tup _
    · first | exact shaped_list _ | exact shaped_tup _
    · rw [PyData.eqv, eqvAll_ints]
      exact q
end
/-! ### slots behind a comprehension's names -/
theorem sz {n : Nat} (h : n ≤ 1000000) : n ≤ sizeLine := Nat.le_trans h (by decide)
theorem szl {n : Nat} (h : n < 1000000) : n < sizeLine := Nat.lt_of_lt_of_le h (by decide)
theorem cut_all {xs : List V} : cutV xs none none = xs := by
  unfold cutV HT.sIx
  simp
/-- a turn of a while that goes on -/
theorem wh_go {W : Nat → L2.St → Hp → Prop} {m : Nat} {tb : TS} {D : Ends} {σ : L2.St} {H : Hp}
    (h : tb { D with nx := fun σ' H' => ∃ m', m' < m ∧ W m' σ' H', ct := fun σ' H' => ∃ m', m' < m ∧ W m' σ' H', bk := D.nx } σ H) :
    ∃ N : L2.St → Hp → Prop, (∀ σ' H', N σ' H' → ∃ m', m' < m ∧ W m' σ' H') ∧ tb { D with nx := N, ct := N, bk := D.nx } σ H := ⟨_, fun _ _ z => z, h⟩
theorem abs_nat (a : Nat) : (if (a : Int) < 0 then -(a : Int) else (a : Int)) = (a : Int) := if_neg (by omega)
/-! ### slices -/
theorem cut_from {xs : List V} (d : Nat) : cutV xs (some (d : Int)) none = xs.drop d := by
  unfold cutV
  rw [HT.sIx_nat, HT.sIx_none]
  by_cases h : d ≤ xs.length
  · rw [Nat.min_eq_left h, List.take_of_length_le]
    rw [List.length_drop]
    exact Nat.le_refl _
  · rw [Nat.min_eq_right (by omega), List.drop_of_length_le (Nat.le_refl _), List.drop_of_length_le (by omega), List.take_nil]
theorem cut_to {xs : List V} (d : Nat) : cutV xs none (some (d : Int)) = xs.take d := by
  unfold cutV
  rw [HT.sIx_nat, HT.sIx_none, List.drop_zero, Nat.sub_zero]
  by_cases h : d ≤ xs.length
  · rw [Nat.min_eq_left h]
  · rw [Nat.min_eq_right (by omega), List.take_of_length_le (Nat.le_refl _), List.take_of_length_le (by omega)]
theorem cut_back {xs : List V} {d : Nat} (h0 : 0 < d) : cutV xs none (some (-(d : Int))) = xs.take (xs.length - d) := by
  unfold cutV
  rw [HT.sIx_none, List.drop_zero, Nat.sub_zero]
  have e : HT.sIx xs.length xs.length (some (-(d : Int))) = xs.length - d := by
    show (if (-(d : Int)) < 0 then (-(d : Int) + (xs.length : Int)).toNat else min (-(d : Int)).toNat xs.length) = _
    rw [if_pos (by omega)]
    omega
  rw [e]
theorem same_upd {H : Hp} {p : Addr} {o : HO} (h : H p = none) : Same H (upd H p o) := fun b u e => by
  rw [upd_ne (ne_of_none e h)]
  exact e
theorem same_tup {H H' : Hp} {K : Fg} {a : Addr} {xs : List V} (s : Same H H') (h : SqT K H a xs) : SqT K H' a xs := by
  rcases h with (h | ⟨o, h⟩) | h
  · exact .inl (.inl (s _ _ h))
  · exact .inl (.inr ⟨o, s _ _ h⟩)
  · exact .inr h
theorem mapInt_take (xs : List Int) (d : Nat) : (xs.map V.int).take d = (xs.take d).map V.int := (List.map_take).symm
theorem mapInt_drop (xs : List Int) (d : Nat) : (xs.map V.int).drop d = (xs.drop d).map V.int := (List.map_drop).symm
theorem mapInt_get {xs : List Int} {j : Nat} {i : Int} (h : xs[j]? = some i) : (xs.map V.int)[j]? = some (V.int i) := by
  rw [List.getElem?_map, h]
  rfl
/-- the same slots, written otherwise -/
theorem at_st {W : L2.St → Hp → Prop} {σ σ' : L2.St} {H : Hp} (e : σ = σ') (h : W σ' H) : W σ H := e ▸ h
theorem at_q {Q : VK} {v v' : V} {H : Hp} (e : v = v') (h : Q v' H) : Q v H := e ▸ h
/-! ### a comprehension's list so far: what stood stands -/
def Acc (H1 : Hp) (D : Addr) (f : Nat → V) (i : Nat) (H : Hp) : Prop := Same H1 H ∧ H D = some (.lst ((List.range i).map f))
theorem Acc.start {H1 : Hp} {D : Addr} {f : Nat → V} (hD : H1 D = none) : Acc H1 D f 0 (upd H1 D (.lst [])) := ⟨same_upd hD, upd_same⟩
theorem same_under {H1 H : Hp} {D : Addr} {o : HO} (s : Same H1 H) (hD : H1 D = none) : Same H1 (upd H D o) := fun b u e => by
  rw [upd_ne (ne_of_none e hD)]
  exact s b u e
theorem range_push {f : Nat → V} (i : Nat) : (List.range i).map f ++ [f i] = (List.range (i + 1)).map f := by
  rw [List.range_succ, List.map_append]
  rfl
theorem Acc.push {H1 H H4 : Hp} {D : Addr} {f : Nat → V} {i : Nat} {y : V} (a : Acc H1 D f i H) (hD : H1 D = none) (s : Same H H4) (hi : i < 1000000) (e : y = f i) :
    ∃ acc, H4 D = some (.lst acc) ∧ acc.length < sizeLine ∧ Acc H1 D f (i + 1) (upd H4 D (.lst (acc ++ [y]))) := by
  refine ⟨_, s _ _ a.2, ?_, same_under (a.1.trans s) hD, ?_⟩
  · rw [List.length_map, List.length_range]
    exact szl hi
  · rw [upd_same, e, range_push]
/-- a list of ints by its places -/
theorem range_map_int {n : Nat} {g : Nat → Int} : (List.range n).map (fun i => V.int (g i)) = ((List.range n).map g).map V.int := by
  rw [List.map_map]
  rfl
/-! ### rules with the written part told (within a comprehension's block it must not be the block's own) -/
section
variable {fa : List (Fg → Bool)} {fn : List He5.DefA} {K : Fg} {mg : Str → Option Value} {X : Cx}
def rLenQ (K : Fg) : List V → Hp → VK → Prop := fun xs H Q => ∃ p ys, xs = [.ref p] ∧ (SqL K H p ys ∨ SqT K H p ys) ∧ Q (.int (ys.length : Int)) H
def rListQ (K : Fg) : List V → Hp → VK → Prop := fun xs H Q => ∃ p ys, xs = [.ref p] ∧ (SqL K H p ys ∨ SqT K H p ys) ∧ ∀ l, H l = none → Q (.ref l) (upd H l (.lst ys))
def rTupQ (K : Fg) : List V → Hp → VK → Prop := fun xs H Q => ∃ p ys, xs = [.ref p] ∧ ((SqL K H p ys ∧ ∀ l, H l = none → Q (.ref l) (upd H l (.tup ys))) ∨ (SqT K H p ys ∧ Q (.ref p) H))
theorem len_k (T : TxOf fa fn K mg) (hK : X.K = K := by rfl) : CallR X (.builtin "len") (rLenQ K) := by subst hK; exact call_len_seq
theorem lst_k (T : TxOf fa fn K mg) (hK : X.K = K := by rfl) : CallR X (.type "list") (rListQ K) := by subst hK; exact call_list_of
theorem tup_k (T : TxOf fa fn K mg) (hK : X.K = K := by rfl) : CallR X (.type "tuple") (rTupQ K) := by subst hK; exact call_tuple_of
theorem isi_k (T : TxOf fa fn K mg) (hK : X.K = K := by rfl) : CallR X (.builtin "isinstance") (rIsi K) := by subst hK; exact call_isi
theorem isiT_k (T : TxOf fa fn K mg) (hK : X.K = K := by rfl) : CallR X (.builtin "isinstance") (rIsiT K) := by subst hK; exact call_isiT
theorem all_k (T : TxOf fa fn K mg) (hc : X.calm = true) (hK : X.K = K := by rfl) : CallR X (.builtin "all") (rAll K) := by subst hK; exact cr_all hc
theorem ixl (T : TxOf fa fn K mg) (hK : X.K = K := by rfl) : IxR X (rIxL K) := by subst hK; exact ix_list
theorem ixt (T : TxOf fa fn K mg) (hK : X.K = K := by rfl) : IxR X (rIxT K) := by subst hK; exact ix_tup
theorem sll (T : TxOf fa fn K mg) (hK : X.K = K := by rfl) : SlR X (rSlL K) := by subst hK; exact sl_list
theorem slt (T : TxOf fa fn K mg) (hK : X.K = K := by rfl) : SlR X (rSlT K) := by subst hK; exact sl_tup
theorem eqi (T : TxOf fa fn K mg) (hu : X.A.units + 64 < cLine) (hK : X.K = K := by rfl) : OpR X (compareOp .Eq) (rEqI K false) := by subst hK; exact op_eqI hu
theorem nei (T : TxOf fa fn K mg) (hu : X.A.units + 64 < cLine) (hK : X.K = K := by rfl) : OpR X (compareOp .NotEq) (rEqI K true) := by subst hK; exact op_neI hu
theorem rept (T : TxOf fa fn K mg) (hK : X.K = K := by rfl) : OpR X (binaryOp .Mult) (rRepT K) := by subst hK; exact op_repT
theorem midx (T : TxOf fa fn K mg) (hK : X.K = K := by rfl) : MtR X "list.index" (rIndex K) := by subst hK; exact mt_index
variable {tg l e : Expr} {tl : TE} {ta : TA}
theorem pil (T : TxOf fa fn K mg) (hl : PE X l tl) (hK : X.K = K := by rfl) : PI X tg l (iList K tl) := by subst hK; exact pi_list hl
theorem pit (T : TxOf fa fn K mg) (hl : PE X l tl) (hK : X.K = K := by rfl) : PI X tg l (iTup K tl) := by subst hK; exact pi_tup hl
theorem pie (T : TxOf fa fn K mg) {p pos tpos : Pos} {elts : List Expr} {kk : Nat} (hm : mg "enumerate" = none) (ha : PA X [e] ta) (hK : X.K = K := by rfl) (hmg : X.mg = mg := by rfl) (hg : Gl X "enumerate" := by rfl) (hs : starEach [e] X.env = [(false, eval e X.env)] := by rfl) :
    PI X (.Tuple elts kk tpos) (.Call (.Name "enumerate" p) [e] [] pos) (iEnum K ta) := by subst hK; exact pi_enum hg (by rw [hmg]; exact hm) ha hs
theorem piz (T : TxOf fa fn K mg) {p pos tpos : Pos} {e2 : Expr} {elts : List Expr} {kk : Nat} (hm : mg "zip" = none) (ha : PA X [e, e2] ta) (hK : X.K = K := by rfl) (hmg : X.mg = mg := by rfl) (hg : Gl X "zip" := by rfl)
    (hs : starEach [e, e2] X.env = (false, eval e X.env) :: starEach [e2] X.env := by rfl) (hpl : (backTo pos (starEach [e2] X.env)).any (·.1) = false := by rfl) :
    PI X (.Tuple elts kk tpos) (.Call (.Name "zip" p) [e, e2] [] pos) (iZip K ta) := by subst hK; exact pi_zip hg (by rw [hmg]; exact hm) ha hs hpl
theorem pgt (T : TxOf fa fn K mg) {es : List Expr} {k n : Nat} {t : TGs} {pos : Pos} (hc : X.calm = true) (h : PGs X es t) (hK : X.K = K := by rfl) (hn : (assignEach es X.env).length = n := by rfl)
    (hst : (assignEach es X.env).findIdx? (·.1) = none := by rfl) : PG X (.Tuple es k pos) (gTup K n t) := by subst hK; exact pg_tup hc h hn hst
theorem fld (T : TxOf fa fn K mg) {f : Str} {pos : Pos} (he : PE X e tl) (hK : X.K = K := by rfl) (hb : attributeBase e f X.env (eval e X.env) = eval e X.env := by rfl) : PE X (.Attribute e f pos) (tFld K tl f) := by subst hK; exact pe_fld he hb
end
/-! ### an instance called -/
def tCl (C : Addr) (sp : Sp) (E : XK) (tf : TE) (t : TA) : TE := fun σ H Q => tf σ H fun y H1 => ∃ a, y = V.ref a ∧ t σ H1 fun vs H2 => (∃ dx fs, H2 a = some (.ins C dx fs)) ∧ sp (V.ref a :: vs) H2 Q E
theorem pe_clR {X : Cx} {CX : CXT} {k : Nat} {C g : Addr} {sp : Sp} {E : XK} {e fe : Expr} {es : List Expr} {tf : TE} {t : TA} {pos : Pos} (hf : PE X fe tf) (c : StX.CallO X.K C g) (F : FnR X.prog X.w X.K X.mg X.base CX k g sp)
    (hr : Room k X.A) (hx : Passes CX X E) (ha : PA X (e :: es) t)
    (ht : eval (.Call fe (e :: es) [] pos) X.env = (do callWith pos (← eval fe X.env) [] (backTo pos (starEach (e :: es) X.env)) (backToKw pos (keywordEach [] X.env))) := by rfl)
    (he : starEach (e :: es) X.env = (false, eval e X.env) :: starEach es X.env := by rfl) (hpl : (backTo pos (starEach es X.env)).any (·.1) = false := by rfl) : PE X (.Call fe (e :: es) [] pos) (tCl C sp E tf t) := by
  refine ⟨fun pins s σ H Q I h => Call_ (thn (hf.run pins s σ H _ I h) fun u s1 z => ?_) ht⟩
  obtain ⟨y, H1, I1, ry, a, ey, q⟩ := z
  subst ey
  obtain rfl : u = Value.ref a := ry
  refine StX.callO_with (thn (ha.run pos pins s1 σ H1 _ I1 q) fun us s2 z2 => ?_) he hpl
  obtain ⟨vs, H2, I2, r, ⟨dx, fs, hi⟩, q2⟩ := z2
  have hI : StX.InsC X H2 a C := .inr ⟨dx, fs, hi⟩
  obtain ⟨ox, od, J, hd⟩ := StX.insC_at I2 hI
  exact ⟨⟨C, ox, od, J, hd⟩, StX.run_callO c F hr hx I2 hI r q2⟩
/-- any loop that has no slots of its own, by an invariant over the turn and the heap -/
theorem walk_w {J : It} {n : Nat} {G : Hp → Prop} {Y : Nat → Hp → V → Hp → Prop} (w : Walk J n G Y) {H0 : Hp} {Qd : Hp → Prop} {bd : (Hp → Prop) → V → Hp → Prop} (Pv : Nat → Hp → Prop) (h0 : Pv 0 H0)
    (hG : ∀ i H, i ≤ n → Pv i H → G H) (hs : ∀ i x H H', i < n → Pv i H → Y i H x H' → bd (Pv (i + 1)) x H') (hd : ∀ H, Pv n H → Qd H) :
    ∃ W : Nat → Nat → Hp → Prop, (∃ m, W 0 m H0) ∧ ∀ i m H, W i m H → (J.stop i H ∧ Qd H) ∨ (J.go i H ∧ ∃ Nx : Hp → Prop, (∀ H', Nx H' → ∃ m', m' < m ∧ W (i + 1) m' H') ∧ ∀ x H', J.yld i H x H' → bd Nx x H') := by
  refine ⟨fun i m H => m = n - i ∧ i ≤ n ∧ Pv i H, ⟨n, (Nat.sub_zero n).symm, Nat.zero_le _, h0⟩, fun i m H z => ?_⟩
  obtain ⟨rfl, hi, p⟩ := z
  have g := hG i H hi p
  rcases Nat.lt_or_ge i n with lt | ge
  · exact .inr ⟨w.goes i H lt g, Pv (i + 1), fun H' q => ⟨n - (i + 1), by omega, rfl, lt, q⟩, fun x H' y => hs i x H H' lt p (w.yields i H x H' lt g y)⟩
  · obtain rfl : i = n := Nat.le_antisymm hi ge
    exact .inl ⟨w.stops H g, hd H p⟩
/-- a comprehension without a test -/
theorem yes_t {σ : L2.St} {H : Hp} {A B : Hp → Prop} (h : A H) : tYes σ H fun b H3 => if b = true then A H3 else B H3 := by
  show if true = true then A H else B H
  rw [if_pos rfl]
  exact h
end My

namespace My
open PySem PySem.Spec PyProof.Rows L2
/-! ### for x in xs, xs a list or a tuple -/
def iSeqX (K : Fg) (x : V) (H1 : Hp) (R : It → Hp → Prop) : Prop := ∃ a, x = .ref a ∧ ((∃ xs, SqL K H1 a xs ∧ R (Itl K a) H1) ∨ ∃ xs, SqT K H1 a xs ∧ R (Itt K a) H1)
def iSeq (K : Fg) (tl : TE) : TI := fun σ H R => tl σ H fun x H1 => iSeqX K x H1 R
section
variable {fa : List (Fg → Bool)} {fn : List He5.DefA} {K : Fg} {mg : Str → Option Value} {X : Cx} {tg l : Expr} {tl : TE}
theorem pis (T : TxOf fa fn K mg) (hl : PE X l tl) (hK : X.K = K := by rfl) : PI X tg l (iSeq K tl) := by
  subst hK
  refine ⟨fun pins s σ H R I h => thn (hl.run pins s σ H _ I h) fun v s1 z => ?_⟩
  obtain ⟨x, H1, I1, r1, a, rfl, q⟩ := z
  obtain rfl : v = Value.ref a := r1
  have new : ∀ b ∈ [s1.heap.objs.size], FpOk X pins H1 b := fun b hb => by
    obtain rfl : b = s1.heap.objs.size := by simpa using hb
    exact I1.fpOk (Nat.le_refl _) (I1.hok.fresh (Nat.le_refl _))
  rcases q with ⟨xs, hq, q⟩ | ⟨xs, hq, q⟩
  · obtain ⟨its, rv, p, hz⟩ := I1.list hq
    exact wpAny_pyIter_list p.isList ⟨_, [s1.heap.objs.size], _, _, H1, rfl, I1.kept (t' := s1.toks) fun b o e => Heap.get?_push_of_some _ e, turn_list a _, ⟨_, Heap.get?_push_size _ rfl, rfl, rfl⟩, new, q⟩
  · obtain ⟨its, rv, p, hz⟩ := I1.tuple hq
    exact wpAny_pyIter_tuple (show s1.heap.IsTuple a its.toArray from p) ⟨_, [s1.heap.objs.size], _, _, H1, rfl, I1.kept (t' := s1.toks) fun b o e => Heap.get?_push_of_some _ e, turn_tuple a _, ⟨_, Heap.get?_push_size _ rfl, rfl, rfl⟩, new, q⟩
end
/-! ### heaps in which one object may have changed -/
/-- all but what stands at p -/
def Kx (p : Addr) (H H' : Hp) : Prop := ∀ b o, H b = some o → b ≠ p → H' b = some o
theorem Kx.refl {p : Addr} (H : Hp) : Kx p H H := fun _ _ h _ => h
theorem Kx.trans {p : Addr} {H H1 H2 : Hp} (a : Kx p H H1) (b : Kx p H1 H2) : Kx p H H2 := fun c o h n => b c o (a c o h n) n
theorem kx_same {p : Addr} {H H' : Hp} (s : Same H H') : Kx p H H' := fun b o h _ => s b o h
theorem kx_upd {p : Addr} {H : Hp} {o : HO} : Kx p H (upd H p o) := fun b u h n => by
  rw [upd_ne n]
  exact h
theorem Kx.free {p : Addr} {H H' : Hp} (k : Kx p H H') {l : Addr} (hp : H' p ≠ none) (h : H' l = none) : H l = none := by
  cases q : H l with
  | none => rfl
  | some o =>
    by_cases e : l = p
    · rw [e] at h
      exact absurd h hp
    · rw [k l o q e] at h
      cases h
/-- a thing of another kind than a dict stands elsewhere -/
theorem ne_dict {H : Hp} {p b : Addr} {kvs : List (Key × V)} {o : HO} (hp : H p = some (.dK kvs)) (hb : H b = some o) (d : o ≠ .dK kvs) : b ≠ p := fun e => by
  rw [e, hp] at hb
  exact d (Option.some.inj hb).symm
/-! ### ways joined behind a statement -/
def tMid (t u : TS) : TS := fun D σ H => ∃ Mid : L2.St → Hp → Prop, t { D with nx := Mid } σ H ∧ ∀ σ' H', Mid σ' H' → u D σ' H'
theorem pss_mid {X : Cx} {st : Stmt} {rest : List Stmt} {t u : TS} (h1 : PS X st t) (h2 : PSs X rest u) : PSs X (st :: rest) (tMid t u) := by
  refine ⟨fun pins s σ H D I h => ?_⟩
  obtain ⟨Mid, ha, hb⟩ := h
  refine wpAny_execs_cons (thn (h1.run pins s σ H { D with nx := Mid } I ha) fun f s1 q => ?_)
  cases f with
  | next => exact q.elim fun σ' q => q.elim fun H' q => h2.run pins s1 σ' H' D q.1 (hb _ _ q.2)
  | ret v => exact q
  | brk => exact q
  | cont => exact q
section
variable {fa : List (Fg → Bool)} {fn : List He5.DefA} {K : Fg} {mg : Str → Option Value} {X : Cx} {o e : Expr} {es : List Expr} {to : TE} {t : TA} {apos cpos : Pos} {Ty : String} {name : Str} {id : String} {r : V → List V → Hp → VK → Prop}
/-- a built-in's method, the written part told -/
theorem bmk (T : TxOf fa fn K mg) (pa : PlainAttrs Ty) (slot : Slot Ty name id) (hty : typeOf (.builtin id) = pure (.type "method_descriptor")) (hm : MtR X id r) (ho : PE X o to) (ha : PA X (e :: es) t) (hK : X.K = K := by rfl)
    (hbase : attributeBase o name X.env (eval o X.env) = eval o X.env := by rfl)
    (hfew : ((backTo cpos (starEach (e :: es) X.env)).all (fun x => !x.1) && (backToKw cpos (keywordEach [] X.env)).all (fun x => x.1.isSome)
      && decide ((e :: es).length + ([] : List Keyword).length + (if ([] : List Keyword).isEmpty then 0 else 1) < 30)) = true := by rfl)
    (hline : (apos.endLine == cpos.line) = true := by rfl) (hs : starEach (e :: es) X.env = (false, eval e X.env) :: starEach es X.env := by rfl) (hplain : (backTo cpos (starEach es X.env)).any (·.1) = false := by rfl) :
    PE X (.Call (.Attribute o name apos) (e :: es) [] cpos) (tBM K Ty r to t) := by
  subst hK
  exact pe_bm pa slot hty hm ho ha hbase hfew hline hs hplain
theorem bmk0 (T : TxOf fa fn K mg) (pa : PlainAttrs Ty) (slot : Slot Ty name id) (hty : typeOf (.builtin id) = pure (.type "method_descriptor")) (hm : MtR X id r) (ho : PE X o to) (hK : X.K = K := by rfl)
    (hbase : attributeBase o name X.env (eval o X.env) = eval o X.env := by rfl) (hline : (apos.endLine == cpos.line) = true := by rfl) : PE X (.Call (.Attribute o name apos) [] [] cpos) (tBM0 K Ty r to) := by
  subst hK
  exact pe_bm0 pa slot hty hm ho hbase hline
end
end My

/-! The law's own def: its promise, its bindings. -/
namespace My
open PySem PySem.Spec PyProof.Rows L2
theorem sqL_same {K : Fg} {H H' : Hp} {a : Addr} {xs : List V} (h : SqL K H a xs) (e : Same H H') : SqL K H' a xs :=
  h.elim (fun h => .inl (h.elim (fun h => .inl (e _ _ h)) fun ⟨o, h⟩ => .inr ⟨o, e _ _ h⟩)) fun h => .inr h
def spLaw (K : Fg) : Sp := fun vs H Q _ => ∃ (a : Addr) (ns : List Int), vs = [.ref a] ∧ SqL K H a (ns.map V.int) ∧ ns.length ≤ 63 ∧ ∀ H' : Hp, Q (.bl true) H'
section
variable {fa : List (Fg → Bool)} {fn : List He5.DefA} {K : Fg} {mg : Str → Option Value}
def LawOk (P : Program) (w : World) (K : Fg) (mg : Str → Option Value) (k : Nat) (x : Str) (at_ : Addr) : Prop :=
  ∃ fd : FuncData, (∀ (s : Shared) (v : Value), BindsTo s fd ⟨[v], []⟩ [(x, v)]) ∧ ∀ base : Heap, FnOk P w K mg base CX0 k at_ fd [x] (spLaw K)
theorem TxOf.law {P : Program} {w : World} (T : TxOf fa fn K mg) (i : Nat) {x qual y : Str} {st : Stmt} {at_ : Fg → Addr} {N : List Str} {k : Nat}
    (hi : fn[i]? = some ⟨at_, x, qual, defArgs st, defBody st, defScope st, [], []⟩) (S : FnScope N [y] (defScope st))
    (hb : ∀ (kV doc pm : Value) (an : Option Addr) (cdv ct : Value) (us : List Value), us.length = [y].length →
      bindArgs (PySem.W.fnOf x qual (defArgs st) (defBody st) (defScope st) .none kV doc pm an cdv ct) ⟨us, []⟩ = pure ([y].zip us))
    (hbody : ∀ (base : Heap) (cdv : Value) (A : Around) (outer : List Env) (s : Shared) (H : Hp) (a : Addr) (ns : List Int) (Q : VK) (E : XK), Room k (A.deeper (envOfC qual (defScope st) s.heap.objs.size (at_ K) cdv)) →
      SqL K H a (ns.map V.int) → ns.length ≤ 63 → (∀ H' : Hp, Q (.bl true) H') →
      ∃ t, PSs (cxOf CX0 P w K mg base N qual (defScope st) (at_ K) cdv A outer s H E).nox (defBody st) t ∧ t { nx := fun _ H' => Q .non H', rt := Q } (start N [.ref a]) H) :
    LawOk P w K mg (k + 1) y (at_ K) := by
  obtain ⟨fd, F⟩ := T.fund i hi
  have F0 : FunD K x qual (defArgs st) (defBody st) (defScope st) [] [] (at_ K) fd := F
  have b := FunD.bindsA (ps := [y]) F0 hb
  refine ⟨fd, fun s v => b s [v] rfl, fun base => ?_⟩
  refine F0.ok S (fun vs H Q E h => ?_) fun cdv A outer s H vs Q E hr h => ?_
  · obtain ⟨a, ns, rfl, _⟩ := h
    rfl
  · obtain ⟨a, ns, rfl, hS, hl, k⟩ := h
    obtain ⟨t, h1, h2⟩ := hbody base cdv A outer s H a ns Q E hr hS hl k
    exact ⟨t, h1.nox, h2⟩
end
end My

/-! Promises of calls below which no repr is under way: repr of lists and tuples. -/
namespace My
open PySem PySem.Spec PyProof.Rows L2
/-- as FnR, for callers with no repr under way -/
def FnG (P : Program) (w : World) (K : Fg) (mg : Str → Option Value) (base : Heap) (k : Nat) (f : Addr) (sp : Sp) : Prop :=
  ∀ (A : Around) (outer : List Env) (st : Shared) (H : Hp) (us : List Value) (vs : List V) (Q : VK) (E : XK), A.guards = some [] → Room k A → Env0 P w K mg base A outer st H → Vals vs us → sp vs H Q E →
    codeAny (model P w) A (.call (.ref f) ⟨us, []⟩) (CR CX0 outer P w H st Q E) st
theorem FnG.mono {P : Program} {w : World} {K : Fg} {mg : Str → Option Value} {base : Heap} {j k : Nat} {f : Addr} {sp : Sp} (F : FnG P w K mg base j f sp) (h : j ≤ k) : FnG P w K mg base k f sp :=
  fun A outer st H us vs Q E hg hr => F A outer st H us vs Q E hg (hr.mono h)
theorem guards_deeper {A : Around} {e : Env} (h : A.guards = some []) : (A.deeper e).guards = some [] := h
section
variable {X : Cx} {k : Nat} {f : Addr} {sp : Sp} {E : XK} {x : Str} {e : Expr} {es : List Expr} {t : TA} {np pos : Pos}
/-- x(e, ..), x a def of the module, no repr under way -/
theorem pe_fG (F : FnG X.prog X.w X.K X.mg X.base k f sp) (hG : X.A.guards = some []) (hk : PySem.W.keepIn X.K (.ref f) = true) (hm : X.mg x = some (.ref f)) (hr : Room k X.A) (hx : Passes CX0 X E) (ha : PA X (e :: es) t)
    (hg : Gl X x := by rfl) (hd : (x == ("__debug__" : Str)) = false := by decide) (hse : starEach (e :: es) X.env = (false, eval e X.env) :: starEach es X.env := by rfl)
    (hpl : (backTo pos (starEach es X.env)).any (·.1) = false := by rfl) : PE X (.Call (.Name x np) (e :: es) [] pos) (tFn sp E t) := by
  refine ⟨fun pins s σ H Q I h => wpAny_Call_Name_kw (ld_glob I hg hm ?_ hd)⟩
  refine PySem.W.callWith_K (h₀ := X.base) I.ok.mod.kin hk (thn (ha.run pos pins s σ H _ I h) fun us s1 z => ?_) hse hpl
  obtain ⟨vs, H1, I1, r, q⟩ := z
  refine ⟨I1.kIn, wpAny_call (codeAny_mono (F X.A X.stack s1 H1 us vs Q E hG hr I1.env0 r q) fun res s2 hq => ?_)⟩
  match res, hq with
  | .error er, hq => exact hx pins σ H1 s1 er s2 I1 hq
  | .ok (.ret u), hq => exact I1.after hq
end
section
variable {fa : List (Fg → Bool)} {fn : List He5.DefA} {K : Fg} {mg : Str → Option Value} {P : Program} {w : World} {base : Heap}
theorem TxOf.fnGc (T : TxOf fa fn K mg) (i : Nat) {x qual : Str} {st : Stmt} {at_ : Fg → Addr} {N ps : List Str} {k : Nat} {sp : Sp}
    (hi : fn[i]? = some ⟨at_, x, qual, defArgs st, defBody st, defScope st, [], []⟩) (S : FnScope N ps (defScope st))
    (hb : ∀ (kV doc pm : Value) (an : Option Addr) (cdv ct : Value) (us : List Value), us.length = ps.length →
      bindArgs (PySem.W.fnOf x qual (defArgs st) (defBody st) (defScope st) .none kV doc pm an cdv ct) ⟨us, []⟩ = pure (ps.zip us))
    (len : ∀ vs H Q E, sp vs H Q E → vs.length = ps.length)
    (hbody : ∀ (cdv : Value) (A : Around) (outer : List Env) (s : Shared) (H : Hp) (vs : List V) (Q : VK) (E : XK), (∃ oc od fd osl, K.lookup (at_ K) = some ⟨oc, od, .func fd, osl⟩ ∧ fd.code = cdv ∧ PySem.W.codeIn K cdv qual = true) → (A.deeper (envOfC qual (defScope st) s.heap.objs.size (at_ K) cdv)).guards = some [] →
      Room k (A.deeper (envOfC qual (defScope st) s.heap.objs.size (at_ K) cdv)) → sp vs H Q E →
      ∃ t, PSs (cxOf CX0 P w K mg base N qual (defScope st) (at_ K) cdv A outer s H E).nox (defBody st) t ∧ t { nx := fun _ H' => Q .non H', rt := Q } (start N vs) H) :
    FnG P w K mg base (k + 1) (at_ K) sp := by
  obtain ⟨fd, F⟩ := T.fund i hi
  have F0 : FunD K x qual (defArgs st) (defBody st) (defScope st) [] [] (at_ K) fd := F
  have B : Binds K fd ps [] := F0.bindsN hb
  intro A outer s H us vs Q E hG hr e0 r hsp
  have kin : K.In s.heap := e0.mod.kin.keeps fun b o e => (e0.bs b o e).1
  have lv := len _ _ _ _ hsp
  have lu : (us ++ []).length = ps.length := by rw [List.append_nil, ← r.length, lv]
  have bt := B s us kin lu
  rw [List.append_nil] at bt
  obtain ⟨oc, od, dV, kV, doc, pm, an, cdv, ct, osl, efd, lk, hcd, _, _⟩ := F0.ex
  subst efd
  have hkd : ∀ y ∈ ps.zip us, (defScope st).names.lookup y.1 = some .local ∨ ((defScope st).names.lookup y.1 = some .cell ∧ ((cellsFrom (s.heap.objs.size + 1) (defScope st).names []).lookup y.1).isSome = true) := by
    intro y hy
    obtain ⟨n, v⟩ := y
    exact (S.par n (List.of_mem_zip hy).1).imp id fun q => ⟨q, PySem.W.cellsFrom_some _ _ _ (.inl q)⟩
  refine codeAny_call_function hr.depth (kin _ _ lk) rfl S.co S.gen rfl (PySem.W.codeRec_of kin hcd) (bt _ _ _ _ ?_)
  refine wpAny_newFunctionEnv_cells S.kind hkd fun env he s1 y => ?_
  subst he
  refine ⟨(e0.mod.nolimit.keeps fun b o e => (e0.bs b o e).1).keeps y.toInCall.keep, codeAny_func ?_⟩
  obtain ⟨t, ht, hq⟩ := hbody cdv A outer s H vs Q E ⟨_, _, _, _, lk, rfl, hcd⟩ (guards_deeper hG) (hr.deeper _) hsp
  have I := inv_start (CX := CX0) (E := E) S hr.hd e0 lv r y
  refine wpAny_mono (ht.nox.run [] s1 (start N vs) H _ I hq) (fun fl s2 hs => ?_) fun _ _ hs => hs
  match fl, hs with
  | .ret u, hs =>
    obtain ⟨v, σ2, H2, J, rv, q⟩ := hs
    exact ⟨v, H2, J.os, J.bare, J.base, J.hok, rv, q⟩
  | .next, hs =>
    obtain ⟨σ2, H2, J, q⟩ := hs
    exact ⟨V.non, H2, J.os, J.bare, J.base, J.hok, rfl, q⟩
  | .brk, hs => exact hs.elim fun _ z => z.elim fun _ z => z.2.elim
  | .cont, hs => exact hs.elim fun _ z => z.elim fun _ z => z.2.elim
theorem TxOf.kpG {fa : List (Fg → Bool)} {fn : List He5.DefA} {K : Fg} {mg : Str → Option Value} (T : TxOf fa fn K mg) : True := trivial
theorem TxOf.fnG (T : TxOf fa fn K mg) (i : Nat) {x qual : Str} {st : Stmt} {at_ : Fg → Addr} {N ps : List Str} {k : Nat} {sp : Sp}
    (hi : fn[i]? = some ⟨at_, x, qual, defArgs st, defBody st, defScope st, [], []⟩) (S : FnScope N ps (defScope st))
    (hb : ∀ (kV doc pm : Value) (an : Option Addr) (cdv ct : Value) (us : List Value), us.length = ps.length →
      bindArgs (PySem.W.fnOf x qual (defArgs st) (defBody st) (defScope st) .none kV doc pm an cdv ct) ⟨us, []⟩ = pure (ps.zip us))
    (len : ∀ vs H Q E, sp vs H Q E → vs.length = ps.length)
    (hbody : ∀ (cdv : Value) (A : Around) (outer : List Env) (s : Shared) (H : Hp) (vs : List V) (Q : VK) (E : XK), (A.deeper (envOfC qual (defScope st) s.heap.objs.size (at_ K) cdv)).guards = some [] →
      Room k (A.deeper (envOfC qual (defScope st) s.heap.objs.size (at_ K) cdv)) → sp vs H Q E →
      ∃ t, PSs (cxOf CX0 P w K mg base N qual (defScope st) (at_ K) cdv A outer s H E).nox (defBody st) t ∧ t { nx := fun _ H' => Q .non H', rt := Q } (start N vs) H) :
    FnG P w K mg base (k + 1) (at_ K) sp :=
  T.fnGc i hi S hb len fun cdv A outer s H vs Q E _ => hbody cdv A outer s H vs Q E
end
end My

/-! repr of ints, texts, lists and tuples, one within another. -/
namespace My
open PySem PySem.Spec PyProof.Rows L2
mutual
/-- v stands for d -/
inductive Shw (K : Fg) (H : Hp) : V → PyData → Prop
  | non : Shw K H .non .none
  | bl (b : Bool) : Shw K H (.bl b) (.bool b)
  | int (i : Int) : Shw K H (.int i) (.int i)
  | str (x : Str) : Shw K H (.str x) (.str x)
  | lst {a : Addr} {xs : List V} {ds : List PyData} : SqL K H a xs → Shws K H xs ds → Shw K H (.ref a) (.list ds)
  | tup {a : Addr} {xs : List V} {ds : List PyData} : SqT K H a xs → Shws K H xs ds → Shw K H (.ref a) (.tuple ds)
inductive Shws (K : Fg) (H : Hp) : List V → List PyData → Prop
  | nil : Shws K H [] []
  | cons {v : V} {vs : List V} {d : PyData} {ds : List PyData} : Shw K H v d → Shws K H vs ds → Shws K H (v :: vs) (d :: ds)
end
section
variable {X : Cx} {pins : List (Addr × Obj)} {σ : L2.St} {H : Hp} {s : Shared}
mutual
theorem Shw.reads (I : Inv X pins σ H s) : ∀ {v : V} {d : PyData}, Shw X.K H v d → ∀ u, RelV v u → ∃ as, Reads s.heap u d as
  | _, _, .non, u, r => by
    cases r
    exact ⟨_, .none⟩
  | _, _, .bl b, u, r => by
    cases r
    exact ⟨_, .bool b⟩
  | _, _, .int i, u, r => by
    obtain ⟨t, rfl⟩ := r
    exact ⟨_, .int i t⟩
  | _, _, .str x, u, r => by
    obtain ⟨t, rfl⟩ := r
    exact ⟨_, .str x t⟩
  | _, _, .lst h hs, u, r => by
    cases r
    obtain ⟨its, rv, ⟨o, n, h1, h2, _, h3⟩, _⟩ := I.list h
    obtain ⟨as, ha⟩ := Shws.reads I hs its rv
    exact ⟨_, .list h1 h2 h3 ha⟩
  | _, _, .tup h hs, u, r => by
    cases r
    obtain ⟨its, rv, ⟨o, h1, h2, n, h3⟩, _⟩ := I.tuple h
    obtain ⟨as, ha⟩ := Shws.reads I hs its rv
    exact ⟨_, .tuple h1 h2 h3 ha⟩
theorem Shws.reads (I : Inv X pins σ H s) : ∀ {vs : List V} {ds : List PyData}, Shws X.K H vs ds → ∀ us, Vals vs us → ∃ as, ReadsAll s.heap us ds as
  | _, _, .nil, us, r => by
    cases r
    exact ⟨_, .nil⟩
  | _, _, .cons h hs, us, r => by
    cases r with
    | cons r1 r2 =>
      obtain ⟨a1, h1⟩ := Shw.reads I h _ r1
      obtain ⟨a2, h2⟩ := Shws.reads I hs _ r2
      exact ⟨_, .cons h1 h2⟩
end
end
mutual
/-- d's ints have at most B digits; its text's length is at most n; its depth at most m -/
inductive Fit (B : Nat) : PyData → Nat → Nat → Prop
  | non : Fit B .none 4 0
  | bl (b : Bool) : Fit B (.bool b) 5 0
  | int {i : Int} : i.natAbs < 10 ^ B → Fit B (.int i) (B + 1) 0
  | str {x : Str} {n : Nat} : (reprText x).length ≤ n → Fit B (.str x) n 0
  | lst {ds : List PyData} {n m : Nat} : Fits B ds n m → Fit B (.list ds) (n + 3) (m + 1)
  | tup {ds : List PyData} {n m : Nat} : Fits B ds n m → Fit B (.tuple ds) (n + 3) (m + 1)
inductive Fits (B : Nat) : List PyData → Nat → Nat → Prop
  | nil {m : Nat} : Fits B [] 0 m
  | cons {d : PyData} {ds : List PyData} {n k m j : Nat} : Fit B d n j → j ≤ m → Fits B ds k m → Fits B (d :: ds) (n + 2 + k) m
end
theorem textFrom_le : ∀ (ts : List Str) (k : Nat) (acc : Str), (textFrom k acc ts).length ≤ acc.length + piled ts
  | [], k, acc => Nat.le_add_right _ _
  | t :: r, k, acc => by
    have h := textFrom_le r (k + 1) (acc ++ (if k > 0 then ", " else "" : String) ++ t)
    have e : (acc ++ (if k > 0 then ", " else "" : String) ++ t).length ≤ acc.length + 2 + t.length := by
      rw [strLen_append, strLen_append]
      have : ((if k > 0 then ", " else "" : String) : Str).length ≤ 2 := by split <;> decide
      omega
    rw [piled_cons]
    show (textFrom (k + 1) _ r).length ≤ _
    omega
theorem listText_le (ts : List Str) : (listText ts).length ≤ piled ts + 2 := by
  have h := textFrom_le ts 0 "["
  have e1 : ((("[" : String) : Str)).length = 1 := rfl
  have e2 : ((("]" : String) : Str)).length = 1 := rfl
  unfold listText
  rw [strLen_append]
  omega
theorem log10 {B : Nat} {i : Int} (hB : B ≤ 500) (h : i.natAbs < 10 ^ B) : i.natAbs.log2 < 1920 := by
  by_cases e : i.natAbs = 0
  · rw [e]
    decide
  · refine (Nat.log2_lt e).mpr (Nat.lt_of_lt_of_le h (Nat.le_trans (Nat.pow_le_pow_right (by decide) hB) (by decide +kernel)))
mutual
theorem Fit.ok {B : Nat} (hB : B ≤ 500) : ∀ {d : PyData} {n m : Nat}, Fit B d n m → d.shown.length ≤ n ∧ d.showable = true ∧ d.hasDict = false ∧ d.depth ≤ m
  | _, _, _, .non => ⟨by simp only [PyData.shown]; decide, by simp only [PyData.showable], by simp only [PyData.hasDict], by simp only [PyData.depth]; omega⟩
  | _, _, _, .bl b => ⟨by simp only [PyData.shown]; cases b <;> decide, by simp only [PyData.showable], by simp only [PyData.hasDict], by simp only [PyData.depth]; omega⟩
  | _, _, _, .int (i := i) h => by
    refine ⟨?_, ?_, by simp only [PyData.hasDict], by simp only [PyData.depth]; omega⟩
    · simp only [PyData.shown]
      rw [PySem.ofString_length]
      by_cases e : B = 0
      · subst e
        have : i = 0 := by
          have h2 : i.natAbs < 1 := h
          omega
        subst this
        decide
      · exact int_text_length_le10 (Nat.pos_of_ne_zero e) h
    · simp only [PyData.showable, decide_eq_true_eq]
      exact log10 hB h
  | _, _, _, .str h => ⟨by simpa only [PyData.shown] using h, by simp only [PyData.showable], by simp only [PyData.hasDict], by simp only [PyData.depth]; omega⟩
  | _, _, _, .lst h => by
    obtain ⟨h1, h2, h3, h4⟩ := Fits.ok hB h
    refine ⟨?_, by simpa only [PyData.showable] using h2, by simpa only [PyData.hasDict] using h3, by simp only [PyData.depth]; omega⟩
    simp only [PyData.shown]
    exact Nat.le_trans (listText_le _) (by omega)
  | _, _, _, .tup h => by
    obtain ⟨h1, h2, h3, h4⟩ := Fits.ok hB h
    refine ⟨?_, by simpa only [PyData.showable] using h2, by simpa only [PyData.hasDict] using h3, by simp only [PyData.depth]; omega⟩
    simp only [PyData.shown]
    exact Nat.le_trans (fmt_text _) (by omega)
theorem Fits.ok {B : Nat} (hB : B ≤ 500) : ∀ {ds : List PyData} {n m : Nat}, Fits B ds n m → piled (PyData.shownAll ds) ≤ n ∧ PyData.showableAll ds = true ∧ PyData.hasDictAll ds = false ∧ PyData.depthAll ds ≤ m
  | _, _, _, .nil => ⟨by simp only [PyData.shownAll]; exact Nat.le_refl _, by simp only [PyData.showableAll], by simp only [PyData.hasDictAll], by simp only [PyData.depthAll]; omega⟩
  | _, _, _, .cons h hj hs => by
    obtain ⟨h1, h2, h3, h4⟩ := Fit.ok hB h
    obtain ⟨g1, g2, g3, g4⟩ := Fits.ok hB hs
    refine ⟨?_, ?_, ?_, ?_⟩
    · simp only [PyData.shownAll, piled_cons]
      omega
    · simp only [PyData.showableAll, h2, g2, Bool.and_self]
    · simp only [PyData.hasDictAll, h3, g3, Bool.or_self]
    · simp only [PyData.depthAll]
      omega
end
/-- repr(v), v told by d -/
@[irreducible] def rShow (K : Fg) : List V → Hp → VK → Prop := fun xs H Q => ∃ (v : V) (d : PyData) (B n m : Nat), xs = [v] ∧ Shw K H v d ∧ Fit B d n m ∧ B ≤ 500 ∧ n ≤ 16777216 ∧ m ≤ 50 ∧ Q (.str d.shown) H
theorem show_any {K : Fg} {H : Hp} {Q : VK} {v : V} {d : PyData} {B n m : Nat} (hv : Shw K H v d) (hf : Fit B d n m) (hB : B ≤ 500) (hn : n ≤ 16777216) (hm : m ≤ 50) (q : Q (.str d.shown) H) : rShow K [v] H Q := by
  unfold rShow
  exact ⟨v, d, B, n, m, rfl, hv, hf, hB, hn, hm, q⟩
theorem call_show {X : Cx} {k : Nat} (hG : X.A.guards = some []) (hr : Room k X.A) : CallR X (.builtin "repr") (rShow X.K) := by
  intro pins s σ H xs us Q I r h
  unfold rShow at h
  obtain ⟨v, d, B, n, m, rfl, hv, hf, hB, hn, hm, q⟩ := h
  obtain ⟨u, rfl, ru⟩ := vals1 r
  obtain ⟨h1, h2, h3, h4⟩ := hf.ok hB
  have hz : d.shown.length ≤ sizeLine := Nat.le_trans h1 (Nat.le_trans hn (by decide))
  have hu := hr.units
  obtain ⟨as, hR⟩ := hv.reads I u ru
  cases hv with
  | non =>
    cases ru
    exact PySem.P.repr_of_none ⟨.str _, H, I.tok _, ⟨_, rfl⟩, by simpa only [PyData.shown] using q⟩
  | bl b =>
    cases ru
    exact PySem.P.repr_of_bool ⟨.str _, H, I.tok _, ⟨_, rfl⟩, by simpa only [PyData.shown] using q⟩
  | int i =>
    obtain ⟨t, rfl⟩ := ru
    exact PySem.P.repr_of_int (by simpa only [PyData.showable, decide_eq_true_eq] using h2) ⟨.str _, H, I.tok _, ⟨_, rfl⟩, by simpa only [PyData.shown] using q⟩
  | str x =>
    obtain ⟨t, rfl⟩ := ru
    exact PySem.P.repr_of_str ⟨.str _, H, I.tok _, ⟨_, rfl⟩, by simpa only [PyData.shown] using q⟩ (by simpa only [PyData.shown] using hz)
  | lst _ _ =>
    cases ru
    exact repr_of_reads' hR h2 (PyData.noDict_hsm h3) hG (by omega) (fun _ _ e => e) (fun h' t tk hk => ⟨.str _, H, I.kept hk, ⟨t, rfl⟩, q⟩) hz
  | tup _ _ =>
    cases ru
    exact repr_of_reads' hR h2 (PyData.noDict_hsm h3) hG (by omega) (fun _ _ e => e) (fun h' t tk hk => ⟨.str _, H, I.kept hk, ⟨t, rfl⟩, q⟩) hz
section
variable {fa : List (Fg → Bool)} {fn : List He5.DefA} {K : Fg} {mg : Str → Option Value} {X : Cx}
theorem show_k (T : TxOf fa fn K mg) {k : Nat} (hG : X.A.guards = some []) (hr : Room k X.A) (hK : X.K = K := by rfl) : CallR X (.builtin "repr") (rShow K) := by subst hK; exact call_show hG hr
end
end My

/-! The law's end for a promise below which no repr is under way. -/
namespace My
open PySem PySem.Spec PyProof.Rows L2
/-- the abstract heap of the law's start: the script alone, frozen, where the module does not own it -/
def script (a : Addr) (vs : List Value) (ns : List Int) : Hp := fun b => if b = a then some (.frz { cls := .type "list", data := .seq vs.toArray } (.lst (ns.map V.int))) else none
theorem nowhere {Z : Addr → HO → Prop} : ∀ b u, (fun _ : Addr => (none : Option HO)) b = some u → Z b u := by
  intro b u z
  cases z
theorem in_nil {b : Addr} {Z : Prop} (z : b ∈ frs []) : Z := by
  have y : b ∈ ([] : List Addr) := z
  cases y
theorem lawG {P : Program} {w : World} {K : Fg} {mg mb : Str → Option Value} {k : Nat} {fa a : Addr} {sp : Sp} {s₁ : Shared} {vs : List Value} {ns : List Int}
    (kin : K.In s₁.heap) (hg : s₁.heap.Ns mainGlobals mg) (hb : s₁.heap.Ns builtinsNs mb) (hbb : ∀ x : Str, x ≠ "__name__" → mb x = bootBuiltins x) (nl : s₁.heap.NoLimit) (ge : s₁.gens = #[])
    (ga : s₁.heap.get? a = some { cls := .type "list", data := .seq vs.toArray }) (hi : IntsAre vs ns) (hz : ns.length ≤ sizeLine) (hr : Room k callerA)
    (F : ∀ base : Heap, FnG P w K mg base k fa sp) (hsp : ∀ H : Hp, SqL K H a (ns.map V.int) → sp [.ref a] H (fun v _ => v = .bl true) fun _ _ _ => False) :
    codeAny (model P w) callerA (.call (.ref fa) ⟨[.ref a], []⟩) (fun r s' => r = .ok (.ret (.bool true)) ∧ OldK s₁.heap s'.heap ∧ s'.os = s₁.os ∧ AllBare s'.gens) s₁ := by
  obtain ⟨H, hS, hok, hA, hF⟩ : ∃ H : Hp, SqL K H a (ns.map V.int) ∧ HOk P w H s₁.heap ∧ (∀ b u, H b = some u → b = a ∧ K.lookup b = none) ∧ ∀ b u, H b = some u → ∃ o v, u = .frz o v := by
    have lv := hi.length
    have rv := vals_ints hi
    cases hk : K.lookup a with
    | some o =>
      have e := (kin a o hk).symm.trans ga
      cases e
      exact ⟨fun _ => none, .inr ⟨_, _, _, hk, rfl, rfl, rfl, by rw [List.size_toArray, lv]; exact hz, by simpa using rv⟩, nowhere, nowhere, nowhere⟩
    | none =>
      have at_ : ∀ b u, script a vs ns b = some u → b = a ∧ u = .frz { cls := .type "list", data := .seq vs.toArray } (.lst (ns.map V.int)) := fun b u z => by
        unfold script at z
        split at z
        · next h => exact ⟨h, (Option.some.inj z).symm⟩
        · cases z
      refine ⟨script a vs ns, .inl (.inr ⟨_, if_pos rfl⟩), fun b u z => ?_, fun b u z => ?_, fun b u z => ?_⟩
      · obtain ⟨rfl, rfl⟩ := at_ b u z
        exact ⟨ga, by rw [List.length_map]; exact hz, vs, _, rv, ga⟩
      · obtain ⟨rfl, _⟩ := at_ b u z
        exact ⟨rfl, hk⟩
      · exact ⟨_, _, (at_ b u z).2⟩
  have off : ∀ {b : Addr} {o : Obj}, s₁.heap.get? b = some o → (∀ ys n, o.data ≠ .seq ys n) → H b = none := fun {b o} e d => by
    cases q : H b with
    | none => rfl
    | some u =>
      obtain ⟨rfl, _⟩ := hA b u q
      rw [ga] at e
      cases e
      exact absurd rfl (d vs.toArray _)
  have ns' : ∀ {b : Addr} {m : Str → Option Value}, s₁.heap.Ns b m → (hidT s₁.heap H).Ns b m := fun z => by
    obtain ⟨o, es, ep, e, d, r⟩ := z
    exact ⟨o, es, ep, hidT_get e (off e fun ys n h => by rw [d] at h; cases h), d, r⟩
  have kb : K.In (hidT s₁.heap H) := fun b o e => hidT_get (kin b o e) (by
    cases q : H b with
    | none => rfl
    | some u => rw [(hA b u q).2] at e; cases e)
  obtain ⟨mc, n1, n2⟩ := nl
  have e0 : Env0 P w K mg (hidT s₁.heap H) callerA [] s₁ H := ⟨rfl, ⟨kb, ns' hg, ⟨mb, ns' hb, hbb⟩, ⟨mc, ns' n1, n2⟩⟩, fun _ _ e => of_hidT e, Nat.le_of_eq (hidT_size _ _), trivial, fun b z => in_nil z, hok, .of_eq ge⟩
  refine codeAny_mono (F _ callerA [] s₁ H [.ref a] [.ref a] _ _ rfl hr e0 (.cons rfl .nil) (hsp H hS)) fun r s' h => ?_
  match r, h with
  | .error e, h => exact False.elim h
  | .ok (.ret u), ⟨v, H', h1, h2, un, hok', rv, q⟩ =>
    obtain rfl : v = .bl true := q
    obtain rfl : u = Value.bool true := rv
    refine ⟨rfl, OldK.of_keep fun b o e => ?_, h1, h2⟩
    cases q : H b with
    | none => exact un.keep b o e q (fun z => in_nil z) (by simp)
    | some u =>
      obtain ⟨o2, u2, rfl⟩ := hF b u q
      have g1 := (hok b _ q).1
      have g2 := (hok' b _ (un.frzs b o2 u2 q)).1
      rw [g1] at e
      cases e
      exact g2
theorem walkG {l : PySem.W.OpenLaw} {n k : Nat} {q : Program} {loose : List Str} {XP : (Str → Option Value) → Heap → Prop} {YP : World → Heap → Prop} {d : DefRec} (hn : l.most = some n) (hn2 : n ≤ 63) (hdf : d.params.defaults = []) (hr : Room k callerA)
    (F : ∀ (w : World) (mg : Str → Option Value) (fa : Addr) (h : Heap), YP w h → h.Ns mainGlobals mg → mg d.name = some (.ref fa) → ∃ K : Fg, K.In h ∧ ∀ base : Heap, FnG l.prog w K mg base k fa (spLaw K)) :
    PySem.W.WalkO q loose XP YP l.row.toRowW d [] (fun f vs => PySem.call f vs) := by
  refine Att.attach_call hn hdf fun w s₀ s₁ mg mb fa o pm cd doc a vs ns G Y ho hd hcd hmg hobj hints hlen hg => ?_
  obtain ⟨K, kin, f⟩ := F w mg fa _ Y G.T.g hmg
  have h63 : ns.length ≤ 63 := Nat.le_trans hlen hn2
  exact lawG kin G.T.g G.T.b G.T.builtins G.T.nolimit hg hobj hints (Nat.le_trans h63 (by decide)) hr f fun H hS => ⟨a, ns, rfl, hS, h63, fun _ => rfl⟩
section
variable {fa : List (Fg → Bool)} {fn : List He5.DefA} {K : Fg} {mg : Str → Option Value} {P : Program} {w : World}
def LawG (P : Program) (w : World) (K : Fg) (mg : Str → Option Value) (k : Nat) (at_ : Addr) : Prop := ∀ base : Heap, FnG P w K mg base k at_ (spLaw K)
theorem TxOf.lawG (T : TxOf fa fn K mg) (i : Nat) {x qual y : Str} {st : Stmt} {at_ : Fg → Addr} {N : List Str} {k : Nat}
    (hi : fn[i]? = some ⟨at_, x, qual, defArgs st, defBody st, defScope st, [], []⟩) (S : FnScope N [y] (defScope st))
    (hb : ∀ (kV doc pm : Value) (an : Option Addr) (cdv ct : Value) (us : List Value), us.length = [y].length →
      bindArgs (PySem.W.fnOf x qual (defArgs st) (defBody st) (defScope st) .none kV doc pm an cdv ct) ⟨us, []⟩ = pure ([y].zip us))
    (hbody : ∀ (base : Heap) (cdv : Value) (A : Around) (outer : List Env) (s : Shared) (H : Hp) (a : Addr) (ns : List Int) (Q : VK) (E : XK), (A.deeper (envOfC qual (defScope st) s.heap.objs.size (at_ K) cdv)).guards = some [] →
      Room k (A.deeper (envOfC qual (defScope st) s.heap.objs.size (at_ K) cdv)) → SqL K H a (ns.map V.int) → ns.length ≤ 63 → (∀ H' : Hp, Q (.bl true) H') →
      ∃ t, PSs (cxOf CX0 P w K mg base N qual (defScope st) (at_ K) cdv A outer s H E).nox (defBody st) t ∧ t { nx := fun _ H' => Q .non H', rt := Q } (start N [.ref a]) H) :
    LawG P w K mg (k + 1) (at_ K) := fun base => by
  refine T.fnG i hi S hb (fun vs H Q E h => ?_) fun cdv A outer s H vs Q E hG hr h => ?_
  · obtain ⟨a, ns, rfl, _⟩ := h
    rfl
  · obtain ⟨a, ns, rfl, hS, hl, k⟩ := h
    exact hbody base cdv A outer s H a ns Q E hG hr hS hl k
end
end My

/-! enumerate over a tuple; lists and tuples alike. -/
namespace My
open PySem PySem.Spec PyProof.Rows L2
theorem enum1_meets {v : Value} {o : Obj} {Z : Heap → Prop} (B : Begins v o Z) :
    Meets (Builtin.«enumerate.__new__» ⟨[.type "enumerate", v], []⟩) (fun _ R s => Z s.heap ∧
      R (.ok (.ret (.ref (s.heap.push o).objs.size))) { s with heap := (s.heap.push o).push { cls := .type "enumerate", data := .fields #[.none, .bool false, .ref s.heap.objs.size, rawInt 0, .none, .none] } }) :=
  .of_wp fun prog w A R s z => by
    obtain ⟨hp, g, d, tk, os⟩ := s
    obtain ⟨z1, z2⟩ := z
    have hsub := sub_enumerate
    have iter : ∀ {A' : Around} {E : Value → Shared → Prop} {Q : Value → Shared → Prop}, Q (.ref hp.objs.size) ⟨hp.push o, g, d, tk, os⟩ → wpAny (model prog w) A' (pyIter v) Q E ⟨hp, g, d, tk, os⟩ :=
      fun y => B.iter prog w _ _ ⟨hp, g, d, tk, os⟩ _ z1 y
    wp_walk using iter
    refine wpAny_stack_any fun st => wpAny_pure ?_
    split
    · rename_i c _ _ _ _ _
      cases (c == Value.type "enumerate") <;>
      · wp_walk using iter
        exact ⟨_, rfl, z2⟩
    · wp_walk using iter
      exact ⟨_, rfl, z2⟩
theorem enum1_begins {prog : Program} {w : World} {A : Around} {E : Value → Shared → Prop} {s : Shared} {v : Value} {o : Obj} {Z : Heap → Prop} {Q : Value → Shared → Prop} (B : Begins v o Z) (z : Z s.heap)
    (h : ∀ h2, IsEnum h2 (s.heap.objs.size + 1) s.heap.objs.size 0 .none → h2.get? s.heap.objs.size = some o → (∀ b u, s.heap.get? b = some u → h2.get? b = some u) → Q (.ref (s.heap.objs.size + 1)) { s with heap := h2 }) :
    wpAny (model prog w) A (call (.type "enumerate") [v]) Q E s := by
  refine callType_new F.called_enumerate (by decide) (F.typeCall_enumerate_1 _) (F.newCall_enumerate_1 _) (fun obj => F.args_object_init_2 obj _) F.entry_enumerate_new (enum1_meets B) ⟨z, ?_⟩
  have sz : (s.heap.push o).objs.size = s.heap.objs.size + 1 := Heap.size_push ..
  have he : IsEnum ((s.heap.push o).push { cls := .type "enumerate", data := .fields #[.none, .bool false, .ref s.heap.objs.size, rawInt 0, .none, .none] }) (s.heap.objs.size + 1) s.heap.objs.size 0 .none := by
    have y := Heap.get?_push_size (s.heap.push o) (o := { cls := .type "enumerate", data := .fields #[.none, .bool false, .ref s.heap.objs.size, rawInt 0, .none, .none] }) rfl
    rw [sz] at y
    exact y
  show _ ∧ _
  rw [sz]
  exact ⟨⟨_, he, rfl⟩, h _ he (Heap.get?_push_of_some _ (Heap.get?_push_size _ B.free)) fun b u y => Heap.get?_push_of_some _ (Heap.get?_push_of_some _ y)⟩
/-- the tuple at a, each item in a new pair -/
def IteT (K : Fg) (a : Addr) : It :=
  ⟨fun i H => ∃ (xs : List V) (x : V), SqT K H a xs ∧ xs[i]? = some x, fun i H v H2 => ∃ T x, v = .ref T ∧ H T = none ∧ H2 = upd H T (.tup [.int (i : Nat), x]) ∧ ∀ xs, SqT K H a xs → xs[i]? = some x, fun i H => ∃ xs : List V, SqT K H a xs ∧ xs.length = i⟩
theorem turn_enumT {P : Program} {w : World} {K : Fg} {elts : List Expr} {kk : Nat} {tpos : Pos} (a e it : Addr) :
    Turn P w K (.Tuple elts kk tpos) (IteT K a) [e, it] e (fun i h => (∃ old, IsEnum h e it ((i : Nat) : Int) old) ∧ h.IsTupleIter it a i ∧ e ≠ it ∧ e ≠ a ∧ a ≠ it) where
  mem := List.mem_cons_self
  obj := fun i h z b hb => by
    obtain ⟨⟨old, he⟩, ⟨o, ho, _, hd⟩, _⟩ := z
    rcases List.mem_cons.mp hb with rfl | hb
    · exact ⟨_, he, fun v y => nomatch y⟩
    · obtain rfl := List.mem_singleton.mp hb
      exact ⟨o, ho, fun v y => by rw [hd] at y; cases y⟩
  keep := fun i h h2 z k => by
    obtain ⟨⟨old, he⟩, hi, ne⟩ := z
    exact ⟨⟨old, k e (by simp) _ he⟩, hi.at fun o y => k it (by simp) o y, ne⟩
  item := by
    intro X e1 e2 e3 hc i pins s σ H E I hf z g
    subst e1 e2 e3
    obtain ⟨⟨old, he⟩, hit, n1, n2, n3⟩ := z
    obtain ⟨xs, x, hq, hx⟩ := g
    obtain ⟨its, rv, p, hz⟩ := I.tuple hq
    obtain ⟨u, hu, ru⟩ := rv.get hx
    have lt1 : e < s.heap.objs.size := Heap.lt_size he
    have lt2 : it < s.heap.objs.size := by
      obtain ⟨_, y, _⟩ := hit
      exact Heap.lt_size y
    have hil : i < its.toArray.size := by
      have := (List.getElem?_eq_some_iff.mp hu).1
      simpa using this
    have D := Draws.tuple (prog := X.prog) (w := X.w) (A := X.A.in1) (I.ok.hd hc) it a n3 its.toArray
    refine wpAny_pyNext_enum_itemD D he ⟨hit, p⟩ hil n1 (by simp [n1, n2]) fun x2 h2 tk hP ho st2 hT hsz hk => ?_
    have ex : x2 = u := by
      have y : its.toArray[i]? = some x2 := hP
      rw [List.getElem?_toArray, hu] at y
      exact (Option.some.inj y).symm
    subst ex
    refine ⟨_, rfl, wpAny_letOwnedTupleGo_enum (s := { s with heap := h2, toks := tk + 1 }) ho fun h3 he3 sb => ?_⟩
    have hT2 : h3.get? s.heap.objs.size = some { cls := .type "tuple", data := .seq #[.int i tk, x2] } := (sb.2 _ (Nat.ne_of_gt lt1)).trans hT
    have new : ObjOk X.prog X.w (upd H s.heap.objs.size (.tup [.int (i : Nat), x])) h3 s.heap.objs.size (.tup [.int (i : Nat), x]) :=
      ⟨by show 2 ≤ sizeLine; decide, [.int i tk, x2], .cons ⟨_, rfl⟩ (.cons ru .nil), ⟨_, hT2, rfl, _, rfl⟩⟩
    have I2 : Inv X pins σ (upd H s.heap.objs.size (.tup [.int (i : Nat), x])) { s with heap := h3, toks := tk + 1 } :=
      I.turnedNew (ch := [e, it]) (fun b ob hb y => (sb.2 b (fun z => hb (by simp [z]))).trans (hk b ob (fun z => hb (by simp [z])) (fun z => hb (by simp [z])) y)) hf (Nat.le_refl _) new
    refine ⟨.ref s.heap.objs.size, _, I2, rfl, ⟨_, x, rfl, I.hok.fresh (Nat.le_refl _), rfl, fun ys hy => by rw [I.tuple_inj hy hq]; exact hx⟩, ⟨⟨x2, ?_⟩, st2.1.at fun o y => (sb.2 it (Ne.symm n1)).trans y, n1, n2, n3⟩, fun b hb => ?_⟩
    · rw [show ((i + 1 : Nat) : Int) = (i : Int) + 1 by omega]
      exact he3
    · have lt : b < s.heap.objs.size := by
        rcases List.mem_cons.mp hb with rfl | hb
        · exact lt1
        · obtain rfl := List.mem_singleton.mp hb
          exact lt2
      rw [upd_ne (Nat.ne_of_lt lt)]
      exact (hf b hb).1
  done := by
    intro X e1 e2 e3 hc i pins s σ H E I hf z g
    subst e1 e2 e3
    obtain ⟨⟨old, he⟩, hit, n1, n2, n3⟩ := z
    obtain ⟨xs, hq, hx⟩ := g
    obtain ⟨its, rv, p, hz⟩ := I.tuple hq
    obtain ⟨f0, f1, f2, f3, f4, f5⟩ := hf it (by simp)
    have hl : its.toArray.size = i := by
      rw [List.size_toArray, ← rv.length, hx]
    have D := Draws.tuple (prog := X.prog) (w := X.w) (A := X.A.in1) (I.ok.hd hc) it a n3 its.toArray
    rw [← hl] at hit
    exact wpAny_pyNext_enum_endD D he ⟨hit, p⟩ fun h2 eb => ⟨rfl, I.turned (t' := s.toks) (fun b o hb y => eb b o hb y) f0 f1 f3 f4 f5⟩
  self := fun A i s Q E z h => z.1.elim fun _ he => wpAny_pyIter_enum he h
def SqQ (K : Fg) (H : Hp) (a : Addr) (xs : List V) : Prop := SqL K H a xs ∨ SqT K H a xs
theorem SqQ.same {K : Fg} {H H' : Hp} {a : Addr} {xs : List V} (h : SqQ K H a xs) (s : Same H H') : SqQ K H' a xs := h.imp (fun h => sqL_same h s) fun h =>
  h.elim (fun h => .inl (h.elim (fun h => .inl (s _ _ h)) fun ⟨o, h⟩ => .inr ⟨o, s _ _ h⟩)) fun h => .inr h
/-- for i, x in enumerate(a), a list or a tuple -/
def iEnQ (K : Fg) (ta : TA) : TI := fun σ H R => ta σ H fun vs H1 => ∃ a, vs = [.ref a] ∧ ((∃ xs, SqL K H1 a xs ∧ R (Ite K a) H1) ∨ ∃ xs, SqT K H1 a xs ∧ R (IteT K a) H1)
theorem pi_enQ {X : Cx} {e : Expr} {ta : TA} {p pos tpos : Pos} {elts : List Expr} {kk : Nat} (hg : Gl X "enumerate") (hm : X.mg "enumerate" = none) (ha : PA X [e] ta) (hs : starEach [e] X.env = [(false, eval e X.env)] := by rfl) :
    PI X (.Tuple elts kk tpos) (.Call (.Name "enumerate" p) [e] [] pos) (iEnQ X.K ta) := by
  refine ⟨fun pins s σ H R I h => Call_ (ld_blt I hg hm boot_enumerate (PyProof.Rows.callWith_type1 (thn (ha.run pos pins s σ H _ I h) fun us s1 z => ?_) hs rfl))⟩
  obtain ⟨vs, H1, I1, r1, a, rfl, q⟩ := z
  obtain ⟨u, rfl, ru⟩ := vals1 r1
  obtain rfl : u = Value.ref a := ru
  have new : ∀ b ∈ [s1.heap.objs.size + 1, s1.heap.objs.size], FpOk X pins H1 b := fun b hb => by
    have le : s1.heap.objs.size ≤ b := by
      simp only [List.mem_cons, List.not_mem_nil, or_false] at hb
      omega
    exact I1.fpOk le (I1.hok.fresh le)
  rcases q with ⟨xs, hq, q⟩ | ⟨xs, hq, q⟩
  · obtain ⟨its, rv, p2, hz⟩ := I1.list hq
    refine call_enumerate_list p2.isList fun h2 he hit _ hk => wpAny_pyIter_enum he ?_
    exact ⟨s1.heap.objs.size + 1, [s1.heap.objs.size + 1, s1.heap.objs.size], _, _, H1, rfl, I1.kept (t' := s1.toks) hk, turn_enum a _ _, ⟨⟨.none, he⟩, hit, Nat.succ_ne_self _⟩, new, q⟩
  · obtain ⟨its, rv, p2, hz⟩ := I1.tuple hq
    have la : a < s1.heap.objs.size := by
      obtain ⟨o, y, _⟩ := p2
      exact Heap.lt_size y
    refine enum1_begins (begins_tuple a its.toArray) p2 fun h2 he hit hk => wpAny_pyIter_enum he ?_
    exact ⟨s1.heap.objs.size + 1, [s1.heap.objs.size + 1, s1.heap.objs.size], _, _, H1, rfl, I1.kept (t' := s1.toks) hk, turn_enumT a _ _, ⟨⟨.none, he⟩, ⟨_, hit, rfl, rfl⟩, Nat.succ_ne_self _, Nat.ne_of_gt (Nat.lt_succ_of_lt la), Nat.ne_of_lt la⟩, new, q⟩
theorem walk_enumT {K : Fg} {a : Addr} {xs : List V} : Walk (IteT K a) xs.length (fun H => SqT K H a xs) (YPair (fun i => some (.int (i : Nat))) (fun i => xs[i]?)) := by
  refine ⟨fun i _ hi q => ⟨xs, xs[i], q, by simp [hi]⟩, fun _ q => ⟨xs, q, rfl⟩, fun i H v H2 _ q y => ?_⟩
  obtain ⟨T, x, h1, h2, h3, h4⟩ := y
  exact ⟨T, .int (i : Nat), x, h1, h2, h3, rfl, h4 xs q⟩
/-- a[i], a list or a tuple -/
def rIxQ (K : Fg) : R2 := fun x y H Q => rIxL K x y H Q ∨ rIxT K x y H Q
section
variable {fa : List (Fg → Bool)} {fn : List He5.DefA} {K : Fg} {mg : Str → Option Value} {X : Cx} {e : Expr} {ta : TA}
theorem ixq (T : TxOf fa fn K mg) (hK : X.K = K := by rfl) : IxR X (rIxQ K) := by
  subst hK
  intro value slice pins s σ H x y v u Q I rx ry h
  rcases h with h | h
  · exact ix_list value slice pins s σ H x y v u Q I rx ry h
  · exact ix_tup value slice pins s σ H x y v u Q I rx ry h
theorem pieq (T : TxOf fa fn K mg) {p pos tpos : Pos} {elts : List Expr} {kk : Nat} (hm : mg "enumerate" = none) (ha : PA X [e] ta) (hK : X.K = K := by rfl) (hmg : X.mg = mg := by rfl) (hg : Gl X "enumerate" := by rfl) (hs : starEach [e] X.env = [(false, eval e X.env)] := by rfl) :
    PI X (.Tuple elts kk tpos) (.Call (.Name "enumerate" p) [e] [] pos) (iEnQ K ta) := by
  subst hK
  subst hmg
  exact pi_enQ hg hm ha hs
end
end My

/-! x op n, x an instance, n an int. -/
namespace My
open PySem PySem.Spec PyProof.Rows L2
def powB (C m r : Str) (K : Fg) : Bool := (match PySem.W.findIn K (.ref (He.ga K C)) r with
    | some none => true
    | _ => false) && ((PySem.W.findIn K (.type "int") m).isSome && ((PySem.W.findIn K (.type "int") r).isSome && decide (PySem.W.subIn K (.type "int") (.ref (He.ga K C)) = some false)))
def rBinN (C : Addr) (sp : Sp) (E : XK) : R2 := fun x y H Q => ∃ a dx fs i, x = .ref a ∧ y = .int i ∧ H a = some (.ins C dx fs) ∧ sp [x, y] H Q E
theorem op_binN {X : Cx} {CX : CXT} {n : Nat} {C : Str} {g : Addr} {sp : Sp} {E : XK} {op : Operator} (hc : PySem.W.selfFirst X.K (He.ga X.K C) = true) (hs : PySem.W.findIn X.K (.ref (He.ga X.K C)) (PySem.dunder op.info.2) = some (some (.ref g)))
    (hf : PySem.W.isFn X.K (.ref g) = true) (hp : powB C (PySem.dunder op.info.2) (dunderR op.info.2) X.K = true) (F : FnR X.prog X.w X.K X.mg X.base CX n g sp) (hr : Room n X.A) (hx : Passes CX X E) :
    OpR X (binaryOp op) (rBinN (He.ga X.K C) sp E) := by
  intro pins s σ H x y v u Q I rx ry h
  obtain ⟨a, dx, fs, i, rfl, rfl, ha, q⟩ := h
  obtain rfl : v = Value.ref a := rx
  obtain ⟨t, rfl⟩ := ry
  obtain ⟨h1, h⟩ := He.ba hp
  obtain ⟨h2, h⟩ := He.ba h
  obtain ⟨h3, h4⟩ := He.ba h
  obtain ⟨fo, e2⟩ := Option.isSome_iff_exists.mp h2
  obtain ⟨ro, e3⟩ := Option.isSome_iff_exists.mp h3
  have e1 : PySem.W.findIn X.K (.ref (He.ga X.K C)) (dunderR op.info.2) = some none := by
    split at h1
    · next e => exact e
    · cases h1
  obtain ⟨od, J⟩ := inst_of I ha
  obtain ⟨m, hF⟩ := I.fr
  refine PySem.W.ksp_binT (op := op) (T := "int") hF I.ok.mod.kin J rfl hc hs hf e1 (.inl rfl) e2 e3 (of_decide_eq_true h4) ?_
  have vs2 : Vals [V.ref a, V.int i] [Value.ref a, Value.int i t] := .cons rfl (.cons ⟨t, rfl⟩ .nil)
  refine thn (wpAny_call (run_fnR F hr hx I vs2 q)) fun w s' z => ?_
  obtain ⟨z', H', I', rz, qz⟩ := z
  exact SlX.cmpback rz ⟨z', H', I', rz, qz⟩
end My

/-! texts of ints. -/
namespace My
open PySem PySem.Spec PyProof.Rows L2
theorem shws_ints {K : Fg} {H : Hp} : ∀ r : List Int, Shws K H (r.map V.int) (r.map PyData.int)
  | [] => .nil
  | x :: r => .cons (.int x) (shws_ints r)
theorem fits_ints {B m : Nat} : ∀ r : List Int, (∀ v ∈ r, v.natAbs < 10 ^ B) → Fits B (r.map PyData.int) ((B + 3) * r.length) m
  | [], _ => by
    rw [List.length_nil, Nat.mul_zero]
    exact .nil
  | x :: r, h => by
    have e : (B + 3) * (x :: r).length = (B + 1) + 2 + (B + 3) * r.length := by
      rw [List.length_cons, Nat.mul_succ]
      omega
    rw [e]
    exact .cons (.int (h x List.mem_cons_self)) (Nat.zero_le _) (fits_ints r fun v hv => h v (List.mem_cons_of_mem _ hv))
/-- repr of an int: nothing asked of guards -/
theorem show_int {K : Fg} {H : Hp} {i : Int} {Q : VK} (h : i.natAbs < 10 ^ 60) (q : Q (.str (PyData.int i).shown) H) : rShow K [.int i] H Q := show_any (.int i) (.int h) (by decide) (by decide) (by decide) q
/-- repr of a list of ints -/
theorem show_ints {K : Fg} {H : Hp} {a : Addr} {r : List Int} {Q : VK} (hS : SqL K H a (r.map V.int)) (hl : r.length ≤ 200000) (h : ∀ v ∈ r, v.natAbs < 10 ^ 60) (q : Q (.str (PyData.list (r.map .int)).shown) H) : rShow K [.ref a] H Q := by
  refine show_any (.lst hS (shws_ints r)) (.lst (m := 0) (fits_ints r h)) (by decide) ?_ (by decide) q
  have : (60 + 3) * r.length ≤ (60 + 3) * 200000 := Nat.mul_le_mul_left _ hl
  omega
/-- repr of a tuple of ints -/
theorem show_tup {K : Fg} {H : Hp} {a : Addr} {r : List Int} {Q : VK} (hS : SqT K H a (r.map V.int)) (hl : r.length ≤ 200000) (h : ∀ v ∈ r, v.natAbs < 10 ^ 60) (q : Q (.str (PyData.tuple (r.map .int)).shown) H) : rShow K [.ref a] H Q := by
  refine show_any (.tup hS (shws_ints r)) (.tup (m := 0) (fits_ints r h)) (by decide) ?_ (by decide) q
  have : (60 + 3) * r.length ≤ (60 + 3) * 200000 := Nat.mul_le_mul_left _ hl
  omega
/-- repr of (n, (i, ..)) -/
theorem show_pair {K : Fg} {H : Hp} {a b : Addr} {n : Int} {r : List Int} {Q : VK} (hA : SqT K H a [.int n, .ref b]) (hB : SqT K H b (r.map V.int)) (hn : n.natAbs < 10 ^ 60) (hl : r.length ≤ 200000) (h : ∀ v ∈ r, v.natAbs < 10 ^ 60)
    (q : Q (.str (PyData.tuple [.int n, .tuple (r.map .int)]).shown) H) : rShow K [.ref a] H Q := by
  refine show_any (.tup hA (.cons (.int n) (.cons (.tup hB (shws_ints r)) .nil))) (.tup (m := 1) (.cons (.int hn) (by decide) (.cons (.tup (m := 0) (fits_ints r h)) (by decide) .nil))) (by decide) ?_ (by decide) q
  have : (60 + 3) * r.length ≤ (60 + 3) * 200000 := Nat.mul_le_mul_left _ hl
  omega
end My

/-! is, is not, of bools; texts of bools; lists of flat values. -/
namespace My
open PySem PySem.Spec PyProof.Rows L2
def rIsB (neg : Bool) : R2 := fun x y H Q => ∃ a b : Bool, x = .bl a ∧ y = .bl b ∧ Q (.bl (if neg then !decide (a = b) else decide (a = b))) H
theorem op_isB {X : Cx} : OpR X (compareOp .Is) (rIsB false) := by
  intro pins s σ H x y v u Q I rx ry h
  obtain ⟨a, b, rfl, rfl, q⟩ := h
  obtain rfl : v = Value.bool a := rx
  obtain rfl : u = Value.bool b := ry
  exact wpAny_is_plain rfl (fin_bl I q (by cases a <;> cases b <;> rfl))
theorem op_notB {X : Cx} : OpR X (compareOp .IsNot) (rIsB true) := by
  intro pins s σ H x y v u Q I rx ry h
  obtain ⟨a, b, rfl, rfl, q⟩ := h
  obtain rfl : v = Value.bool a := rx
  obtain rfl : u = Value.bool b := ry
  exact wpAny_isNot_plain rfl (fin_bl I q (by cases a <;> cases b <;> rfl))
theorem shws_bools {K : Fg} {H : Hp} : ∀ r : List Bool, Shws K H (r.map V.bl) (r.map PyData.bool)
  | [] => .nil
  | x :: r => .cons (.bl x) (shws_bools r)
theorem fits_bools {B m : Nat} : ∀ r : List Bool, Fits B (r.map PyData.bool) (7 * r.length) m
  | [] => .nil
  | x :: r => by
    have e : 7 * (x :: r).length = 5 + 2 + 7 * r.length := by
      rw [List.length_cons, Nat.mul_succ]
      omega
    rw [e]
    exact .cons (.bl x) (Nat.zero_le _) (fits_bools r)
/-- repr of a list of bools -/
theorem show_bools {K : Fg} {H : Hp} {a : Addr} {r : List Bool} {Q : VK} (hS : SqL K H a (r.map V.bl)) (hl : r.length ≤ 100000) (q : Q (.str (PyData.list (r.map .bool)).shown) H) : rShow K [.ref a] H Q :=
  show_any (B := 0) (.lst hS (shws_bools r)) (.lst (m := 0) (fits_bools r)) (by decide) (by omega) (by decide) q
end My

/-! Calls by name. -/
namespace My
open PySem PySem.Spec PyProof.Rows L2
def pick {α : Type} (ps : List Nat) (l : List α) : List α := ps.filterMap fun i => l[i]?
theorem pick_vals {vs : List V} {us : List Value} (r : Vals vs us) : ∀ ps : List Nat, Vals (pick ps vs) (pick ps us)
  | [] => .nil
  | i :: ps => by
    have ih := pick_vals r ps
    have hl := r.length
    unfold pick at ih ⊢
    rw [List.filterMap_cons, List.filterMap_cons]
    cases e : vs[i]? with
    | none =>
      have : us[i]? = none := by
        rw [List.getElem?_eq_none_iff] at e ⊢
        omega
      rw [this]
      exact ih
    | some v =>
      obtain ⟨u, h1, h2⟩ := r.get e
      rw [h1]
      exact .cons h2 ih
/-- a def called with n values by position, those named ks by name; pm: the parameters' places among these -/
def FnKw (P : Program) (w : World) (K : Fg) (mg : Str → Option Value) (base : Heap) (k : Nat) (f : Addr) (n : Nat) (ks : List Str) (pm : List Nat) (sp : Sp) : Prop :=
  ∀ (A : Around) (outer : List Env) (st : Shared) (H : Hp) (us ws : List Value) (vs zs : List V) (Q : VK) (E : XK), Room k A → Env0 P w K mg base A outer st H → Vals vs us → Vals zs ws → vs.length = n → zs.length = ks.length → sp (pick pm (vs ++ zs)) H Q E →
    codeAny (model P w) A (.call (.ref f) ⟨us, ks.zip ws⟩) (CR CX0 outer P w H st Q E) st
structure FnQ (P : Program) (w : World) (K : Fg) (mg : Str → Option Value) (base : Heap) (k : Nat) (f : Addr) (x qual : Str) (st : Stmt) (ps : List Str) (sp : Sp) : Prop where
  r : FnR P w K mg base CX0 k f sp
  o : ∃ fd, FunD K x qual (defArgs st) (defBody st) (defScope st) [] [] f fd ∧ FnOk P w K mg base CX0 k f fd ps sp
section
variable {fa : List (Fg → Bool)} {fn : List He5.DefA} {K : Fg} {mg : Str → Option Value} {P : Program} {w : World} {base : Heap}
theorem TxOf.fnQ (T : TxOf fa fn K mg) (i : Nat) {x qual : Str} {st : Stmt} {at_ : Fg → Addr} {N ps : List Str} {k : Nat} {sp : Sp}
    (hi : fn[i]? = some ⟨at_, x, qual, defArgs st, defBody st, defScope st, [], []⟩) (S : FnScope N ps (defScope st))
    (hb : ∀ (kV doc pm : Value) (an : Option Addr) (cdv ct : Value) (us : List Value), us.length = ps.length →
      bindArgs (PySem.W.fnOf x qual (defArgs st) (defBody st) (defScope st) .none kV doc pm an cdv ct) ⟨us, []⟩ = pure (ps.zip us))
    (len : ∀ vs H Q E, sp vs H Q E → vs.length = ps.length)
    (hbody : ∀ (cdv : Value) (A : Around) (outer : List Env) (s : Shared) (H : Hp) (vs : List V) (Q : VK) (E : XK), Room k (A.deeper (envOfC qual (defScope st) s.heap.objs.size (at_ K) cdv)) → sp vs H Q E →
      ∃ t, PSs (cxOf CX0 P w K mg base N qual (defScope st) (at_ K) cdv A outer s H E).nox (defBody st) t ∧ t { nx := fun _ H' => Q .non H', rt := Q } (start N vs) H) :
    FnQ P w K mg base (k + 1) (at_ K) x qual st ps sp := by
  obtain ⟨fd, F⟩ := T.fund i hi
  have F0 : FunD K x qual (defArgs st) (defBody st) (defScope st) [] [] (at_ K) fd := F
  have G : FnOk P w K mg base CX0 (k + 1) (at_ K) fd ps sp := F0.ok S len fun cdv A outer s H vs Q E hr h => by
    obtain ⟨t, h1, h2⟩ := hbody cdv A outer s H vs Q E hr h
    exact ⟨t, h1.nox, h2⟩
  exact ⟨(G.raw (F0.bindsN hb) .nil).imp fun vs H Q E h => by
    rw [List.append_nil]
    exact h, fd, F0, G⟩
theorem FnQ.kw {k : Nat} {f : Addr} {x qual : Str} {st : Stmt} {ps : List Str} {sp : Sp} (F : FnQ P w K mg base k f x qual st ps sp) (n : Nat) (ks : List Str) (pm : List Nat)
    (hb : ∀ (kV doc pmv : Value) (an : Option Addr) (cdv ct : Value) (us ws : List Value), us.length = n → ws.length = ks.length →
      bindArgs (PySem.W.fnOf x qual (defArgs st) (defBody st) (defScope st) .none kV doc pmv an cdv ct) ⟨us, ks.zip ws⟩ = pure (ps.zip (pick pm (us ++ ws)))) : FnKw P w K mg base k f n ks pm sp := by
  intro A outer s H us ws vs zs Q E hr e0 rv rz l1 l2 h
  obtain ⟨fd, F0, G⟩ := F.o
  have r2 := pick_vals (rv.append rz) pm
  refine G.run A outer s H ⟨us, ks.zip ws⟩ (pick pm (us ++ ws)) (pick pm (vs ++ zs)) Q E hr e0 ?_ r2 h
  obtain ⟨oc, od, dV, kV, doc, pmv, an, cdv, ct, osl, rfl, lk, hcd, hD, hK⟩ := F0.ex
  rcases hD with ⟨_, rfl⟩ | ⟨e, _⟩
  · exact .of_eq (hb kV doc pmv an cdv ct us ws (rv.length.symm.trans l1) (rz.length.symm.trans l2))
  · exact absurd rfl e
end
section
variable {X : Cx} {k n : Nat} {C f p g : Addr} {mc : Value} {ks : List Str} {pm : List Nat} {sp : Sp} {E : XK} {x m : Str} {e o : Expr} {es : List Expr} {kws : List Keyword} {ta : TE} {t tk : TA} {np pos apos : Pos} {pl : Sem Bool}
theorem run_fnK {pins : List (Addr × Obj)} {σ : L2.St} {H : Hp} {s : Shared} {Q : VK} {us ws : List Value} {vs zs : List V} (F : FnKw X.prog X.w X.K X.mg X.base k f n ks pm sp) (hr : Room k X.A) (hx : Passes CX0 X E)
    (I : Inv X pins σ H s) (r : Vals vs us) (rz : Vals zs ws) (l1 : vs.length = n) (l2 : zs.length = ks.length) (h : sp (pick pm (vs ++ zs)) H Q E) :
    codeAny (model X.prog X.w) X.A (.call (.ref f) ⟨us, ks.zip ws⟩) (fun r s' => match r with | .ok (.ret v) => EP X pins σ Q v s' | .ok _ => False | .error e => X.xe e s') s := by
  refine codeAny_mono (F X.A X.stack s H us ws vs zs Q E hr I.env0 r rz l1 l2 h) fun r s' hq => ?_
  cases r with
  | error e => exact hx pins σ H s e s' I hq
  | ok fl =>
    cases fl with
    | ret u => exact I.after hq
    | next => exact False.elim hq
    | brk => exact False.elim hq
    | cont => exact False.elim hq
/-- x(k = v, ..), x a def of the module -/
def tFK0 (n : Nat) (pm : List Nat) (sp : Sp) (E : XK) (tk : TA) : TE := fun σ H Q => tk σ H fun zs H2 => zs.length = n ∧ sp (pick pm ([] ++ zs)) H2 Q E
theorem pe_fK0 (F : FnKw X.prog X.w X.K X.mg X.base k f 0 ks pm sp) (hk : PySem.W.keepIn X.K (.ref f) = true) (hm : X.mg x = some (.ref f)) (hr : Room k X.A) (hx : Passes CX0 X E) (hkw : PK X kws tk)
    (hg : Gl X x := by rfl) (hd : (x == ("__debug__" : Str)) = false := by decide) (hall : (backToKw pos (keywordEach kws X.env)).all (·.1.isSome) = true := by rfl) (hks : (backToKw pos (keywordEach kws X.env)).filterMap (·.1) = ks := by rfl)
    (hpl : ((backTo pos (starEach [] X.env)).any (·.1) || (backToKw pos (keywordEach kws X.env)).any (·.1.isNone)) = false := by rfl) : PE X (.Call (.Name x np) [] kws pos) (tFK0 ks.length pm sp E tk) := by
  refine ⟨fun pins s σ H Q I h => wpAny_Call_Name_kw (ld_glob I hg hm ?_ hd)⟩
  refine PySem.W.callWith_KW0 (h₀ := X.base) I.ok.mod.kin hk hall ?_ hpl
  refine thn (hkw.run pos pins s σ H _ I h) fun ws s2 z => ?_
  obtain ⟨zs, H2, I2, rz, l2, q2⟩ := z
  refine ⟨I2.kIn, ?_⟩
  rw [hks]
  exact wpAny_call (run_fnK (us := []) (vs := []) F hr hx I2 .nil rz rfl l2 q2)
/-- x(e, .., k = v, ..), x a def of the module -/
def tFK (n m : Nat) (pm : List Nat) (sp : Sp) (E : XK) (t tk : TA) : TE := fun σ H Q => t σ H fun vs H1 => tk σ H1 fun zs H2 => vs.length = n ∧ zs.length = m ∧ sp (pick pm (vs ++ zs)) H2 Q E
theorem pe_fK (F : FnKw X.prog X.w X.K X.mg X.base k f n ks pm sp) (hk : PySem.W.keepIn X.K (.ref f) = true) (hm : X.mg x = some (.ref f)) (hr : Room k X.A) (hx : Passes CX0 X E) (ha : PA X (e :: es) t) (hkw : PK X kws tk)
    (hg : Gl X x := by rfl) (hd : (x == ("__debug__" : Str)) = false := by decide) (hall : (backToKw pos (keywordEach kws X.env)).all (·.1.isSome) = true := by rfl) (hks : (backToKw pos (keywordEach kws X.env)).filterMap (·.1) = ks := by rfl)
    (he : starEach (e :: es) X.env = (false, eval e X.env) :: starEach es X.env := by rfl)
    (hpl : ((backTo pos (starEach (e :: es) X.env)).any (·.1) || (backToKw pos (keywordEach kws X.env)).any (·.1.isNone)) = false := by rfl) : PE X (.Call (.Name x np) (e :: es) kws pos) (tFK n ks.length pm sp E t tk) := by
  refine ⟨fun pins s σ H Q I h => wpAny_Call_Name_kw (ld_glob I hg hm ?_ hd)⟩
  refine PySem.W.callWith_KW (h₀ := X.base) I.ok.mod.kin hk hall (thn (ha.run pos pins s σ H _ I h) fun us s1 z => ?_) hpl he
  obtain ⟨vs, H1, I1, r, q⟩ := z
  refine thn (hkw.run pos pins s1 σ H1 _ I1 q) fun ws s2 z => ?_
  obtain ⟨zs, H2, I2, rz, l1, l2, q2⟩ := z
  refine ⟨I2.kIn, ?_⟩
  rw [hks]
  exact wpAny_call (run_fnK F hr hx I2 r rz l1 l2 q2)
/-- o.m(k = v, ..) of an instance -/
def tMK0 (C : Addr) (m : Str) (n : Nat) (pm : List Nat) (sp : Sp) (E : XK) (ta : TE) (tk : TA) : TE := fun σ H Q => ta σ H fun x H1 => ∃ a dx fs, x = .ref a ∧ H1 a = some (.ins C dx fs) ∧ fs.lookup m = none ∧ tk σ H1 fun zs H2 => zs.length = n ∧ sp (pick pm ([x] ++ zs)) H2 Q E
theorem pe_mK0 (he : PE X o ta) (c : Cls X.K C) (hm : Meth X.K C m f) (F : FnKw X.prog X.w X.K X.mg X.base k f 1 ks pm sp) (hr : Room k X.A) (hx : Passes CX0 X E) (hkw : PK X kws tk)
    (hall : (backToKw pos (keywordEach kws X.env)).all (·.1.isSome) = true := by rfl) (hks : (backToKw pos (keywordEach kws X.env)).filterMap (·.1) = ks := by rfl)
    (hpl : ((backTo pos (starEach [] X.env)).any (·.1) || (backToKw pos (keywordEach kws X.env)).any (·.1.isNone)) = false := by rfl)
    (ht : eval (.Call (.Attribute o m apos) [] kws pos) X.env = (do
      let ov ← eval o X.env
      standAt apos.atName
      let (f, first) ← holding [ov] (getMethod ov m pl)
      callWith pos f first (backTo pos (starEach [] X.env)) (backToKw pos (keywordEach kws X.env))) := by rfl) : PE X (.Call (.Attribute o m apos) [] kws pos) (tMK0 C m ks.length pm sp E ta tk) := by
  refine ⟨fun pins s σ H Q I h => PySem.W.methodCall_KW (pl := pl) (thn (he.run pins s σ H _ I h) fun u s1 z => ?_) ht⟩
  obtain ⟨x, H1, I1, rx, a, dx, fs, ex, ea, l, q⟩ := z
  subst ex
  obtain rfl : u = Value.ref a := rx
  refine getmeth_ok I1 ea c hm l ?_
  refine PySem.W.callWith_KW0 (first := [.ref a]) (h₀ := X.base) I.ok.mod.kin hm.kp hall ?_ hpl
  refine thn (hkw.run pos pins s1 σ H1 _ I1 q) fun ws s2 z => ?_
  obtain ⟨zs, H2, I2, rz, l2, q2⟩ := z
  refine ⟨I2.kIn, ?_⟩
  rw [hks]
  exact wpAny_call (run_fnK (us := [.ref a]) (vs := [.ref a]) F hr hx I2 (.cons rfl .nil) rz rfl l2 q2)
/-- C.m(k = v, ..), m a classmethod -/
def tCMK0 (C : Addr) (n : Nat) (pm : List Nat) (sp : Sp) (E : XK) (ta : TE) (tk : TA) : TE := fun σ H Q => ta σ H fun x H1 => x = .ref C ∧ tk σ H1 fun zs H2 => zs.length = n ∧ sp (pick pm ([.ref C] ++ zs)) H2 Q E
theorem pe_cmK0 (he : PE X o ta) (r : ClX.CRead X.K C mc) (c : ClX.CMet X.K C mc m p g) (F : FnKw X.prog X.w X.K X.mg X.base k g 1 ks pm sp) (hr : Room k X.A) (hx : Passes CX0 X E) (hkw : PK X kws tk)
    (hall : (backToKw pos (keywordEach kws X.env)).all (·.1.isSome) = true := by rfl) (hks : (backToKw pos (keywordEach kws X.env)).filterMap (·.1) = ks := by rfl)
    (hpl : ((backTo pos (starEach [] X.env)).any (·.1) || (backToKw pos (keywordEach kws X.env)).any (·.1.isNone)) = false := by rfl)
    (ht : eval (.Call (.Attribute o m apos) [] kws pos) X.env = (do
      let ov ← eval o X.env
      standAt apos.atName
      let (f, first) ← holding [ov] (getMethod ov m pl)
      callWith pos f first (backTo pos (starEach [] X.env)) (backToKw pos (keywordEach kws X.env))) := by rfl) : PE X (.Call (.Attribute o m apos) [] kws pos) (tCMK0 C ks.length pm sp E ta tk) := by
  refine ⟨fun pins s σ H Q I h => PySem.W.methodCall_KW (pl := pl) (thn (he.run pins s σ H _ I h) fun u s1 z => ?_) ht⟩
  obtain ⟨y, H1, I1, ry, ey, q⟩ := z
  subst ey
  obtain rfl : u = Value.ref C := ry
  refine ClX.getmethcm_ok I1 r c fun s2 I2 => ?_
  refine PySem.W.callWith_of (P := PySem.W.MethP X.K s1.heap.objs.size g (.ref C)) hpl (PySem.W.keeps_M c.fi) (evalArgs_kw2_nil hall ?_)
  refine thn (hkw.run pos _ s2 σ H1 _ I2 q) fun ws s3 z => ?_
  obtain ⟨zs, H2, I3, rz, l2, q2⟩ := z
  refine ⟨⟨ClX.pin_at I3, I3.kIn⟩, ?_⟩
  rw [hks]
  have z : wpAny (model X.prog X.w) X.A (call (.ref s1.heap.objs.size) [] (ks.zip ws)) (EP X ((s1.heap.objs.size, PySem.W.methodObj (.ref g) (.ref C)) :: pins) σ Q) X.xe s3 :=
    wpAny_call (PySem.W.method_call (ClX.pin_at I3) (run_fnK (us := [.ref C]) (vs := [.ref C]) F hr hx I3 (.cons rfl .nil) rz rfl l2 q2))
  exact thn z fun _ _ y => ClX.unpinE y
/-- C(k = v, ..) -/
def tMkK0 (C : Addr) (n : Nat) (pm : List Nat) (sp : Sp) (E : XK) (tk : TA) : TE := fun σ H Q => tk σ H fun zs H2 => zs.length = n ∧ ∀ x dx, H2 x = none → H2 dx = none → dx ≠ x → sp (pick pm ([.ref x] ++ zs)) (upd (upd H2 dx (.own x)) x (.ins C dx [])) (fun v H3 => v = .non ∧ Q (.ref x) H3) E
theorem pe_mkK0 (M : Mk X.K C f) (F : FnKw X.prog X.w X.K X.mg X.base k f 1 ks pm sp) (hr : Room (k + 1) X.A) (hg : Gl X x) (hm : X.mg x = some (.ref C)) (hx : Passes CX0 X E) (hkw : PK X kws tk)
    (hall : (backToKw pos (keywordEach kws X.env)).all (·.1.isSome) = true := by rfl) (hks : (backToKw pos (keywordEach kws X.env)).filterMap (·.1) = ks := by rfl) (hdb : (x == ("__debug__" : Str)) = false := by decide)
    (hpl : ((backTo pos (starEach [] X.env)).any (·.1) || (backToKw pos (keywordEach kws X.env)).any (·.1.isNone)) = false := by rfl) : PE X (.Call (.Name x np) [] kws pos) (tMkK0 C ks.length pm sp E tk) := by
  refine ⟨fun pins s σ H Q I h => wpAny_Call_Name_kw (ld_glob I hg hm ?_ hdb)⟩
  refine PySem.W.callWith_KW0 (h₀ := X.base) I.ok.mod.kin M.kp hall ?_ hpl
  refine thn (hkw.run pos pins s σ H _ I h) fun ws s z => ?_
  obtain ⟨zs, H, I, rz, l2, q⟩ := z
  refine ⟨I.kIn, ?_⟩
  rw [hks]
  have hq := q (s.heap.objs.size + 1) s.heap.objs.size (I.hok.fresh (Nat.le_succ _)) (I.hok.fresh (Nat.le_refl _)) (Nat.ne_of_lt (Nat.lt_succ_self _))
  have I2 := Inv.made (C := C) I
  have r2 : Vals [V.ref (s.heap.objs.size + 1)] [Value.ref (s.heap.objs.size + 1)] := .cons rfl .nil
  refine wpAny_call (make_map (f := f) I.kIn M.makes M.init (beq_iff_eq.mp M.fn) (codeAny_mono (F _ X.stack _ _ [Value.ref (s.heap.objs.size + 1)] ws _ _ _ E (hr.make C [] (ks.zip ws)) (I2.env0.make C [] (ks.zip ws)) r2 rz rfl l2 hq) fun r s' hq' => ?_))
  cases r with
  | error e => exact hx pins σ _ _ e s' I2 hq'
  | ok fl =>
    cases fl with
    | ret u =>
      obtain ⟨v, H', I3, rv, ev, q3⟩ := I2.after hq'
      subst ev
      exact ⟨rv, ⟨V.ref (s.heap.objs.size + 1), H', I3, rfl, q3⟩⟩
    | next => exact False.elim hq'
    | brk => exact False.elim hq'
    | cont => exact False.elim hq'
end
end My

/-! Ranges of great ints; rules with the written part told. -/
namespace My
open PySem PySem.Spec PyProof.Rows L2
theorem turn_long {P : Program} {w : World} {K : Fg} {tg : Expr} (q : Addr) (a : Int) (m : Nat) : Turn P w K tg (Itr a m) [q] q (fun i h => IsLongIter h q (a + (i : Nat) * 1) ((m : Int) - (i : Nat)) 1) where
  mem := List.mem_singleton.mpr rfl
  obj := fun i h z b hb => by
    obtain rfl := List.mem_singleton.mp hb
    exact ⟨_, z, fun v y => nomatch (show Data.fields _ = Data.cell v from y)⟩
  keep := fun i h h2 z k => k q (List.mem_singleton.mpr rfl) _ z
  item := by
    intro X e1 e2 e3 hc i pins s σ H E I hf z g
    subst e1 e2 e3
    obtain ⟨g0, g1, g2, g3, g4, g5⟩ := hf q (List.mem_singleton.mpr rfl)
    have L := Walks.longrange (prog := X.prog) (w := X.w) (I.ok.hd hc) q a 1 m
    refine L.item i s _ _ g z fun v h2 tk hv z2 kk => ?_
    obtain ⟨t, rfl⟩ := hv
    have J : Inv X pins σ H { s with heap := h2, toks := tk } := I.turned (fun b o hb e => kk b o (fun y => hb (List.mem_singleton.mp y)) e) g0 g1 g3 g4 g5
    refine ⟨_, rfl, go_of (s := { s with heap := h2, toks := tk }) (n := "longrange_iterator") z2 rfl rfl (by decide) ⟨.int (a + i), H, J, ⟨t, ?_⟩, ⟨rfl, rfl⟩, z2, fun b hb => (hf b hb).1⟩⟩
    rw [Int.mul_one]
  done := by
    intro X e1 e2 e3 hc i pins s σ H E I hf z g
    subst e1 e2 e3
    obtain ⟨g0, g1, g2, g3, g4, g5⟩ := hf q (List.mem_singleton.mpr rfl)
    have le : m ≤ i := g
    exact wpAny_pyNext_long_end (I.ok.hd hc) z (by omega) fun h2 eb => ⟨rfl, I.turned (t' := s.toks) (fun b o hb e => eb b o hb e) g0 g1 g3 g4 g5⟩
  self := fun _ _ _ _ _ z h => wpAny_pyIter_longiter z h
section
variable {X : Cx} {tg : Expr}
theorem range_any {pins : List (Addr × Obj)} {σ : L2.St} {H : Hp} {s : Shared} {R : It → Hp → Prop} {E : Value → Shared → Prop} {a b : Int} {t u v : Tok} {tk : Nat} (I : Inv X pins σ H s) (q : R (Itr a (b - a).toNat) H) :
    wpAny (model X.prog X.w) X.A (pyIter (.ref s.heap.objs.size)) (PIE X pins σ tg R) E { s with heap := s.heap.push { cls := .type "range", data := .fields #[.int a t, .int b u, .int 1 v] }, toks := tk } := by
  have J : Inv X pins σ H { s with heap := s.heap.push { cls := .type "range", data := .fields #[.int a t, .int b u, .int 1 v] }, toks := tk } := I.kept fun c o e => Heap.get?_push_of_some _ e
  have e1 : a + ((0 : Nat) : Int) * 1 = a := by omega
  have e2 : (((b - a).toNat : Nat) : Int) - ((0 : Nat) : Int) = Builtin.Range.rangeSize a b 1 := by
    rw [rangeSize_one]
    split <;> omega
  have fp : ∀ c ∈ [(s.heap.push { cls := .type "range", data := .fields #[.int a t, .int b u, .int 1 v] }).objs.size], FpOk X pins H c := fun c hc => by
    obtain rfl := List.mem_singleton.mp hc
    exact J.fpOk (Nat.le_refl _) (J.hok.fresh (Nat.le_refl _))
  cases sm : Builtin.Range.small a b 1 with
  | true =>
    refine wpAny_pyIter_range (IsRange.new ..) sm ?_
    refine ⟨_, [_], _, _, H, rfl, J.kept (t' := tk) fun c o e => Heap.get?_push_of_some _ e, turn_range _ a (b - a).toNat, ?_, fp, q⟩
    show IsRangeIter _ _ (a + ((0 : Nat) : Int) * 1) ((((b - a).toNat : Nat) : Int) - ((0 : Nat) : Int)) 1
    rw [e1, e2]
    exact Heap.get?_push_size _ rfl
  | false =>
    refine wpAny_pyIter_longrange (IsRange.new ..) sm ?_
    refine ⟨_, [_], _, _, H, rfl, J.kept (t' := tk) fun c o e => Heap.get?_push_of_some _ e, turn_long _ a (b - a).toNat, ?_, fp, q⟩
    show IsLongIter _ _ (a + ((0 : Nat) : Int) * 1) ((((b - a).toNat : Nat) : Int) - ((0 : Nat) : Int)) 1
    rw [e1, e2]
    exact Heap.get?_push_size _ rfl
def iRgW (ta : TA) : TI := fun σ H R => ta σ H fun vs H1 => ∃ i j : Int, vs = [.int i, .int j] ∧ R (Itr i (j - i).toNat) H1
/-- for x in range(a, b), ints of any size -/
theorem pi_range2W {a b : Expr} {ta : TA} {p pos : Pos} (hg : Gl X "range") (hm : X.mg "range" = none) (ha : PA X [a, b] ta) (hs : starEach [a, b] X.env = [(false, eval a X.env), (false, eval b X.env)] := by rfl) (hs2 : starEach [b] X.env = [(false, eval b X.env)] := by rfl) :
    PI X tg (.Call (.Name "range" p) [a, b] [] pos) (iRgW ta) := by
  refine ⟨fun pins s σ H R I h => Call_ (ld_blt I hg hm boot_range (PyProof.Rows.callWith_type1 (thn (ha.run pos pins s σ H _ I h) fun us s1 z => ?_) (by rw [hs, hs2]) (by rw [hs2]; rfl)))⟩
  obtain ⟨vs, H1, I1, r1, i, j, rfl, q⟩ := z
  cases r1 with
  | cons r rr =>
    cases rr with
    | cons r' rr =>
      cases rr
      obtain ⟨t, rfl⟩ := r
      obtain ⟨t', rfl⟩ := r'
      exact call_range_2 (range_any I1 q)
end
section
variable {fa : List (Fg → Bool)} {fn : List He5.DefA} {K : Fg} {mg : Str → Option Value} {X : Cx}
theorem max_k (T : TxOf fa fn K mg) (hc : X.calm = true) (hK : X.K = K := by rfl) : CallR X (.builtin "max") (rMax K) := by subst hK; exact cr_max hc
theorem min_k (T : TxOf fa fn K mg) (hc : X.calm = true) (hK : X.K = K := by rfl) : CallR X (.builtin "min") (rMin K) := by subst hK; exact cr_min hc
theorem revl (T : TxOf fa fn K mg) {e : Expr} {te : TE} {k : Nat} {p1 p2 p3 pos : Pos} (he : PE X e te) (hK : X.K = K := by rfl) : PE X (.Subscript e (.Slice none none (some (.UnaryOp .USub (.Constant (.int 1) k p1) p2)) p3) pos) (tRevL K te) := by subst hK; exact pe_revL he
end
end My

/-! Defs with defaults of parameters by name alone. -/
namespace My
open PySem PySem.Spec PyProof.Rows L2
structure FnD (P : Program) (w : World) (K : Fg) (mg : Str → Option Value) (base : Heap) (k : Nat) (f : Addr) (x qual : Str) (st : Stmt) (kws : List (Str × V)) (ps : List Str) (sp : Sp) : Prop where
  o : ∃ fd, FunD K x qual (defArgs st) (defBody st) (defScope st) [] kws f fd ∧ FnOk P w K mg base CX0 k f fd ps sp
section
variable {fa : List (Fg → Bool)} {fn : List He5.DefA} {K : Fg} {mg : Str → Option Value} {P : Program} {w : World} {base : Heap}
theorem TxOf.fnD (T : TxOf fa fn K mg) (i : Nat) {x qual : Str} {st : Stmt} {at_ : Fg → Addr} {N ps : List Str} {k : Nat} {sp : Sp} {kwd : List (Str × He.Dv)}
    (hi : fn[i]? = some ⟨at_, x, qual, defArgs st, defBody st, defScope st, [], kwd⟩) (S : FnScope N ps (defScope st))
    (len : ∀ vs H Q E, sp vs H Q E → vs.length = ps.length)
    (hbody : ∀ (cdv : Value) (A : Around) (outer : List Env) (s : Shared) (H : Hp) (vs : List V) (Q : VK) (E : XK), Room k (A.deeper (envOfC qual (defScope st) s.heap.objs.size (at_ K) cdv)) → sp vs H Q E →
      ∃ t, PSs (cxOf CX0 P w K mg base N qual (defScope st) (at_ K) cdv A outer s H E).nox (defBody st) t ∧ t { nx := fun _ H' => Q .non H', rt := Q } (start N vs) H) :
    FnD P w K mg base (k + 1) (at_ K) x qual st (kwd.map fun q => (q.1, q.2.v K)) ps sp := by
  obtain ⟨fd, F⟩ := T.fund i hi
  have F0 : FunD K x qual (defArgs st) (defBody st) (defScope st) [] (kwd.map fun q => (q.1, q.2.v K)) (at_ K) fd := F
  exact ⟨fd, F0, F0.ok S len fun cdv A outer s H vs Q E hr h => by
    obtain ⟨t, h1, h2⟩ := hbody cdv A outer s H vs Q E hr h
    exact ⟨t, h1.nox, h2⟩⟩
variable {k : Nat} {f : Addr} {x qual : Str} {st : Stmt} {ps : List Str} {sp : Sp} {kws : List (Str × V)}
/-- called without them -/
theorem FnD.plain (F : FnD P w K mg base k f x qual st kws ps sp) (n : Nat) (hk : kws ≠ []) (hn : n + kws.length = ps.length)
    (h : ∀ (D : Addr) (doc pm : Value) (an : Option Addr) (cdv ct : Value) (us ks : List Value), us.length = n → ks.length = kws.length →
      KwChain D ((kws.map (·.1)).zip ks) (bindArgs (PySem.W.fnOf x qual (defArgs st) (defBody st) (defScope st) .none (.ref D) doc pm an cdv ct) ⟨us, []⟩) (ps.zip (us ++ ks))) :
    FnR P w K mg base CX0 k f (fun vs H Q E => sp (vs ++ kws.map (·.2)) H Q E) := by
  obtain ⟨fd, F0, G⟩ := F.o
  obtain ⟨ds, rd, B⟩ := F0.binds0 n hk hn h
  exact G.raw B rd
/-- called with all of them -/
theorem FnD.kw (F : FnD P w K mg base k f x qual st kws ps sp) (n : Nat) (ks : List Str) (pm : List Nat)
    (hb : ∀ (kV doc pmv : Value) (an : Option Addr) (cdv ct : Value) (us ws : List Value), us.length = n → ws.length = ks.length →
      bindArgs (PySem.W.fnOf x qual (defArgs st) (defBody st) (defScope st) .none kV doc pmv an cdv ct) ⟨us, ks.zip ws⟩ = pure (ps.zip (pick pm (us ++ ws)))) : FnKw P w K mg base k f n ks pm sp := by
  intro A outer s H us ws vs zs Q E hr e0 rv rz l1 l2 h
  obtain ⟨fd, F0, G⟩ := F.o
  refine G.run A outer s H ⟨us, ks.zip ws⟩ (pick pm (us ++ ws)) (pick pm (vs ++ zs)) Q E hr e0 ?_ (pick_vals (rv.append rz) pm) h
  obtain ⟨oc, od, dV, kV, doc, pmv, an, cdv, ct, osl, rfl, lk, hcd, hD, hK⟩ := F0.ex
  rcases hD with ⟨_, rfl⟩ | ⟨e, _⟩
  · exact .of_eq (hb kV doc pmv an cdv ct us ws (rv.length.symm.trans l1) (rz.length.symm.trans l2))
  · exact absurd rfl e
end
section
variable {X : Cx} {k n : Nat} {C f : Addr} {ks : List Str} {pm : List Nat} {sp : Sp} {E : XK} {m : Str} {e o : Expr} {es : List Expr} {kws : List Keyword} {ta : TE} {t tk : TA} {pos apos : Pos} {pl : Sem Bool}
/-- o.m(e, .., k = v, ..) of an instance -/
def tMK (C : Addr) (m : Str) (n nk : Nat) (pm : List Nat) (sp : Sp) (E : XK) (ta : TE) (t tk : TA) : TE := fun σ H Q => ta σ H fun x H1 => ∃ a dx fs, x = .ref a ∧ H1 a = some (.ins C dx fs) ∧ fs.lookup m = none ∧ t σ H1 fun vs H2 => tk σ H2 fun zs H3 => vs.length = n ∧ zs.length = nk ∧ sp (pick pm ((x :: vs) ++ zs)) H3 Q E
theorem pe_mK (he : PE X o ta) (c : Cls X.K C) (hm : Meth X.K C m f) (F : FnKw X.prog X.w X.K X.mg X.base k f (n + 1) ks pm sp) (hr : Room k X.A) (hx : Passes CX0 X E) (ha : PA X (e :: es) t) (hkw : PK X kws tk)
    (hall : (backToKw pos (keywordEach kws X.env)).all (·.1.isSome) = true := by rfl) (hks : (backToKw pos (keywordEach kws X.env)).filterMap (·.1) = ks := by rfl)
    (hst : starEach (e :: es) X.env = (false, eval e X.env) :: starEach es X.env := by rfl)
    (hpl : ((backTo pos (starEach (e :: es) X.env)).any (·.1) || (backToKw pos (keywordEach kws X.env)).any (·.1.isNone)) = false := by rfl)
    (ht : eval (.Call (.Attribute o m apos) (e :: es) kws pos) X.env = (do
      let ov ← eval o X.env
      standAt apos.atName
      let (f, first) ← holding [ov] (getMethod ov m pl)
      callWith pos f first (backTo pos (starEach (e :: es) X.env)) (backToKw pos (keywordEach kws X.env))) := by rfl) : PE X (.Call (.Attribute o m apos) (e :: es) kws pos) (tMK C m n ks.length pm sp E ta t tk) := by
  refine ⟨fun pins s σ H Q I h => PySem.W.methodCall_KW (pl := pl) (thn (he.run pins s σ H _ I h) fun u s1 z => ?_) ht⟩
  obtain ⟨x, H1, I1, rx, a, dx, fs, ex, ea, l, q⟩ := z
  subst ex
  obtain rfl : u = Value.ref a := rx
  refine getmeth_ok I1 ea c hm l ?_
  refine PySem.W.callWith_KW (first := [.ref a]) (h₀ := X.base) I.ok.mod.kin hm.kp hall (thn (ha.run pos pins s1 σ H1 _ I1 q) fun us s2 z => ?_) hpl hst
  obtain ⟨vs, H2, I2, rv, q2⟩ := z
  refine thn (hkw.run pos pins s2 σ H2 _ I2 q2) fun ws s3 z => ?_
  obtain ⟨zs, H3, I3, rz, l1, l2, q3⟩ := z
  refine ⟨I3.kIn, ?_⟩
  rw [hks]
  exact wpAny_call (run_fnK (us := .ref a :: us) (vs := .ref a :: vs) F hr hx I3 (.cons rfl rv) rz (by rw [List.length_cons, l1]) l2 q3)
end
end My

namespace My
open PySem PySem.Spec PyProof.Rows L2
section
variable {fa : List (Fg → Bool)} {fn : List He5.DefA} {K : Fg} {mg : Str → Option Value} {X : Cx}
theorem srt_k (T : TxOf fa fn K mg) (hK : X.K = K := by rfl) : CallR X (.builtin "sorted") (rSorted K) := by subst hK; exact cr_sorted
end
end My

/-! Lists of True and False, told by ones and noughts. -/
namespace My
open PySem PySem.Spec PyProof.Rows L2
/-- 1 is True, all else False -/
def vB (i : Int) : V := .bl (decide (i = 1))
def dB (i : Int) : PyData := .bool (decide (i = 1))
def Bits (xs : List Int) : Prop := ∀ v ∈ xs, v = 0 ∨ v = 1
theorem Bits.tl {x : Int} {xs : List Int} (h : Bits (x :: xs)) : Bits xs := fun v hv => h v (List.mem_cons_of_mem _ hv)
theorem Bits.hd {x : Int} {xs : List Int} (h : Bits (x :: xs)) : x = 0 ∨ x = 1 := h x List.mem_cons_self
theorem Bits.take {xs : List Int} (h : Bits xs) (d : Nat) : Bits (xs.take d) := fun v hv => h v (List.mem_of_mem_take hv)
theorem Bits.drop {xs : List Int} (h : Bits xs) (d : Nat) : Bits (xs.drop d) := fun v hv => h v (List.mem_of_mem_drop hv)
theorem dB_eqv {x y : Int} (hx : x = 0 ∨ x = 1) (hy : y = 0 ∨ y = 1) : PyData.eqv (dB x) (dB y) = decide (x = y) := by
  rcases hx with rfl | rfl <;> rcases hy with rfl | rfl <;> simp [dB, PyData.eqv]
theorem eqvAll_bits : ∀ xs ys : List Int, Bits xs → Bits ys → PyData.eqvAll (xs.map dB) (ys.map dB) = decide (xs = ys)
  | [], [], _, _ => by simp [PyData.eqvAll]
  | [], y :: ys, _, _ => by simp [PyData.eqvAll]
  | x :: xs, [], _, _ => by simp [PyData.eqvAll]
  | x :: xs, y :: ys, hx, hy => by
    have ih := eqvAll_bits xs ys hx.tl hy.tl
    have e := dB_eqv hx.hd hy.hd
    simp only [List.map_cons, PyData.eqvAll, e, ih]
    by_cases h1 : x = y <;> by_cases h2 : xs = ys <;> simp [h1, h2]
theorem canLay_bits : ∀ xs : List Int, PyData.canLayAll0 (xs.map dB) = true
  | [] => by simp [PyData.canLayAll0]
  | x :: xs => by simp [PyData.canLayAll0, dB, PyData.canLay0, canLay_bits xs]
theorem depth_bits : ∀ xs : List Int, PyData.depthAll (xs.map dB) ≤ 1
  | [] => by simp [PyData.depthAll]
  | x :: xs => by
    have := depth_bits xs
    simp [PyData.depthAll, dB, PyData.depth]
    omega
theorem shaped_bits (xs : List Int) : SeqAt.shaped (.list (xs.map dB)) = true := by
  have := depth_bits xs
  simp [SeqAt.shaped, PyData.canLay0, PyData.depth, canLay_bits]
  omega
theorem dp_bits {K : Fg} {H : Hp} : ∀ xs : List Int, DpAll K H (xs.map vB) (xs.map dB)
  | [] => .nil
  | x :: xs => .cons (.bl _) (dp_bits xs)
def rEqB (K : Fg) : R2 := fun x y H Q => ∃ (a b : Addr) (xs ys : List Int), x = .ref a ∧ y = .ref b ∧ SqL K H a (xs.map vB) ∧ SqL K H b (ys.map vB) ∧ Bits xs ∧ Bits ys ∧ Q (.bl (decide (xs = ys))) H
section
variable {X : Cx} {fa : List (Fg → Bool)} {fn : List He5.DefA} {K : Fg} {mg : Str → Option Value}
theorem op_eqB (hu : X.A.units + 64 < cLine) : OpR X (compareOp .Eq) (rEqB X.K) := by
  intro pins s σ H x y v u Q I rx ry h
  obtain ⟨a, b, xs, ys, rfl, rfl, h1, h2, b1, b2, q⟩ := h
  refine op_eqD hu pins s σ H (.ref a) (.ref b) v u Q I rx ry ⟨_, _, .lst h1 (dp_bits xs), .lst h2 (dp_bits ys), shaped_bits _, shaped_bits _, ?_⟩
  rw [PyData.eqv, eqvAll_bits _ _ b1 b2]
  exact q
theorem eqB (T : TxOf fa fn K mg) (hu : X.A.units + 64 < cLine) (hK : X.K = K := by rfl) : OpR X (compareOp .Eq) (rEqB K) := by subst hK; exact op_eqB hu
end
theorem mapB_take (xs : List Int) (d : Nat) : (xs.map vB).take d = (xs.take d).map vB := (List.map_take).symm
theorem mapB_drop (xs : List Int) (d : Nat) : (xs.map vB).drop d = (xs.drop d).map vB := (List.map_drop).symm
theorem mapB_get {xs : List Int} {j : Nat} {i : Int} (h : xs[j]? = some i) : (xs.map vB)[j]? = some (vB i) := by
  rw [List.getElem?_map, h]
  rfl
end My

/-! len(set(xs)), xs a list or a tuple of different ints. -/
namespace My
open PySem PySem.Spec PyProof.Rows L2
def tLenSetQ (K : Fg) (ta : TE) : TE := fun σ H Q => ta σ H fun x H1 => ∃ (l : Addr) (ns : List Int), x = .ref l ∧ (SqL K H1 l (ns.map V.int) ∨ SqT K H1 l (ns.map V.int)) ∧ ns.Nodup ∧ ns.length ≤ 4000 ∧ Q (.int (ns.length : Nat)) H1
theorem pe_lenSetQ {X : Cx} {a : Expr} {ta : TE} {p p2 q pos : Pos} (hg : Gl X "len") (hm : X.mg "len" = none) (hg2 : Gl X "set") (hm2 : X.mg "set" = none) (ha : PE X a ta) (hc : X.calm = true := by rfl)
    (na : starEach [a] X.env = (false, eval a X.env) :: starEach [] X.env := by rfl) : PE X (.Call (.Name "len" p) [.Call (.Name "set" p2) [a] [] q] [] pos) (tLenSetQ X.K ta) := by
  refine ⟨fun pins s σ H Q I h => ?_⟩
  refine Call_ (ld_blt I hg hm boot_len ?_)
  refine PyProof.Rows.callWith_builtin1 (PyProof.Rows.args_cons ?_ rfl) rfl rfl
  refine Call_ (ld_blt I hg2 hm2 boot_set ?_)
  refine PyProof.Rows.callWith_type1 (PyProof.Rows.args_cons (thn (ha.run pins s σ H _ I h) fun v s1 ⟨x, H1, I1, r1, q1⟩ => PyProof.Rows.args_nil ?_) na) na rfl
  obtain ⟨l, ns, rfl, hq, hnd, hl, q1⟩ := q1
  cases r1
  rcases hq with hq | hq
  · obtain ⟨its, r, pl, hz⟩ := I1.list hq
    have hlen : its.toArray.size = ns.length := by rw [List.size_toArray, ← r.length, List.length_map]
    refine call_set_list (I1.ok.hd hc) pl.isList (by simpa using RZ.intsAre_vals r) (by rw [hlen]; unfold scanBound; omega) fun h' tk hS hk => ?_
    refine PyProof.Rows.args_nil ?_
    rw [hlen, RZ.firstMet_nodup hnd ns.length (Nat.le_refl _), List.take_length] at hS
    obtain ⟨o, es, ep, t, ho, hex, hd, _, _, _, hf, hn⟩ := hS
    have I2 : Inv X pins σ H1 { s1 with heap := h', toks := tk } := I1.kept fun b o e => hk b o (Heap.lt_size e) e
    exact call_len_set ho hex hd hf (by rw [hn] <;> omega) ⟨.int ns.length, H1, I2.tok _, ⟨_, by rw [hn]⟩, q1⟩
  · obtain ⟨its, r, pl, hz⟩ := I1.tuple hq
    refine call_set_tupI ns (I1.ok.hd hc) (show s1.heap.IsTuple l its.toArray from pl) (by simpa using RZ.intsAre_vals r) (by unfold scanBound; omega) fun h' tk c R hcn hk => ?_
    refine PyProof.Rows.args_nil ?_
    obtain ⟨o, es, ep, t, ho, hex, hd, _, nd, hmem, _, hf, hn, _⟩ := R
    have hc2 : es.size = ns.length := by
      have h1 := nd_le ns (es.toList.map keyOf) hnd fun x hx => (hmem x).mp (decide_eq_true hx)
      have h2 : (es.toList.map keyOf).length = es.size := by simp
      omega
    have I2 : Inv X pins σ H1 { s1 with heap := h', toks := tk } := I1.kept hk
    exact call_len_set ho hex hd hf (by rw [hc2]; omega) ⟨.int ns.length, H1, I2.tok _, ⟨_, by rw [hc2]⟩, q1⟩
end My

/-! Special methods of instances: in, len, ~. -/
namespace My
open PySem PySem.Spec PyProof.Rows L2
section
variable {X : Cx} {CX : CXT} {n : Nat} {C g : Addr} {sp : Sp} {E : XK}
/-- x in y, y an instance -/
def rInO (neg : Bool) (C : Addr) (sp : Sp) (E : XK) : R2 := fun x y H Q => ∃ a dx fs, y = .ref a ∧ H a = some (.ins C dx fs) ∧ sp [.ref a, x] H (fun z H' => ∃ b : Bool, z = .bl b ∧ Q (.bl (if neg then !b else b)) H') E
theorem op_inO (hs : PySem.W.findIn X.K (.ref C) "__contains__" = some (some (.ref g))) (hf : PySem.W.isFn X.K (.ref g) = true) (F : FnR X.prog X.w X.K X.mg X.base CX n g sp) (hr : Room n X.A) (hx : Passes CX X E) : OpR X (compareOp .In) (rInO false C sp E) := by
  intro pins s σ H x y v u Q I rx ry h
  obtain ⟨a, dx, fs, rfl, ha, q⟩ := h
  obtain rfl : u = Value.ref a := ry
  obtain ⟨od, J⟩ := inst_of I ha
  obtain ⟨m, hF⟩ := I.fr
  refine PySem.W.in_K hF I.ok.mod.kin J hs hf ?_
  have vs2 : Vals [V.ref a, x] [Value.ref a, v] := .cons rfl (.cons rx .nil)
  refine thn (wpAny_call (run_fnR F hr hx I vs2 q)) fun w s' z => ?_
  obtain ⟨z', H', I', rz, b, rfl, qz⟩ := z
  obtain rfl : w = Value.bool b := rz
  exact wpAny_pure ⟨.bl b, H', I', rfl, qz⟩
theorem op_notinO (hs : PySem.W.findIn X.K (.ref C) "__contains__" = some (some (.ref g))) (hf : PySem.W.isFn X.K (.ref g) = true) (F : FnR X.prog X.w X.K X.mg X.base CX n g sp) (hr : Room n X.A) (hx : Passes CX X E) : OpR X (compareOp .NotIn) (rInO true C sp E) := by
  intro pins s σ H x y v u Q I rx ry h
  obtain ⟨a, dx, fs, rfl, ha, q⟩ := h
  obtain rfl : u = Value.ref a := ry
  obtain ⟨od, J⟩ := inst_of I ha
  obtain ⟨m, hF⟩ := I.fr
  refine PySem.W.notIn_K hF I.ok.mod.kin J hs hf ?_
  have vs2 : Vals [V.ref a, x] [Value.ref a, v] := .cons rfl (.cons rx .nil)
  refine thn (wpAny_call (run_fnR F hr hx I vs2 q)) fun w s' z => ?_
  obtain ⟨z', H', I', rz, b, rfl, qz⟩ := z
  obtain rfl : w = Value.bool b := rz
  exact wpAny_pure ⟨.bl (!b), H', I', rfl, qz⟩
/-- len(x), x an instance -/
def rLenO (C : Addr) (sp : Sp) (E : XK) : List V → Hp → VK → Prop := fun xs H Q => ∃ a dx fs, xs = [V.ref a] ∧ H a = some (.ins C dx fs) ∧ sp [.ref a] H (fun z H' => ∃ i : Int, z = .int i ∧ 0 ≤ i ∧ i < 2 ^ 63 ∧ Q z H') E
theorem call_lenO (hs : PySem.W.findIn X.K (.ref C) "__len__" = some (some (.ref g))) (hf : PySem.W.isFn X.K (.ref g) = true) (F : FnR X.prog X.w X.K X.mg X.base CX n g sp) (hr : Room (n + 1) X.A) (hx : Passes CX X E) : CallR X (.builtin "len") (rLenO C sp E) := by
  intro pins s σ H xs us Q I r h
  obtain ⟨a, dx, fs, rfl, ha, q⟩ := h
  obtain ⟨u, rfl, ru⟩ := vals1 r
  obtain rfl : u = Value.ref a := ru
  obtain ⟨od, J⟩ := inst_of I ha
  obtain ⟨m, hF⟩ := I.fr
  refine PySem.W.len_K hF I.ok.mod.kin J hs hf ?_
  refine wpAny_mono (wpAny_call (SlX.run_at (us := [.ref a]) (ws := [.ref a]) F hr.in1 I.env0.in1 hx I (.cons rfl .nil) q)) (fun w s' z => ?_) fun _ _ x => x
  obtain ⟨z', H', I', rz, i, rfl, i0, i1, qz⟩ := z
  obtain ⟨t, rfl⟩ : ∃ t, w = Value.int i t := rz
  exact ⟨⟨i0, i1⟩, .int i, H', I'.tok _, ⟨_, rfl⟩, qz⟩
/-- ~x, x an instance -/
def rUnO (C : Addr) (sp : Sp) (E : XK) : V → Hp → VK → Prop := fun x H Q => ∃ a dx fs, x = .ref a ∧ H a = some (.ins C dx fs) ∧ sp [.ref a] H Q E
theorem un_invO (hs : PySem.W.findIn X.K (.ref C) "__invert__" = some (some (.ref g))) (hf : PySem.W.isFn X.K (.ref g) = true) (F : FnR X.prog X.w X.K X.mg X.base CX n g sp) (hr : Room n X.A) (hx : Passes CX X E) : UnR X (unaryOp .Invert) (rUnO C sp E) := by
  intro pins s σ H x v Q I rx h
  obtain ⟨a, dx, fs, rfl, ha, q⟩ := h
  obtain rfl : v = Value.ref a := rx
  obtain ⟨od, J⟩ := inst_of I ha
  obtain ⟨m, hF⟩ := I.fr
  unfold unaryOp
  refine wpAny_holding ?_
  refine wpAny_bind (m := callSpecial? (.ref a) (Str.ofString "__invert__")) (PySem.W.special_fn (I.ok.mod.kin.keeps hF.keep) J hs (beq_iff_eq.mp hf) ?_)
  have vs1 : Vals [V.ref a] [Value.ref a] := .cons rfl .nil
  refine thn (wpAny_call (run_fnR F hr hx I vs1 q)) fun w s' z => ?_
  exact wpAny_pure z
/-- the truth of an instance, by its length -/
def rTruO (C : Addr) (sp : Sp) (E : XK) : V → Hp → (Bool → Hp → Prop) → Prop := fun x H Q => ∃ a dx fs, x = .ref a ∧ H a = some (.ins C dx fs) ∧ sp [.ref a] H (fun z H' => ∃ i : Int, z = .int i ∧ 0 ≤ i ∧ i < 2 ^ 63 ∧ Q (i != 0) H') E
theorem tru_O (hb : PySem.W.findIn X.K (.ref C) "__bool__" = some none) (hs : PySem.W.findIn X.K (.ref C) "__len__" = some (some (.ref g))) (hf : PySem.W.isFn X.K (.ref g) = true) (F : FnR X.prog X.w X.K X.mg X.base CX n g sp) (hr : Room (n + 1) X.A) (hx : Passes CX X E) : TruR X (rTruO C sp E) := by
  intro pins s σ H x v Q I rx h
  obtain ⟨a, dx, fs, rfl, ha, q⟩ := h
  obtain rfl : v = Value.ref a := rx
  obtain ⟨od, J⟩ := inst_of I ha
  obtain ⟨m, hF⟩ := I.fr
  have XK' := I.ok.mod.kin.keeps hF.keep
  unfold truthy
  refine wpAny_bind (m := callSpecial? (.ref a) (Str.ofString "__bool__")) (wpAny_bind (wpAny_bind (J.type.here ((PySem.W.looks_findIn XK' hb).here (wpAny_pure ?_)))))
  refine wpAny_bind (wpAny_bind (J.type.here ((PySem.W.looks_findIn XK' hs).here ?_)))
  rw [if_neg (by simp)]
  refine wpAny_bind (wpAny_runValue (codeAny_builtin entry_len ?_))
  rw [Around.under_plainId plain_len _]
  unfold Builtin.«len»
  refine wpAny_bind (m := oneArg "len" _) (wpAny_pure ?_)
  refine wpAny_bind (m := callSpecial? (.ref a) (Str.ofString "__len__")) (PySem.W.special_fn XK' J hs (beq_iff_eq.mp hf) ?_)
  refine wpAny_mono (wpAny_call (SlX.run_at (us := [.ref a]) (ws := [.ref a]) F hr.in1 I.env0.in1 hx I (.cons rfl .nil) q)) (fun w s' z => ?_) fun _ _ x => x
  obtain ⟨z', H', I', rz, i, rfl, i0, i1, qz⟩ := z
  obtain ⟨t, rfl⟩ : ∃ t, w = Value.int i t := rz
  refine wpAny_bind (wpAny_holding (wpAny_pure ?_))
  refine wpAny_bind (wpAny_letGo ?_)
  show wpAny _ _ (if i < 0 then _ else _) _ _ _
  rw [if_neg (by omega)]
  show wpAny _ _ (if i ≥ 2 ^ 63 then _ else _) _ _ _
  rw [if_neg (by omega)]
  refine wpAny_bind (wpAny_mkInt (wpAny_pure ?_))
  exact wpAny_pure ⟨H', I'.tok _, qz⟩
end
/-- a name that the class has not -/
def nbB (C m : Str) (K : Fg) : Bool := He.eqO (PySem.W.findIn K (.ref (He.ga K C)) m) (some none)
theorem nbB_ok {C m : Str} {K : Fg} (h : nbB C m K = true) : PySem.W.findIn K (.ref (He.ga K C)) m = some none := He.eqO_ok h
end My

/-! for d, (x, y) in enumerate(zip(xs, ys)). -/
namespace My
open PySem PySem.Spec PyProof.Rows L2
open Builtin.SmallTypes (ownedTupleIsFree ownedTupleHandOut nextOf)
/-- a zip's record -/
abbrev ZRec (h : Heap) (z TI TO : Addr) (q : Value) (f : Bool) : Prop :=
  h.get? z = some { cls := .type "zip", dict := none, data := .fields #[q, .bool f, .bool false, .ref TI, .ref TO], slots := #[] }
section
variable {prog : Program} {w : World} {A : Around} {E : Value → Shared → Prop} {s : Shared} {z TI TO i1 i2 l1 l2 : Addr} {k1 k2 : Nat} {xs ys : Array Value} {x y a b q : Value} {f : Bool}
theorem gone_load {T : Addr} {Q : Option Obj → Shared → Prop} (ho : s.heap.get? T = none) (h : Q none s) : wpAny (model prog w) A (loadIfAlive T) Q E s := by
  have h' : Q (s.heap.get? T) s := by
    rw [ho]
    exact h
  exact fun _ _ _ => h'
theorem gone_free {T : Addr} {Q : Bool → Shared → Prop} (hz : ZRec s.heap z TI TO (rawInt T) f) (ho : s.heap.get? T = none) (h : Q true s) : wpAny (model prog w) A (ownedTupleIsFree (.ref z)) Q E s := by
  unfold ownedTupleIsFree
  refine wpAny_bind (wpAny_field hz rfl (x := rawInt T) rfl ?_)
  show wpAny _ _ (loadIfAlive ((T : Int).toNat) >>= _) _ E s
  rw [Int.toNat_natCast]
  refine wpAny_bind (gone_load ho ?_)
  rw [if_pos (show Option.isNone (none : Option Obj) = true from rfl)]
  exact wpAny_pure h
/-- a zip whose tuple is gone: as if it had handed out none -/
theorem gone_item (D : ZipApart z TI TO i1 i2 l1 l2) (hz : ZRec s.heap z TI TO q f) (hf : ∀ Q : Bool → Shared → Prop, Q true s → wpAny (model prog w) A (ownedTupleIsFree (.ref z)) Q E s) (hTI : IsPair s.heap TI (.ref i1) (.ref i2)) (hTO : IsPair s.heap TO a b)
    (h1 : s.heap.IsListIter i1 l1 k1) (h2 : s.heap.IsListIter i2 l2 k2) (hl1 : s.heap.IsList l1 xs) (hl2 : s.heap.IsList l2 ys) (hx : xs[k1]? = some x) (hy : ys[k2]? = some y) {Q : Value → Shared → Prop}
    (hQ : ∀ g, ZRec g z TI TO (rawInt s.heap.objs.size) false → IsPair g TO x y → g.IsListIter i1 l1 (k1 + 1) → g.IsListIter i2 l2 (k2 + 1) → IsPair g s.heap.objs.size x y → g.objs.size = s.heap.objs.size + 1 →
      (∀ c o, c ≠ z → c ≠ TO → c ≠ i1 → c ≠ i2 → s.heap.get? c = some o → g.get? c = some o) → Q (.ref s.heap.objs.size) { s with heap := g }) :
    wpAny (model prog w) A (Builtin.«zip.__next__» ⟨[.ref z], []⟩) (fun r s' => ∃ v, r = .done (.ret v) ∧ Q v s') E s := by
  show wpAny _ _ (field (.ref z) 2 >>= _) _ E s
  refine wpAny_bind (wpAny_field hz rfl (x := .bool false) rfl ?_)
  show wpAny _ _ (field (.ref z) 3 >>= _) _ E s
  refine wpAny_bind (wpAny_field hz rfl (x := .ref TI) rfl (wpAny_bind (wpAny_seqItems hTI rfl ?_)))
  show wpAny _ _ (ownedTupleIsFree (.ref z) >>= _) _ E s
  refine wpAny_bind (hf _ ?_)
  rw [if_pos rfl]
  refine wpAny_bind (wpAny_rule (wpAny_bind (wpAny_field hz rfl (x := .ref TO) rfl ?_)))
  refine wpAny_bind (wpAny_setField_rec hz (by simp) fun g1 z1 e1 => wpAny_bind ?_)
  have z1' : ZRec g1 z TI TO .ellipsis f := z1
  simp only [List.zipIdx_cons, List.zipIdx_nil, List.forIn_cons, List.forIn_nil]
  refine wpAny_bind (wpAny_bind (wpAny_onRaise ?_))
  show wpAny _ _ (nextOf (.ref i1) >>= _) _ _ { s with heap := g1 }
  refine wpAny_bind (wpAny_nextOf_list_item (h1.extBut e1.extBut D.i1z) (hl1.extBut e1.extBut D.l1z) hx fun g2 a2 e2 => wpAny_pure ?_)
  have t2 : IsPair g2 TO a b := e2.extBut _ _ D.TOi1 (e1.extBut _ _ D.TOz hTO)
  refine wpAny_bind (wpAny_seqItems t2 rfl (wpAny_bind (wpAny_updateSeq_pair t2 fun g3 t3 e3 => wpAny_bind (wpAny_letGo (wpAny_pure ?_)))))
  have t3' : IsPair g3 TO x b := t3
  refine wpAny_bind (wpAny_bind (wpAny_onRaise ?_))
  show wpAny _ _ (nextOf (.ref i2) >>= _) _ _ { s with heap := g3 }
  have u3 : g3.IsListIter i2 l2 k2 := ((h2.extBut e1.extBut D.i2z).extBut e2.extBut D.i12.symm).extBut e3.extBut D.TOi2.symm
  have v3 : g3.IsList l2 ys := ((hl2.extBut e1.extBut D.l2z).extBut e2.extBut D.l2i1).extBut e3.extBut D.l2TO
  refine wpAny_bind (wpAny_nextOf_list_item (s := { s with heap := g3 }) u3 v3 hy fun g4 a4 e4 => wpAny_pure ?_)
  have t4 : IsPair g4 TO x b := e4.extBut _ _ D.TOi2 t3'
  refine wpAny_bind (wpAny_seqItems t4 rfl (wpAny_bind (wpAny_updateSeq_pair t4 fun g5 t5 e5 => wpAny_bind (wpAny_letGo (wpAny_pure (wpAny_pure ?_))))))
  have t5' : IsPair g5 TO x y := t5
  refine wpAny_bind (wpAny_seqItems t5' rfl (wpAny_bind (wpAny_newTuple ?_)))
  have sz : g5.objs.size = s.heap.objs.size := by
    rw [e5.1, e4.1, e3.1, e2.1]
    exact e1.1
  have z5 : ZRec g5 z TI TO .ellipsis f := e5.extBut _ _ D.TOz.symm (e4.extBut _ _ D.i2z.symm (e3.extBut _ _ D.TOz.symm (e2.extBut _ _ D.i1z.symm z1')))
  have k5 : ∀ c o, c ≠ z → c ≠ TO → c ≠ i1 → c ≠ i2 → s.heap.get? c = some o → g5.get? c = some o := fun c o n1 n2 n3 n4 e =>
    e5.extBut c o n2 (e4.extBut c o n4 (e3.extBut c o n2 (e2.extBut c o n3 (e1.extBut c o n1 e))))
  have r1 : g5.IsListIter i1 l1 (k1 + 1) := ((a2.extBut e3.extBut D.TOi1.symm).extBut e4.extBut D.i12).extBut e5.extBut D.TOi1.symm
  have r2 : g5.IsListIter i2 l2 (k2 + 1) := a4.extBut e5.extBut D.TOi2.symm
  have zl : z < g5.objs.size := Heap.lt_size z5
  show wpAny _ _ (ownedTupleHandOut (.ref z) (.ref g5.objs.size) >>= _) _ E _
  refine wpAny_bind ?_
  unfold ownedTupleHandOut
  have z6 : ZRec (g5.push { cls := .type "tuple", data := .seq #[x, y] }) z TI TO .ellipsis f := Heap.get?_push_of_some _ z5
  refine wpAny_bind (wpAny_setField_rec z6 (by simp) fun g7 z7 e7 => ?_)
  have z7' : ZRec g7 z TI TO (rawInt g5.objs.size) f := z7
  refine wpAny_setField_rec z7' (by simp) fun g8 z8 e8 => ?_
  have z8' : ZRec g8 z TI TO (rawInt g5.objs.size) false := z8
  have up : ∀ c o, c ≠ z → g5.get? c = some o → g8.get? c = some o := fun c o n e => e8.extBut c o n (e7.extBut c o n (Heap.get?_push_of_some _ e))
  have p8 : IsPair g8 g5.objs.size x y := e8.extBut _ _ (Nat.ne_of_gt zl) (e7.extBut _ _ (Nat.ne_of_gt zl) (Heap.get?_push_size _ rfl))
  have s8 : g8.objs.size = g5.objs.size + 1 := by rw [e8.1, e7.1, Heap.size_push]
  rw [sz] at z8' p8 s8
  refine wpAny_pure ⟨_, rfl, ?_⟩
  show Q (.ref g5.objs.size) _
  rw [sz]
  exact hQ g8 z8' (up _ _ D.TOz t5') (r1.at fun o e => up _ o D.i1z e) (r2.at fun o e => up _ o D.i2z e) p8 s8 fun c o n1 n2 n3 n4 e => up c o n1 (k5 c o n1 n2 n3 n4 e)
theorem gone_end (hh : A.handled = none) (D : ZipApart z TI TO i1 i2 l1 l2) (hz : ZRec s.heap z TI TO q f) (hf : ∀ Q : Bool → Shared → Prop, Q true s → wpAny (model prog w) A (ownedTupleIsFree (.ref z)) Q E s) (hTI : IsPair s.heap TI (.ref i1) (.ref i2)) (hTO : IsPair s.heap TO a b)
    (h1 : s.heap.IsListIter i1 l1 k1) (h2 : s.heap.IsListIter i2 l2 k2) (hl1 : s.heap.IsList l1 xs) (hl2 : s.heap.IsList l2 ys) (hend : xs[k1]? = none ∨ ys[k2]? = none) {Q : Fin → Shared → Prop}
    (hE : ∀ g e, (∀ c o, c ≠ z → c ≠ TO → c ≠ i1 → c ≠ i2 → s.heap.get? c = some o → g.get? c = some o) → (∃ o, g.get? e = some o ∧ o.cls = .type "StopIteration") → E (.ref e) { s with heap := g }) :
    wpAny (model prog w) A (Builtin.«zip.__next__» ⟨[.ref z], []⟩) Q E s := by
  show wpAny _ _ (field (.ref z) 2 >>= _) Q E s
  refine wpAny_bind (wpAny_field hz rfl (x := .bool false) rfl ?_)
  show wpAny _ _ (field (.ref z) 3 >>= _) Q E s
  refine wpAny_bind (wpAny_field hz rfl (x := .ref TI) rfl (wpAny_bind (wpAny_seqItems hTI rfl ?_)))
  show wpAny _ _ (ownedTupleIsFree (.ref z) >>= _) Q E s
  refine wpAny_bind (hf _ ?_)
  rw [if_pos rfl]
  refine wpAny_bind (wpAny_rule (wpAny_bind (wpAny_field hz rfl (x := .ref TO) rfl ?_)))
  refine wpAny_bind (wpAny_setField_rec hz (by simp) fun g1 z1 e1 => wpAny_bind ?_)
  have z1' : ZRec g1 z TI TO .ellipsis f := z1
  simp only [List.zipIdx_cons, List.zipIdx_nil, List.forIn_cons, List.forIn_nil]
  refine wpAny_bind (wpAny_bind (wpAny_onRaise ?_))
  show wpAny _ _ (nextOf (.ref i1) >>= _) _ _ { s with heap := g1 }
  cases hx : xs[k1]? with
  | none =>
    refine wpAny_bind (wpAny_nextOf_list_end (s := { s with heap := g1 }) hh (h1.extBut e1.extBut D.i1z) (hl1.extBut e1.extBut D.l1z) hx fun g2 e e2 he => ?_)
    obtain ⟨oe, hoe, hce⟩ := he
    have z2 : ZRec g2 z TI TO .ellipsis f := e2 _ _ D.i1z.symm z1'
    have ez : e ≠ z := fun c => by
      rw [c, z2] at hoe
      cases hoe
      simp at hce
    refine wpAny_setField_rec (s := { s with heap := g2 }) z2 (by simp) fun g3 _ e3 => hE g3 e (fun c o n1 _ n3 _ u => e3.extBut _ _ n1 (e2 _ _ n3 (e1.extBut _ _ n1 u))) ⟨oe, e3.extBut _ _ ez hoe, hce⟩
  | some x =>
    have hy : ys[k2]? = none := hend.resolve_left fun h => by
      rw [hx] at h
      cases h
    refine wpAny_bind (wpAny_nextOf_list_item (s := { s with heap := g1 }) (h1.extBut e1.extBut D.i1z) (hl1.extBut e1.extBut D.l1z) hx fun g2 a2 e2 => wpAny_pure ?_)
    have t2 : IsPair g2 TO a b := e2.extBut _ _ D.TOi1 (e1.extBut _ _ D.TOz hTO)
    refine wpAny_bind (wpAny_seqItems t2 rfl (wpAny_bind (wpAny_updateSeq_pair t2 fun g3 t3 e3 => wpAny_bind (wpAny_letGo (wpAny_pure ?_)))))
    refine wpAny_bind (wpAny_bind (wpAny_onRaise ?_))
    show wpAny _ _ (nextOf (.ref i2) >>= _) _ _ { s with heap := g3 }
    have u3 : g3.IsListIter i2 l2 k2 := ((h2.extBut e1.extBut D.i2z).extBut e2.extBut D.i12.symm).extBut e3.extBut D.TOi2.symm
    have v3 : g3.IsList l2 ys := ((hl2.extBut e1.extBut D.l2z).extBut e2.extBut D.l2i1).extBut e3.extBut D.l2TO
    refine wpAny_bind (wpAny_nextOf_list_end (s := { s with heap := g3 }) hh u3 v3 hy fun g4 e e4 he => ?_)
    obtain ⟨oe, hoe, hce⟩ := he
    have z4 : ZRec g4 z TI TO .ellipsis f := e4 _ _ D.i2z.symm (e3.extBut _ _ D.TOz.symm (e2.extBut _ _ D.i1z.symm z1'))
    have ez : e ≠ z := fun c => by
      rw [c, z4] at hoe
      cases hoe
      simp at hce
    refine wpAny_setField_rec (s := { s with heap := g4 }) z4 (by simp) fun g5 _ e5 => hE g5 e (fun c o n1 n2 n3 n4 u => e5.extBut _ _ n1 (e4 _ _ n4 (e3.extBut _ _ n2 (e2.extBut _ _ n3 (e1.extBut _ _ n1 u))))) ⟨oe, e5.extBut _ _ ez hoe, hce⟩
/-- where a zip stands at turn i of a walk by which no tuple is taken back -/
def ZSt (z TI TO i1 i2 l1 l2 : Addr) (i : Nat) (h : Heap) : Prop :=
  ((ZRec h z TI TO .none false) ∨ ∃ (T : Addr) (f : Bool), ZRec h z TI TO (rawInt T) f) ∧ IsPair h TI (.ref i1) (.ref i2) ∧ (∃ a b, IsPair h TO a b) ∧ h.IsListIter i1 l1 i ∧ h.IsListIter i2 l2 i
theorem none_free {Q : Bool → Shared → Prop} (hz : ZRec s.heap z TI TO .none f) (h : Q true s) : wpAny (model prog w) A (ownedTupleIsFree (.ref z)) Q E s := by
  unfold ownedTupleIsFree
  exact wpAny_bind (wpAny_field hz rfl (x := .none) rfl (wpAny_pure h))
theorem zst_item {i : Nat} (D : ZipApart z TI TO i1 i2 l1 l2) (st : ZSt z TI TO i1 i2 l1 l2 i s.heap) (hl1 : s.heap.IsList l1 xs) (hl2 : s.heap.IsList l2 ys) (hx : xs[i]? = some x) (hy : ys[i]? = some y) {Q : Value → Shared → Prop}
    (hQ : ∀ g, ZSt z TI TO i1 i2 l1 l2 (i + 1) g → IsPair g s.heap.objs.size x y → g.objs.size = s.heap.objs.size + 1 →
      (∀ c o, c ≠ z → c ≠ TO → c ≠ i1 → c ≠ i2 → s.heap.get? c = some o → g.get? c = some o) → Q (.ref s.heap.objs.size) { s with heap := g }) :
    wpAny (model prog w) A (nextOf (.ref z)) Q E s := by
  obtain ⟨hz, hTI, ⟨a, b, hTO⟩, h1, h2⟩ := st
  have ty : s.TypeIs (.ref z) "zip" := by
    rcases hz with e | ⟨_, _, e⟩
    · exact ⟨_, e, rfl⟩
    · exact ⟨_, e, rfl⟩
  unfold nextOf
  have fin : ∀ g, (ZRec g z TI TO .none false ∨ ∃ (T : Addr) (f : Bool), ZRec g z TI TO (rawInt T) f) → (∃ a b, IsPair g TO a b) → g.IsListIter i1 l1 (i + 1) → g.IsListIter i2 l2 (i + 1) → IsPair g s.heap.objs.size x y → g.objs.size = s.heap.objs.size + 1 →
      (∀ c o, c ≠ z → c ≠ TO → c ≠ i1 → c ≠ i2 → s.heap.get? c = some o → g.get? c = some o) → Q (.ref s.heap.objs.size) { s with heap := g } := fun g b1 b2 b3 b4 b5 b6 b7 =>
    hQ g ⟨b1, b7 _ _ D.TIz D.TITO D.TIi1 D.TIi2 hTI, b2, b3, b4⟩ b5 b6 b7
  refine wpAny_bind (wpAny_callSpecial?_slot (name := Str.ofString "__next__") ty F.slot_zip_next (wpAny_call_entry F.slot_zip_next ty F.entry_zip_next ?_ (F.args_zip_next_1 _)))
  rcases hz with e | ⟨T, f, e⟩
  · exact gone_item D e (fun _ h => none_free e h) hTI hTO h1 h2 hl1 hl2 hx hy fun g b1 b2 b3 b4 b5 b6 b7 => wpAny_pure (fin g (.inr ⟨_, _, b1⟩) ⟨_, _, b2⟩ b3 b4 b5 b6 b7)
  · cases hT : s.heap.get? T with
    | none => exact gone_item D e (fun _ h => gone_free e hT h) hTI hTO h1 h2 hl1 hl2 hx hy fun g b1 b2 b3 b4 b5 b6 b7 => wpAny_pure (fin g (.inr ⟨_, _, b1⟩) ⟨_, _, b2⟩ b3 b4 b5 b6 b7)
    | some oT => exact zip_next_item_held D e hT hTI h1 h2 hl1 hl2 hx hy fun g b1 b3 b4 b5 b6 b7 => wpAny_pure (fin g (.inr ⟨_, _, b1⟩) ⟨_, _, b7 _ _ D.TOz D.TOi1 D.TOi2 hTO⟩ b3 b4 b5 b6 fun c o n1 _ n3 n4 u => b7 c o n1 n3 n4 u)
theorem zst_end {i : Nat} (hh : A.handled = none) (D : ZipApart z TI TO i1 i2 l1 l2) (st : ZSt z TI TO i1 i2 l1 l2 i s.heap) (hl1 : s.heap.IsList l1 xs) (hl2 : s.heap.IsList l2 ys) (hend : xs[i]? = none ∨ ys[i]? = none) {Q : Value → Shared → Prop}
    (hE : ∀ g e, (∀ c o, c ≠ z → c ≠ TO → c ≠ i1 → c ≠ i2 → s.heap.get? c = some o → g.get? c = some o) → (∃ o, g.get? e = some o ∧ o.cls = .type "StopIteration") → E (.ref e) { s with heap := g }) :
    wpAny (model prog w) A (nextOf (.ref z)) Q E s := by
  obtain ⟨hz, hTI, ⟨a, b, hTO⟩, h1, h2⟩ := st
  have ty : s.TypeIs (.ref z) "zip" := by
    rcases hz with e | ⟨_, _, e⟩
    · exact ⟨_, e, rfl⟩
    · exact ⟨_, e, rfl⟩
  unfold nextOf
  refine wpAny_bind (wpAny_callSpecial?_slot (name := Str.ofString "__next__") ty F.slot_zip_next (wpAny_call_entry F.slot_zip_next ty F.entry_zip_next ?_ (F.args_zip_next_1 _)))
  rcases hz with e | ⟨T, f, e⟩
  · exact gone_end (A := A.in1) hh D e (fun _ h => none_free e h) hTI hTO h1 h2 hl1 hl2 hend hE
  · cases hT : s.heap.get? T with
    | none => exact gone_end (A := A.in1) hh D e (fun _ h => gone_free e hT h) hTI hTO h1 h2 hl1 hl2 hend hE
    | some oT => exact zip_next_end_held (A := A.in1) hh D e hT hTI h1 h2 hl1 hl2 hend fun g e b c => hE g e (fun c o n1 _ n3 n4 u => b c o n1 n3 n4 u) c
/-- what may change when a turn is drawn -/
def Zch (e z TO i1 i2 : Addr) (h g : Heap) : Prop := ∀ c o, c ≠ e → c ≠ z → c ≠ TO → c ≠ i1 → c ≠ i2 → h.get? c = some o → g.get? c = some o
theorem ZSt.at {i : Nat} {h g : Heap} (st : ZSt z TI TO i1 i2 l1 l2 i h) (k : ∀ c o, c = z ∨ c = TI ∨ c = TO ∨ c = i1 ∨ c = i2 → h.get? c = some o → g.get? c = some o) : ZSt z TI TO i1 i2 l1 l2 i g := by
  obtain ⟨hz, hTI, ⟨a, b, hTO⟩, h1, h2⟩ := st
  refine ⟨?_, k _ _ (.inr (.inl rfl)) hTI, ⟨a, b, k _ _ (.inr (.inr (.inl rfl))) hTO⟩, h1.at fun o q => k _ _ (.inr (.inr (.inr (.inl rfl)))) q, h2.at fun o q => k _ _ (.inr (.inr (.inr (.inr rfl)))) q⟩
  rcases hz with h | ⟨T, f, h⟩
  · exact .inl (k _ _ (.inl rfl) h)
  · exact .inr ⟨T, f, k _ _ (.inl rfl) h⟩
theorem enz_next {e : Addr} {i : Nat} {old : Value} (D : ZipApart z TI TO i1 i2 l1 l2) (he : IsEnum s.heap e z i old) (ne : ∀ c, c = z ∨ c = TI ∨ c = TO ∨ c = i1 ∨ c = i2 → c ≠ e) (st : ZSt z TI TO i1 i2 l1 l2 i s.heap) (hl1 : s.heap.IsList l1 xs) (hl2 : s.heap.IsList l2 ys) (hx : xs[i]? = some x) (hy : ys[i]? = some y) {Q : Value → Shared → Prop}
    (hQ : ∀ g, IsEnumOut g e z ((i : Int) + 1) (.ref s.heap.objs.size) (s.heap.objs.size + 1) → ZSt z TI TO i1 i2 l1 l2 (i + 1) g → IsPair g s.heap.objs.size x y → IsPair g (s.heap.objs.size + 1) (.int i s.toks) (.ref s.heap.objs.size) → g.objs.size = s.heap.objs.size + 2 →
      Zch e z TO i1 i2 s.heap g → Q (.ref (s.heap.objs.size + 1)) { s with heap := g, toks := s.toks + 1 }) :
    wpAny (model prog w) A (Builtin.«enumerate.__next__» ⟨[.ref e], []⟩) (fun r s' => ∃ v, r = .done (.ret v) ∧ Q v s') E s := by
  obtain ⟨hp, gs, dr, tk, os⟩ := s
  have zl : z < hp.objs.size := by
    rcases st.1 with u | ⟨_, _, u⟩
    · exact Heap.lt_size u
    · exact Heap.lt_size u
  have el : e < hp.objs.size := Heap.lt_size he
  show wpAny _ _ (field (.ref e) 2 >>= _) _ E _
  refine wpAny_bind (wpAny_field he rfl (x := .ref z) rfl ?_)
  refine wpAny_bind (zst_item D st hl1 hl2 hx hy fun g1 st1 p1 n1 k1 => ?_)
  have n1' : g1.objs.size = hp.objs.size + 1 := n1
  have p1' : IsPair g1 hp.objs.size x y := p1
  have ez : e ≠ z := (ne z (.inl rfl)).symm
  have eO : e ≠ TO := (ne TO (.inr (.inr (.inl rfl)))).symm
  have e1' : e ≠ i1 := (ne i1 (.inr (.inr (.inr (.inl rfl))))).symm
  have e2' : e ≠ i2 := (ne i2 (.inr (.inr (.inr (.inr rfl))))).symm
  have he1 : IsEnum g1 e z i old := k1 e _ ez eO e1' e2' he
  show wpAny _ _ (field (.ref e) 3 >>= _) _ E ⟨g1, gs, dr, tk, os⟩
  refine wpAny_bind (wpAny_field he1 rfl (x := rawInt i) rfl ?_)
  show wpAny _ _ (field (.ref e) 4 >>= _) _ E ⟨g1, gs, dr, tk, os⟩
  refine wpAny_bind (wpAny_field he1 rfl (x := .none) rfl ?_)
  show wpAny _ _ (mkInt i >>= _) _ E ⟨g1, gs, dr, tk, os⟩
  refine wpAny_bind (wpAny_mkInt ?_)
  show wpAny _ _ (setField (.ref e) 3 (rawInt ((i : Int) + 1)) >>= _) _ E ⟨g1, gs, dr, tk + 1, os⟩
  refine wpAny_bind (wpAny_setField_rec he1 (by simp) fun g2 he2 s2 => ?_)
  have he2' : IsEnum g2 e z ((i : Int) + 1) old := he2
  have s2' : Heap.SameBut e g1 g2 := s2
  show wpAny _ _ (setField (.ref e) 4 .none >>= _) _ E ⟨g2, gs, dr, tk + 1, os⟩
  refine wpAny_bind (wpAny_setField_rec he2' (by simp) fun g3 he3 s3 => ?_)
  have he3' : IsEnum g3 e z ((i : Int) + 1) old := he3
  have s3' : Heap.SameBut e g2 g3 := s3
  have n3 : g3.objs.size = hp.objs.size + 1 := by rw [s3'.1, s2'.1, n1']
  show wpAny _ _ (newTuple [.int i tk, .ref hp.objs.size] >>= _) _ E ⟨g3, gs, dr, tk + 1, os⟩
  refine wpAny_bind (wpAny_newTuple ?_)
  have he4 : IsEnum (g3.push { cls := .type "tuple", data := .seq #[.int i tk, .ref hp.objs.size] }) e z ((i : Int) + 1) old := Heap.get?_push_of_some _ he3'
  have p4 : IsPair (g3.push { cls := .type "tuple", data := .seq #[.int i tk, .ref hp.objs.size] }) (hp.objs.size + 1) (.int i tk) (.ref hp.objs.size) := by
    have u := Heap.get?_push_size g3 (o := { cls := .type "tuple", data := .seq #[.int i tk, .ref hp.objs.size] }) rfl
    rw [n3] at u
    exact u
  have n4 : (g3.push { cls := .type "tuple", data := .seq #[.int i tk, .ref hp.objs.size] }).objs.size = hp.objs.size + 2 := by rw [Heap.size_push, n3]
  have k4 : ∀ c o, c ≠ e → g1.get? c = some o → (g3.push { cls := .type "tuple", data := .seq #[.int i tk, .ref hp.objs.size] }).get? c = some o := fun c o n u => Heap.get?_push_of_some _ (s3'.extBut c o n (s2'.extBut c o n u))
  show wpAny _ _ (ownedTupleIsFree (.ref e) >>= _) _ E ⟨g3.push { cls := .type "tuple", data := .seq #[.int i tk, .ref hp.objs.size] }, gs, dr, tk + 1, os⟩
  have hv : Value.ref g3.objs.size = Value.ref (hp.objs.size + 1) := by rw [n3]
  rw [hv]
  generalize g3.push { cls := .type "tuple", data := .seq #[.int i tk, .ref hp.objs.size] } = g4 at he4 p4 n4 k4
  refine wpAny_bind ?_
  unfold ownedTupleIsFree
  refine wpAny_bind (wpAny_field he4 rfl (x := .none) rfl (wpAny_pure ?_))
  rw [if_pos rfl]
  refine wpAny_bind (wpAny_rule (wpAny_bind (wpAny_field he4 rfl (x := old) rfl ?_)))
  refine wpAny_bind (wpAny_setField_rec he4 (by simp) fun g5 he5 s5 => ?_)
  have he5' : IsEnum g5 e z ((i : Int) + 1) (.ref hp.objs.size) := he5
  have s5' : Heap.SameBut e g4 g5 := s5
  show wpAny _ _ (ownedTupleHandOut (.ref e) (.ref (hp.objs.size + 1)) >>= _) _ E ⟨g5, gs, dr, tk + 1, os⟩
  refine wpAny_bind ?_
  unfold ownedTupleHandOut
  refine wpAny_bind (wpAny_setField_rec he5' (by simp) fun g6 he6 s6 => ?_)
  have he6' : IsEnumOut g6 e z ((i : Int) + 1) (.ref hp.objs.size) (hp.objs.size + 1) := he6
  have s6' : Heap.SameBut e g5 g6 := s6
  refine wpAny_setField_rec he6' (by simp) fun g7 he7 s7 => ?_
  have he7' : IsEnumOut g7 e z ((i : Int) + 1) (.ref hp.objs.size) (hp.objs.size + 1) := he7
  have s7' : Heap.SameBut e g6 g7 := s7
  have k7 : ∀ c o, c ≠ e → g4.get? c = some o → g7.get? c = some o := fun c o n u => s7'.extBut c o n (s6'.extBut c o n (s5'.extBut c o n u))
  refine wpAny_bind (wpAny_letGo (wpAny_pure ⟨_, rfl, ?_⟩))
  refine hQ g7 he7' (st1.at fun c o hc u => k7 c o (ne c hc) (k4 c o (ne c hc) u)) (k7 _ _ ?_ (k4 _ _ ?_ p1')) (k7 _ _ ?_ p4) ?_ fun c o m1 m2 m3 m4 m5 u => k7 c o m1 (k4 c o m1 (k1 c o m2 m3 m4 m5 u))
  · exact Nat.ne_of_gt el
  · exact Nat.ne_of_gt el
  · exact Nat.ne_of_gt (Nat.lt_succ_of_lt el)
  · show g7.objs.size = hp.objs.size + 2
    rw [s7'.1, s6'.1, s5'.1, n4]
theorem enz_item {e : Addr} {i : Nat} {old : Value} (D : ZipApart z TI TO i1 i2 l1 l2) (he : IsEnum s.heap e z i old) (ne : ∀ c, c = z ∨ c = TI ∨ c = TO ∨ c = i1 ∨ c = i2 → c ≠ e) (st : ZSt z TI TO i1 i2 l1 l2 i s.heap) (hl1 : s.heap.IsList l1 xs) (hl2 : s.heap.IsList l2 ys) (hx : xs[i]? = some x) (hy : ys[i]? = some y) {Q : Option Value → Shared → Prop}
    (hQ : ∀ g, IsEnumOut g e z ((i : Int) + 1) (.ref s.heap.objs.size) (s.heap.objs.size + 1) → ZSt z TI TO i1 i2 l1 l2 (i + 1) g → IsPair g s.heap.objs.size x y → IsPair g (s.heap.objs.size + 1) (.int i s.toks) (.ref s.heap.objs.size) → g.objs.size = s.heap.objs.size + 2 →
      Zch e z TO i1 i2 s.heap g → Q (some (.ref (s.heap.objs.size + 1))) { s with heap := g, toks := s.toks + 1 }) :
    wpAny (model prog w) A (pyNext (.ref e)) Q E s := by
  have ty : s.TypeIs (.ref e) "enumerate" := ⟨_, he, rfl⟩
  unfold pyNext
  refine wpAny_bind (wpAny_attempt (wpAny_callSpecial?_slot (name := Str.ofString "__next__") ty F.slot_enumerate_next (wpAny_call_entry F.slot_enumerate_next ty F.entry_enumerate_next ?_ (F.args_enumerate_next_1 _))))
  exact enz_next D he ne st hl1 hl2 hx hy fun g b1 b2 b3 b4 b5 b6 => wpAny_pure (hQ g b1 b2 b3 b4 b5 b6)
theorem enz_end {e : Addr} {i : Nat} {old : Value} (hh : A.handled = none) (D : ZipApart z TI TO i1 i2 l1 l2) (he : IsEnum s.heap e z i old) (st : ZSt z TI TO i1 i2 l1 l2 i s.heap) (hl1 : s.heap.IsList l1 xs) (hl2 : s.heap.IsList l2 ys) (hend : xs[i]? = none ∨ ys[i]? = none) {Q : Option Value → Shared → Prop}
    (hQ : ∀ g, (∀ c o, c ≠ z → c ≠ TO → c ≠ i1 → c ≠ i2 → s.heap.get? c = some o → g.get? c = some o) → Q none { s with heap := g }) : wpAny (model prog w) A (pyNext (.ref e)) Q E s := by
  have ty : s.TypeIs (.ref e) "enumerate" := ⟨_, he, rfl⟩
  unfold pyNext
  refine wpAny_bind (wpAny_attempt (wpAny_callSpecial?_slot (name := Str.ofString "__next__") ty F.slot_enumerate_next (wpAny_call_entry F.slot_enumerate_next ty F.entry_enumerate_next ?_ (F.args_enumerate_next_1 _))))
  show wpAny _ _ (field (.ref e) 2 >>= _) _ _ s
  refine wpAny_bind (wpAny_field he rfl (x := .ref z) rfl ?_)
  refine wpAny_bind (zst_end (A := A.in1) hh D st hl1 hl2 hend fun g ex k h => ?_)
  obtain ⟨o, ho, hc⟩ := h
  refine wpAny_bind (wpAny_isInstance (T := "StopIteration") (b := true) ⟨o, ho, hc⟩ isSubtype_stop ?_)
  exact wpAny_pure (hQ _ k)
theorem meets_enz (z TI TO : Addr) (f0 : Value) :
    Meets (Builtin.«enumerate.__new__» ⟨[.type "enumerate", .ref z], []⟩) (fun _ R s => IsZip s.heap z TI TO f0 ∧
      R (.ok (.ret (.ref s.heap.objs.size))) { s with heap := s.heap.push { cls := .type "enumerate", data := .fields #[.none, .bool false, .ref z, rawInt 0, .none, .none] } }) :=
  .of_wp fun prog w A R s h => by
    obtain ⟨hp, gs, dr, tk, os⟩ := s
    obtain ⟨hz, h⟩ := h
    have sub := sub_enumerate
    wp_walk using wpAny_pyIter_zip hz
    refine wpAny_stack_any fun st => wpAny_pure ?_
    split
    · rename_i c _ _ _ _ _
      cases (c == Value.type "enumerate")
      · wp_walk using wpAny_pyIter_zip hz
        exact ⟨_, rfl, h⟩
      · wp_walk using wpAny_pyIter_zip hz
        exact ⟨_, rfl, h⟩
    · wp_walk using wpAny_pyIter_zip hz
      exact ⟨_, rfl, h⟩
theorem call_enz {f0 : Value} {Q : Value → Shared → Prop} (hz : IsZip s.heap z TI TO f0)
    (h : IsEnum (s.heap.push { cls := .type "enumerate", data := .fields #[.none, .bool false, .ref z, rawInt 0, .none, .none] }) s.heap.objs.size z 0 .none →
      Q (.ref s.heap.objs.size) { s with heap := s.heap.push { cls := .type "enumerate", data := .fields #[.none, .bool false, .ref z, rawInt 0, .none, .none] } }) :
    wpAny (model prog w) A (call (.type "enumerate") [.ref z]) Q E s := by
  have he : IsEnum (s.heap.push { cls := .type "enumerate", data := .fields #[.none, .bool false, .ref z, rawInt 0, .none, .none] }) s.heap.objs.size z 0 .none := Heap.get?_push_size _ rfl
  refine callType_new F.called_enumerate (by decide) (F.typeCall_enumerate_1 _) (F.newCall_enumerate_1 _) (fun obj => F.args_object_init_2 obj _) F.entry_enumerate_new (meets_enz z TI TO f0) ⟨hz, ?_⟩
  exact ⟨⟨_, he, rfl⟩, h he⟩
end
end My

/-! The loop's rule: enumerate(zip(xs, ys)) over two lists. -/
namespace My
open PySem PySem.Spec PyProof.Rows L2
/-- the lists at a and b as they stand at each turn: a new pair of the turn's number and a new pair of the items -/
def Itez (K : Fg) (a b : Addr) : It :=
  ⟨fun i H => ∃ (xs ys : List V) (x y : V), SqL K H a xs ∧ SqL K H b ys ∧ xs[i]? = some x ∧ ys[i]? = some y,
    fun i H v H' => ∃ (T U : Addr) (x y : V), v = .ref U ∧ H T = none ∧ H U = none ∧ U ≠ T ∧ H' = upd (upd H T (.tup [x, y])) U (.tup [.int (i : Nat), .ref T]) ∧ (∀ xs, SqL K H a xs → xs[i]? = some x) ∧ ∀ ys, SqL K H b ys → ys[i]? = some y,
    fun i H => ∃ xs ys : List V, SqL K H a xs ∧ SqL K H b ys ∧ (xs.length ≤ i ∨ ys.length ≤ i)⟩
theorem fpOk_upd {X : Cx} {pins : List (Addr × Obj)} {H : Hp} {b T : Addr} {o : HO} (h : FpOk X pins H b) (n : b ≠ T) : FpOk X pins (upd H T o) b := by
  refine ⟨?_, h.2⟩
  rw [upd_ne n]
  exact h.1
def EzSt (e z TI TO i1 i2 a b : Addr) (i : Nat) (h : Heap) : Prop := (∃ old, IsEnum h e z ((i : Nat) : Int) old) ∧ ZSt z TI TO i1 i2 a b i h
theorem turn_ez {P : Program} {w : World} {K : Fg} {elts : List Expr} {kk : Nat} {tpos : Pos} {a b e z TI TO i1 i2 : Addr} (D : ZipApart z TI TO i1 i2 a b) (ne : ∀ c, c = z ∨ c = TI ∨ c = TO ∨ c = i1 ∨ c = i2 → c ≠ e) :
    Turn P w K (.Tuple elts kk tpos) (Itez K a b) [e, z, TI, TO, i1, i2] e (EzSt e z TI TO i1 i2 a b) where
  mem := by simp
  obj := fun i h st c hc => by
    obtain ⟨⟨old, he⟩, hz, hTI, ⟨x, y, hTO⟩, ⟨o1, q1, _, d1⟩, ⟨o2, q2, _, d2⟩⟩ := st
    have hc' : c = e ∨ c = z ∨ c = TI ∨ c = TO ∨ c = i1 ∨ c = i2 := by simpa using hc
    rcases hc' with q | q | q | q | q | q
    · rw [q]; exact ⟨_, he, fun v q => nomatch q⟩
    · rw [q]
      rcases hz with u | ⟨T, f, u⟩
      · exact ⟨_, u, fun v q => nomatch q⟩
      · exact ⟨_, u, fun v q => nomatch q⟩
    · rw [q]; exact ⟨_, hTI, fun v q => nomatch q⟩
    · rw [q]; exact ⟨_, hTO, fun v q => nomatch q⟩
    · rw [q]
      refine ⟨o1, q1, fun v q => ?_⟩
      rw [d1] at q
      cases q
    · rw [q]
      refine ⟨o2, q2, fun v q => ?_⟩
      rw [d2] at q
      cases q
  keep := fun i h h' st k => by
    obtain ⟨⟨old, he⟩, hz⟩ := st
    exact ⟨⟨old, k e (by simp) _ he⟩, hz.at fun c o hc u => k c (by rcases hc with r | r | r | r | r <;> simp [r]) o u⟩
  item := by
    intro X hP hw hK hc i pins s σ H E I hf st hg
    subst hP hw hK
    obtain ⟨⟨old, he⟩, hz⟩ := st
    obtain ⟨xs, ys, x, y, hqx, hqy, hx, hy⟩ := hg
    obtain ⟨its, rv, p, _⟩ := I.list hqx
    obtain ⟨its2, rv2, p2, _⟩ := I.list hqy
    obtain ⟨u, hu, ru⟩ := rv.get hx
    obtain ⟨u2, hu2, ru2⟩ := rv2.get hy
    have lt : ∀ c ∈ [e, z, TI, TO, i1, i2], c < s.heap.objs.size := fun c hcm => by
      obtain ⟨hz', hTI, ⟨_, _, hTO⟩, ⟨_, q1, _⟩, ⟨_, q2, _⟩⟩ := hz
      have hc' : c = e ∨ c = z ∨ c = TI ∨ c = TO ∨ c = i1 ∨ c = i2 := by simpa using hcm
      rcases hc' with q | q | q | q | q | q <;> rw [q]
      · exact Heap.lt_size he
      · rcases hz' with u | ⟨_, _, u⟩
        · exact Heap.lt_size u
        · exact Heap.lt_size u
      · exact Heap.lt_size hTI
      · exact Heap.lt_size hTO
      · exact Heap.lt_size q1
      · exact Heap.lt_size q2
    refine enz_item D he ne hz p.isList p2.isList (x := u) (y := u2) (by simpa using hu) (by simpa using hu2) fun g b1 b2 b3 b4 b5 b6 => ?_
    refine ⟨_, rfl, wpAny_letOwnedTupleGo_enum (s := { s with heap := g, toks := s.toks + 1 }) b1 fun g' c1 sb => ?_⟩
    have el := lt e (by simp)
    have sb' : Heap.SameBut e g g' := sb
    have t1 : IsPair g' s.heap.objs.size u u2 := sb'.extBut _ _ (Nat.ne_of_gt el) b3
    have t2 : IsPair g' (s.heap.objs.size + 1) (.int i s.toks) (.ref s.heap.objs.size) := sb'.extBut _ _ (Nat.ne_of_gt (Nat.lt_succ_of_lt el)) b4
    have ne12 : s.heap.objs.size + 1 ≠ s.heap.objs.size := Nat.succ_ne_self _
    -- the first pair, by a heap between
    have J1 : Inv X pins σ (upd H s.heap.objs.size (.tup [x, y])) { s with heap := s.heap.push { cls := .type "tuple", data := .seq #[u, u2] } } := by
      refine I.laid (t' := s.toks) (fun b o q => Heap.get?_push_of_some _ q) (Nat.le_refl _) ?_
      exact ⟨by show 2 ≤ sizeLine; decide, [u, u2], .cons ru (.cons ru2 .nil), ⟨_, Heap.get?_push_size _ rfl, rfl, _, rfl⟩⟩
    have new : ObjOk X.prog X.w (upd (upd H s.heap.objs.size (.tup [x, y])) (s.heap.objs.size + 1) (.tup [.int (i : Nat), .ref s.heap.objs.size])) g' (s.heap.objs.size + 1) (.tup [.int (i : Nat), .ref s.heap.objs.size]) :=
      ⟨by show 2 ≤ sizeLine; decide, [.int i s.toks, .ref s.heap.objs.size], .cons ⟨_, rfl⟩ (.cons rfl .nil), ⟨_, t2, rfl, _, rfl⟩⟩
    have J2 : Inv X pins σ (upd (upd H s.heap.objs.size (.tup [x, y])) (s.heap.objs.size + 1) (.tup [.int (i : Nat), .ref s.heap.objs.size])) { s with heap := g', toks := s.toks + 1 } := by
      refine J1.turnedNew (s := { s with heap := s.heap.push { cls := .type "tuple", data := .seq #[u, u2] } }) (t' := s.toks + 1) (ch := [e, z, TI, TO, i1, i2]) (fun c o hcn q => ?_) (fun c hcm => fpOk_upd (hf c hcm) (Nat.ne_of_lt (lt c hcm))) ?_ new
      · rcases Heap.get?_push_cases q with ⟨q1, q2⟩ | q1
        · rw [q1, q2]
          exact t1
        · exact sb'.extBut c o (fun r => hcn (by simp [r])) (b6 c o (fun r => hcn (by simp [r])) (fun r => hcn (by simp [r])) (fun r => hcn (by simp [r])) (fun r => hcn (by simp [r])) (fun r => hcn (by simp [r])) q1)
      · show (s.heap.push _).objs.size ≤ _
        rw [Heap.size_push]
        exact Nat.le_refl _
    refine ⟨.ref (s.heap.objs.size + 1), _, J2, rfl, ⟨s.heap.objs.size, s.heap.objs.size + 1, x, y, rfl, I.hok.fresh (Nat.le_refl _), I.hok.fresh (Nat.le_succ _), ne12, rfl, fun l hl => by rw [I.list_inj hl hqx]; exact hx, fun l hl => by rw [I.list_inj hl hqy]; exact hy⟩, ⟨⟨.ref s.heap.objs.size, ?_⟩, b2.at fun c o hc q => sb'.extBut c o (ne c hc) q⟩, fun c hcm => ?_⟩
    · rw [show ((i + 1 : Nat) : Int) = (i : Int) + 1 by omega]
      exact c1
    · have l := lt c hcm
      rw [upd_ne (Nat.ne_of_lt (Nat.lt_succ_of_lt l)), upd_ne (Nat.ne_of_lt l)]
      exact (hf c hcm).1
  done := by
    intro X hP hw hK hc i pins s σ H E I hf st hg
    subst hP hw hK
    obtain ⟨⟨old, he⟩, hz⟩ := st
    obtain ⟨xs, ys, hqx, hqy, hend⟩ := hg
    obtain ⟨its, rv, p, _⟩ := I.list hqx
    obtain ⟨its2, rv2, p2, _⟩ := I.list hqy
    have m1 := rv.length
    have m2 := rv2.length
    have h0 : its.toArray[i]? = none ∨ its2.toArray[i]? = none := by
      rcases hend with q | q
      · exact .inl (by simp; omega)
      · exact .inr (by simp; omega)
    exact enz_end (I.ok.hd hc) D he hz p.isList p2.isList h0 fun g k => ⟨rfl, I.turnedL (t' := s.toks) (ch := [e, z, TI, TO, i1, i2]) (fun c o hcn q => k c o (fun r => hcn (by simp [r])) (fun r => hcn (by simp [r])) (fun r => hcn (by simp [r])) (fun r => hcn (by simp [r])) q) hf⟩
  self := fun A i s Q E st h => st.1.elim fun _ he => wpAny_pyIter_enum he h
def iEnZ (K : Fg) (ta : TA) : TI := fun σ H R => ta σ H fun vs H1 => ∃ a b xs ys, vs = [.ref a, .ref b] ∧ SqL K H1 a xs ∧ SqL K H1 b ys ∧ R (Itez K a b) H1
theorem pi_enz {X : Cx} {e e2 : Expr} {ta : TA} {p p2 pos pos2 tpos : Pos} {elts : List Expr} {kk : Nat} (hg : Gl X "enumerate") (hm : X.mg "enumerate" = none) (hg2 : Gl X "zip") (hm2 : X.mg "zip" = none) (ha : PA X [e, e2] ta)
    (hs : starEach [e, e2] X.env = (false, eval e X.env) :: starEach [e2] X.env := by rfl) (hpl : (backTo pos2 (starEach [e2] X.env)).any (·.1) = false := by rfl)
    (hs1 : starEach [.Call (.Name "zip" p2) [e, e2] [] pos2] X.env = [(false, eval (.Call (.Name "zip" p2) [e, e2] [] pos2) X.env)] := by rfl) :
    PI X (.Tuple elts kk tpos) (.Call (.Name "enumerate" p) [.Call (.Name "zip" p2) [e, e2] [] pos2] [] pos) (iEnZ X.K ta) := by
  refine ⟨fun pins s σ H R I h => ?_⟩
  refine Call_ (ld_blt I hg hm boot_enumerate (PyProof.Rows.callWith_type1 (PyProof.Rows.args_cons ?_ hs1) hs1 rfl))
  refine Call_ (ld_blt I hg2 hm2 PyProof.Rows.boot_zip (PyProof.Rows.callWith_type1 (thn (ha.run pos2 pins s σ H _ I h) fun us s1 z => ?_) hs hpl))
  obtain ⟨vs, H1, I1, r1, a, b, xs, ys, rfl, hqx, hqy, q⟩ := z
  obtain ⟨v1, v2, rfl, ra, rb⟩ := vals2 r1
  obtain rfl : v1 = Value.ref a := ra
  obtain rfl : v2 = Value.ref b := rb
  obtain ⟨its, rv, q1, _⟩ := I1.list hqx
  obtain ⟨its2, rv2, q2, _⟩ := I1.list hqy
  refine call_zip_2 q1.isList q2.isList fun g hz hTI hTO h1 h2 hsz hk => ?_
  refine PyProof.Rows.args_nil ?_
  refine call_enz (s := { s1 with heap := g }) hz fun he => ?_
  refine wpAny_pyIter_enum he ?_
  have up : ∀ c o, g.get? c = some o → (g.push { cls := .type "enumerate", data := .fields #[.none, .bool false, .ref (s1.heap.objs.size + 4), rawInt 0, .none, .none] }).get? c = some o := fun c o u => Heap.get?_push_of_some _ u
  have I2 : Inv X pins σ H1 { s1 with heap := g.push { cls := .type "enumerate", data := .fields #[.none, .bool false, .ref (s1.heap.objs.size + 4), rawInt 0, .none, .none] } } := I1.kept (t' := s1.toks) fun c o u => up c o (hk c o u)
  have D := PySem.W.ktu_apart s1.heap.objs.size a b q1.lt q2.lt
  have gs : g.objs.size = s1.heap.objs.size + 5 := hsz
  have ne : ∀ c, c = s1.heap.objs.size + 4 ∨ c = s1.heap.objs.size + 2 ∨ c = s1.heap.objs.size + 3 ∨ c = s1.heap.objs.size ∨ c = s1.heap.objs.size + 1 → c ≠ g.objs.size := fun c hc => by
    rw [gs]
    refine Nat.ne_of_lt ?_
    rcases hc with r | r | r | r | r <;> rw [r] <;> omega
  refine ⟨g.objs.size, [g.objs.size, s1.heap.objs.size + 4, s1.heap.objs.size + 2, s1.heap.objs.size + 3, s1.heap.objs.size, s1.heap.objs.size + 1], _, _, H1, rfl, I2, turn_ez D ne, ⟨⟨.none, he⟩, .inl (up _ _ hz), up _ _ hTI, ⟨_, _, up _ _ hTO⟩, h1.at fun o u => up _ _ u, h2.at fun o u => up _ _ u⟩, fun c hcm => ?_, q⟩
  have hle : s1.heap.objs.size ≤ c := by
    have hc' : c = g.objs.size ∨ c = s1.heap.objs.size + 4 ∨ c = s1.heap.objs.size + 2 ∨ c = s1.heap.objs.size + 3 ∨ c = s1.heap.objs.size ∨ c = s1.heap.objs.size + 1 := by simpa using hcm
    rcases hc' with r | r | r | r | r | r <;> rw [r] <;> first | (rw [gs]; exact Nat.le_add_right _ _) | exact Nat.le_add_right _ _ | exact Nat.le_refl _
  exact I1.fpOk hle (I1.hok.fresh hle)
def YEz (xs ys : List V) : Nat → Hp → V → Hp → Prop := fun i H v H' => ∃ (T U : Addr) (x y : V), v = .ref U ∧ Same H H' ∧ H' U = some (.tup [.int (i : Nat), .ref T]) ∧ H' T = some (.tup [x, y]) ∧ xs[i]? = some x ∧ ys[i]? = some y
theorem walk_ez {K : Fg} {a b : Addr} {xs ys : List V} {n : Nat} (h1 : xs.length = n) (h2 : ys.length = n) : Walk (Itez K a b) n (fun H => SqL K H a xs ∧ SqL K H b ys) (YEz xs ys) := by
  refine ⟨fun i H hi g => ?_, fun H g => ⟨xs, ys, g.1, g.2, .inl (Nat.le_of_eq h1)⟩, fun i H v H' hi g y => ?_⟩
  · exact ⟨xs, ys, xs[i]'(by omega), ys[i]'(by omega), g.1, g.2, List.getElem?_eq_getElem _, List.getElem?_eq_getElem _⟩
  · obtain ⟨T, U, x, z, rfl, hT, hU, hne, rfl, q1, q2⟩ := y
    refine ⟨T, U, x, z, rfl, fun b o e => ?_, upd_same, ?_, q1 _ g.1, q2 _ g.2⟩
    · rw [upd_ne (ne_of_none e hU), upd_ne (ne_of_none e hT)]
      exact e
    · rw [upd_ne hne.symm, upd_same]
section
variable {fa : List (Fg → Bool)} {fn : List He5.DefA} {K : Fg} {mg : Str → Option Value} {X : Cx}
theorem piez (T : TxOf fa fn K mg) {e e2 : Expr} {ta : TA} {p p2 pos pos2 tpos : Pos} {elts : List Expr} {kk : Nat} (hm : mg "enumerate" = none) (hm2 : mg "zip" = none) (ha : PA X [e, e2] ta) (hK : X.K = K := by rfl) (hmg : X.mg = mg := by rfl) (hg : Gl X "enumerate" := by rfl) (hg2 : Gl X "zip" := by rfl)
    (hs : starEach [e, e2] X.env = (false, eval e X.env) :: starEach [e2] X.env := by rfl) (hpl : (backTo pos2 (starEach [e2] X.env)).any (·.1) = false := by rfl)
    (hs1 : starEach [.Call (.Name "zip" p2) [e, e2] [] pos2] X.env = [(false, eval (.Call (.Name "zip" p2) [e, e2] [] pos2) X.env)] := by rfl) :
    PI X (.Tuple elts kk tpos) (.Call (.Name "enumerate" p) [.Call (.Name "zip" p2) [e, e2] [] pos2] [] pos) (iEnZ K ta) := by
  subst hK
  subst hmg
  exact pi_enz hg hm hg2 hm2 ha hs hpl hs1
end
end My

/-! zip(a tuple, a list); bool(an instance with __len__). -/
namespace My
open PySem PySem.Spec PyProof.Rows L2
/-- the heap after the five objects of zip(t, l) -/
def zmH (n : Nat) (h : Heap) (t l : Addr) : Heap :=
  ((((h.push { cls := .type "tuple_iterator", data := .fields #[.ref t, .int 0 0] }).push { cls := .type "list_iterator", data := .fields #[.ref l, .int 0 0] }).push { cls := .type "tuple", data := .seq #[.ref n, .ref (n + 1)] }).push
    { cls := .type "tuple", data := .seq #[.none, .none] }).push { cls := .type "zip", data := .fields #[.none, .bool false, .bool false, .ref (n + 2), .ref (n + 3)] }
theorem meets_zm (t l : Addr) (xs ys : Array Value) :
    Meets (Builtin.«zip.__new__» ⟨[.type "zip", .ref t, .ref l], []⟩) (fun _ R s => s.heap.IsTuple t xs ∧ s.heap.IsList l ys ∧ R (.ok (.ret (.ref (s.heap.objs.size + 4)))) { s with heap := zmH s.heap.objs.size s.heap t l }) :=
  .of_wp fun prog w A R s h => by
    obtain ⟨hp, gs, dr, tk, os⟩ := s
    obtain ⟨h1, h2, h⟩ := h
    have sub := sub_zip
    have L1 : Heap.IsTuple (Shared.heap ⟨hp, gs, dr, tk, os⟩) t xs := h1
    have L2 : Heap.IsList (Shared.heap ⟨hp.push { cls := .type "tuple_iterator", data := .fields #[.ref t, .int 0 0] }, gs, dr, tk, os⟩) l ys := by
      obtain ⟨o, e, r⟩ := h2
      exact ⟨o, Heap.get?_push_of_some _ e, r⟩
    wp_walk using wpAny_pyIter_tuple L1, wpAny_pyIter_list L2
    refine ⟨_, rfl, ?_⟩
    simp only [zmH, Heap.size_push] at h ⊢
    exact h
section
variable {prog : Program} {w : World} {A : Around} {E : Value → Shared → Prop} {s : Shared}
theorem call_zm {t l : Addr} {xs ys : Array Value} {Q : Value → Shared → Prop} (h1 : s.heap.IsTuple t xs) (h2 : s.heap.IsList l ys)
    (h : ∀ g, IsZip g (s.heap.objs.size + 4) (s.heap.objs.size + 2) (s.heap.objs.size + 3) .none → IsPair g (s.heap.objs.size + 2) (.ref s.heap.objs.size) (.ref (s.heap.objs.size + 1)) →
      IsPair g (s.heap.objs.size + 3) .none .none → g.IsTupleIter s.heap.objs.size t 0 → g.IsListIter (s.heap.objs.size + 1) l 0 →
      (∀ c o, s.heap.get? c = some o → g.get? c = some o) → Q (.ref (s.heap.objs.size + 4)) { s with heap := g }) :
    wpAny (model prog w) A (call (.type "zip") [.ref t, .ref l]) Q E s := by
  refine callType_new F.called_zip (by decide) (F.typeCall_zip_2 _ _) (F.newCall_zip_2 _ _) (fun obj => F.args_object_init_3 obj _ _) F.entry_zip_new (meets_zm t l xs ys) ⟨h1, h2, ?_⟩
  have up : ∀ {h : Heap} {o p : Obj} {c : Addr}, h.get? c = some p → (h.push o).get? c = some p := fun e => Heap.get?_push_of_some _ e
  have at_ : ∀ {h : Heap} {o : Obj} {n : Nat}, h.objs.size = n → o.isFreed = false → (h.push o).get? n = some o := fun {h o n} e f => by
    subst e
    exact Heap.get?_push_size _ f
  have sz : ∀ {h : Heap} {o : Obj} {n : Nat}, h.objs.size = n → (h.push o).objs.size = n + 1 := fun {h o n} e => by rw [Heap.size_push, e]
  have z1 := sz (o := { cls := .type "tuple_iterator", data := .fields #[.ref t, .int 0 0] }) (rfl : s.heap.objs.size = _)
  have z2 := sz (o := { cls := .type "list_iterator", data := .fields #[.ref l, .int 0 0] }) z1
  have z3 := sz (o := { cls := .type "tuple", data := .seq #[.ref s.heap.objs.size, .ref (s.heap.objs.size + 1)] }) z2
  have z4 := sz (o := { cls := .type "tuple", data := .seq #[.none, .none] }) z3
  have g5 : IsZip (zmH s.heap.objs.size s.heap t l) (s.heap.objs.size + 4) (s.heap.objs.size + 2) (s.heap.objs.size + 3) .none := at_ z4 rfl
  exact ⟨⟨_, g5, rfl⟩, h _ g5 (up (up (at_ z2 rfl))) (up (at_ z3 rfl)) ⟨_, up (up (up (up (at_ rfl rfl)))), rfl, rfl⟩ ⟨_, up (up (up (at_ z1 rfl))), rfl, rfl⟩ fun c o e => up (up (up (up (up e))))⟩
end
def ItzM (K : Fg) (a b : Addr) : It :=
  ⟨fun i H => ∃ (xs ys : List V) (x y : V), SqT K H a xs ∧ SqL K H b ys ∧ xs[i]? = some x ∧ ys[i]? = some y,
    fun i H v H' => ∃ T x y, v = .ref T ∧ H T = none ∧ H' = upd H T (.tup [x, y]) ∧ (∀ xs, SqT K H a xs → xs[i]? = some x) ∧ ∀ ys, SqL K H b ys → ys[i]? = some y,
    fun i H => ∃ xs ys : List V, SqT K H a xs ∧ SqL K H b ys ∧ i ≤ xs.length ∧ i ≤ ys.length ∧ (xs.length = i ∨ ys.length = i)⟩
theorem turn_zm {P : Program} {w : World} {K : Fg} {elts : List Expr} {kk : Nat} {tpos : Pos} {a b z TI TO i1 i2 : Addr} (D : ZipApart z TI TO i1 i2 a b) :
    Turn P w K (.Tuple elts kk tpos) (ItzM K a b) [z, TI, TO, i1, i2] z (fun i h => IsZip h z TI TO .none ∧ IsPair h TI (.ref i1) (.ref i2) ∧ (∃ x y, IsPair h TO x y) ∧ h.IsTupleIter i1 a i ∧ h.IsListIter i2 b i) where
  mem := by simp
  obj := fun i h st c hc => by
    obtain ⟨hz, hTI, ⟨x, y, hTO⟩, ⟨o1, q1, _, d1⟩, ⟨o2, q2, _, d2⟩⟩ := st
    have hc' : c = z ∨ c = TI ∨ c = TO ∨ c = i1 ∨ c = i2 := by simpa using hc
    rcases hc' with q | q | q | q | q
    · rw [q]; exact ⟨_, hz, fun v q => nomatch q⟩
    · rw [q]; exact ⟨_, hTI, fun v q => nomatch q⟩
    · rw [q]; exact ⟨_, hTO, fun v q => nomatch q⟩
    · rw [q]
      refine ⟨o1, q1, fun v q => ?_⟩
      rw [d1] at q
      cases q
    · rw [q]
      refine ⟨o2, q2, fun v q => ?_⟩
      rw [d2] at q
      cases q
  keep := fun i h h' st k => by
    obtain ⟨hz, hTI, ⟨x, y, hTO⟩, h1, h2⟩ := st
    exact ⟨k z (by simp) _ hz, k TI (by simp) _ hTI, ⟨x, y, k TO (by simp) _ hTO⟩, h1.at fun o q => k i1 (by simp) o q, h2.at fun o q => k i2 (by simp) o q⟩
  item := by
    intro X hP hw hK hc i pins s σ H E I hf st hg
    subst hP hw hK
    obtain ⟨hz, hTI, ⟨x0, y0, hTO⟩, h1, h2⟩ := st
    obtain ⟨xs, ys, x, y, hqx, hqy, hx, hy⟩ := hg
    obtain ⟨its, rv, p, _⟩ := I.tuple hqx
    obtain ⟨its2, rv2, p2, _⟩ := I.list hqy
    have pT : s.heap.IsTuple a its.toArray := p
    obtain ⟨u, hu, ru⟩ := rv.get hx
    obtain ⟨u2, hu2, ru2⟩ := rv2.get hy
    have hh := I.ok.hd hc
    have S : ZipSep2 z TI TO i1 i2 [i1, a] [i2, b] := ⟨D.TIz, D.TOz, D.TITO, D.TIi1, by simp, by simp [D.i1z.symm, D.l1z.symm], by simp [D.TOi1, D.l1TO.symm], D.TIi2, by simp, by simp [D.i2z.symm, D.l2z.symm], by simp [D.TOi2, D.l2TO.symm], by simp [D.i12, D.l2i1.symm], by simp [D.i12.symm, D.l1i2.symm]⟩
    have lt1 : i < its.toArray.size := by
      have := (List.getElem?_eq_some_iff.mp hu).1
      simpa using this
    have lt2 : i < its2.toArray.size := by
      have := (List.getElem?_eq_some_iff.mp hu2).1
      simpa using this
    have zl : z < s.heap.objs.size := Heap.lt_size hz
    refine wpAny_pyNext_zipD2_item S (Draws.tuple (A := X.A.in1) hh i1 a D.l1i1 its.toArray) (Draws.list (A := X.A.in1) hh i2 b D.l2i2 its2.toArray) hz hTI hTO ⟨h1, pT⟩ ⟨h2, p2.isList⟩ lt1 lt2 fun v1 v2 g tk e1 e2 b1 b2 b3 b4 b5 b6 b7 => ?_
    obtain rfl : u = v1 := by
      have : its[i]? = some v1 := by simpa using e1
      rw [hu] at this
      exact Option.some.inj this
    obtain rfl : u2 = v2 := by
      have : its2[i]? = some v2 := by simpa using e2
      rw [hu2] at this
      exact Option.some.inj this
    refine ⟨_, rfl, wpAny_letOwnedTupleGo_zip (s := { s with heap := g, toks := tk }) b1 fun g' c1 sb => ?_⟩
    have sb' : Heap.SameBut z g g' := sb
    have t1 : IsPair g' s.heap.objs.size u u2 := sb'.extBut _ _ (Nat.ne_of_gt zl) b5
    have new : ObjOk X.prog X.w (upd H s.heap.objs.size (.tup [x, y])) g' s.heap.objs.size (.tup [x, y]) :=
      ⟨by show 2 ≤ sizeLine; decide, [u, u2], .cons ru (.cons ru2 .nil), ⟨_, t1, rfl, _, rfl⟩⟩
    have J : Inv X pins σ (upd H s.heap.objs.size (.tup [x, y])) { s with heap := g', toks := tk } :=
      I.turnedNew (t' := tk) (ch := [z, TI, TO, i1, i2]) (fun c o hb q => sb'.extBut c o (fun r => hb (by simp [r])) (b7 c o (fun r => hb (by simp [r])) (fun r => hb (by simp [r])) (fun r => hb (by simp [r])) (fun r => hb (by simp [r])) q)) hf (Nat.le_refl _) new
    refine ⟨.ref s.heap.objs.size, _, J, rfl, ⟨_, x, y, rfl, I.hok.fresh (Nat.le_refl _), rfl, fun l hl => ?_, fun l hl => by rw [I.list_inj hl hqy]; exact hy⟩, ⟨c1, ?_, ⟨u, u2, ?_⟩, ?_, ?_⟩, fun c hcm => ?_⟩
    · rw [I.tuple_inj hl hqx]
      exact hx
    · exact sb'.extBut _ _ D.TIz (b7 _ _ D.TIz D.TITO D.TIi1 D.TIi2 hTI)
    · exact sb'.extBut _ _ D.TOz b2
    · exact b3.1.at fun o q => sb'.extBut _ o D.i1z q
    · exact b4.1.at fun o q => sb'.extBut _ o D.i2z q
    · have lt : c < s.heap.objs.size := by
        have hc' : c = z ∨ c = TI ∨ c = TO ∨ c = i1 ∨ c = i2 := by simpa using hcm
        obtain ⟨_, q1, _⟩ := h1
        obtain ⟨_, q2, _⟩ := h2
        rcases hc' with q | q | q | q | q <;> rw [q]
        · exact zl
        · exact Heap.lt_size hTI
        · exact Heap.lt_size hTO
        · exact Heap.lt_size q1
        · exact Heap.lt_size q2
      rw [upd_ne (Nat.ne_of_lt lt)]
      exact (hf c hcm).1
  done := by
    intro X hP hw hK hc i pins s σ H E I hf st hg
    subst hP hw hK
    obtain ⟨hz, hTI, ⟨x0, y0, hTO⟩, h1, h2⟩ := st
    obtain ⟨xs, ys, hqx, hqy, le1, le2, hend⟩ := hg
    obtain ⟨its, rv, p, _⟩ := I.tuple hqx
    obtain ⟨its2, rv2, p2, _⟩ := I.list hqy
    have pT : s.heap.IsTuple a its.toArray := p
    have m1 := rv.length
    have m2 := rv2.length
    have hh := I.ok.hd hc
    have S : ZipSep2 z TI TO i1 i2 [i1, a] [i2, b] := ⟨D.TIz, D.TOz, D.TITO, D.TIi1, by simp, by simp [D.i1z.symm, D.l1z.symm], by simp [D.TOi1, D.l1TO.symm], D.TIi2, by simp, by simp [D.i2z.symm, D.l2z.symm], by simp [D.TOi2, D.l2TO.symm], by simp [D.i12, D.l2i1.symm], by simp [D.i12.symm, D.l1i2.symm]⟩
    exact wpAny_pyNext_zipD2_end S (Draws.tuple (A := X.A.in1) hh i1 a D.l1i1 its.toArray) (Draws.list (A := X.A.in1) hh i2 b D.l2i2 its2.toArray) hz hTI hTO ⟨h1, pT⟩ ⟨h2, p2.isList⟩ (by simp; omega) (by simp; omega) (by simp; omega) fun g tk k => ⟨rfl, I.turnedL (t' := tk) (ch := [z, TI, TO, i1, i2]) (fun c o hb q => k c o (fun r => hb (by simp [r])) (fun r => hb (by simp [r])) (fun r => hb (by simp [r])) (fun r => hb (by simp [r])) q) hf⟩
  self := fun A i s Q E st h => wpAny_pyIter_zip st.1 h
def iZm (K : Fg) (ta : TA) : TI := fun σ H R => ta σ H fun vs H1 => ∃ a b xs ys, vs = [.ref a, .ref b] ∧ SqT K H1 a xs ∧ SqL K H1 b ys ∧ R (ItzM K a b) H1
theorem pi_zm {X : Cx} {e e2 : Expr} {ta : TA} {p pos tpos : Pos} {elts : List Expr} {kk : Nat} (hg : Gl X "zip") (hm : X.mg "zip" = none) (ha : PA X [e, e2] ta)
    (hs : starEach [e, e2] X.env = (false, eval e X.env) :: starEach [e2] X.env := by rfl) (hpl : (backTo pos (starEach [e2] X.env)).any (·.1) = false := by rfl) :
    PI X (.Tuple elts kk tpos) (.Call (.Name "zip" p) [e, e2] [] pos) (iZm X.K ta) := by
  refine ⟨fun pins s σ H R I h => ?_⟩
  refine Call_ (ld_blt I hg hm PyProof.Rows.boot_zip (PyProof.Rows.callWith_type1 (thn (ha.run pos pins s σ H _ I h) fun us s1 z => ?_) hs hpl))
  obtain ⟨vs, H1, I1, r1, a, b, xs, ys, rfl, hqx, hqy, q⟩ := z
  obtain ⟨v1, v2, rfl, ra, rb⟩ := vals2 r1
  obtain rfl : v1 = Value.ref a := ra
  obtain rfl : v2 = Value.ref b := rb
  obtain ⟨its, rv, q1, _⟩ := I1.tuple hqx
  obtain ⟨its2, rv2, q2, _⟩ := I1.list hqy
  have pT : s1.heap.IsTuple a its.toArray := q1
  have la : a < s1.heap.objs.size := by
    obtain ⟨o, e, _⟩ := pT
    exact Heap.lt_size e
  refine call_zm pT q2.isList fun g hz hTI hTO h1 h2 hk => wpAny_pyIter_zip hz ?_
  have I2 : Inv X pins σ H1 { s1 with heap := g } := I1.kept (t' := s1.toks) hk
  refine ⟨s1.heap.objs.size + 4, [s1.heap.objs.size + 4, s1.heap.objs.size + 2, s1.heap.objs.size + 3, s1.heap.objs.size, s1.heap.objs.size + 1], _, _, H1, rfl, I2, turn_zm (PySem.W.ktu_apart s1.heap.objs.size a b la q2.lt), ⟨hz, hTI, ⟨_, _, hTO⟩, h1, h2⟩, fun c hcm => ?_, q⟩
  have hle : s1.heap.objs.size ≤ c := by
    have hc' : c = s1.heap.objs.size + 4 ∨ c = s1.heap.objs.size + 2 ∨ c = s1.heap.objs.size + 3 ∨ c = s1.heap.objs.size ∨ c = s1.heap.objs.size + 1 := by simpa using hcm
    rcases hc' with r | r | r | r | r <;> rw [r] <;> first | exact Nat.le_add_right _ _ | exact Nat.le_refl _
  exact I1.fpOk hle (I1.hok.fresh hle)
theorem walk_zm {K : Fg} {a b : Addr} {xs ys : List V} {n : Nat} (h1 : xs.length = n) (h2 : ys.length = n) : Walk (ItzM K a b) n (fun H => SqT K H a xs ∧ SqL K H b ys) (YPair (fun i => xs[i]?) (fun i => ys[i]?)) := by
  refine ⟨fun i H hi g => ?_, fun H g => ⟨xs, ys, g.1, g.2, by omega, by omega, .inl h1⟩, fun i H v H' hi g y => ?_⟩
  · exact ⟨xs, ys, xs[i]'(by omega), ys[i]'(by omega), g.1, g.2, List.getElem?_eq_getElem _, List.getElem?_eq_getElem _⟩
  · obtain ⟨T, x, z, e1, e2, e3, q1, q2⟩ := y
    exact ⟨T, x, z, e1, e2, e3, q1 _ g.1, q2 _ g.2⟩
section
variable {fa : List (Fg → Bool)} {fn : List He5.DefA} {K : Fg} {mg : Str → Option Value} {X : Cx}
theorem pizm (T : TxOf fa fn K mg) {e e2 : Expr} {ta : TA} {p pos tpos : Pos} {elts : List Expr} {kk : Nat} (hm : mg "zip" = none) (ha : PA X [e, e2] ta) (hK : X.K = K := by rfl) (hmg : X.mg = mg := by rfl) (hg : Gl X "zip" := by rfl)
    (hs : starEach [e, e2] X.env = (false, eval e X.env) :: starEach [e2] X.env := by rfl) (hpl : (backTo pos (starEach [e2] X.env)).any (·.1) = false := by rfl) :
    PI X (.Tuple elts kk tpos) (.Call (.Name "zip" p) [e, e2] [] pos) (iZm K ta) := by
  subst hK
  subst hmg
  exact pi_zm hg hm ha hs hpl
theorem past (T : TxOf fa fn K mg) {e : Expr} {es : List Expr} {te : TE} {t : TA} {p : Pos} (he : PE X e te) (hr : PA X es t) (hK : X.K = K := by rfl) (hs : starEach (.Starred e p :: es) X.env = (true, eval e X.env) :: starEach es X.env := by rfl) : PA X (.Starred e p :: es) (StX.tStar K te t) := by
  subst hK
  exact StX.pa_star he hr hs
end
end My

/-! Tuples of texts among the module's constants; x in a sequence. -/
namespace My
open PySem PySem.Spec PyProof.Rows L2
def strOf : Value → Option Str
  | .str x _ => some x
  | _ => none
theorem vals_str : ∀ {us : List Value} {xs : List Str}, us.map strOf = xs.map some → Vals (xs.map V.str) us
  | [], [], _ => .nil
  | [], x :: xs, h => by cases h
  | u :: us, [], h => by cases h
  | u :: us, x :: xs, h => by
    have h1 := (List.cons.inj h).1
    have h2 := (List.cons.inj h).2
    refine .cons ?_ (vals_str h2)
    cases u with
    | str y t =>
      obtain rfl : y = x := Option.some.inj h1
      exact ⟨t, rfl⟩
    | _ => cases h1
/-- a constant of the module: a tuple of texts -/
def tupSB (x : Str) (xs : List Str) (K : Fg) : Bool := (He.Fa.glo x).ok K && (match K.lookup (He.ga K x) with
  | some o => decide (o.cls = .type "tuple") && (match o.data with
    | .seq its _ => decide (its.size ≤ 1000) && decide (its.toList.map strOf = xs.map some)
    | _ => false)
  | none => false)
theorem tupSB_ok {x : Str} {xs : List Str} {K : Fg} (h : tupSB x xs K = true) : (He.Fa.glo x).ok K = true ∧ ∀ H : Hp, SqT K H (He.ga K x) (xs.map V.str) := by
  obtain ⟨h1, h2⟩ := He.ba h
  refine ⟨h1, fun H => .inr ?_⟩
  split at h2
  · rename_i o eo
    obtain ⟨h3, h4⟩ := He.ba h2
    split at h4
    · rename_i its n ed
      obtain ⟨h5, h6⟩ := He.ba h4
      exact ⟨o, its, n, eo, of_decide_eq_true h3, ed, sz (Nat.le_trans (of_decide_eq_true h5) (by decide)), vals_str (of_decide_eq_true h6)⟩
    · cases h4
  · cases h2
section
variable {fa : List (Fg → Bool)} {fn : List He5.DefA} {K : Fg} {mg : Str → Option Value} {X : Cx}
theorem inq (T : TxOf fa fn K mg) (hK : X.K = K := by rfl) : OpR X (compareOp .In) (rIn K false) := by subst hK; exact op_in_seq
theorem ninq (T : TxOf fa fn K mg) (hK : X.K = K := by rfl) : OpR X (compareOp .NotIn) (rIn K true) := by subst hK; exact op_notIn_seq
end
end My

/-! bool(o) of an instance that has a length. -/
namespace My
open PySem PySem.Spec PyProof.Rows L2
section
variable {X : Cx} {CX : CXT} {n : Nat} {C g : Addr} {sp : Sp} {E : XK}
theorem truthy_at {A : Around} (hb : PySem.W.findIn X.K (.ref C) "__bool__" = some none) (hs : PySem.W.findIn X.K (.ref C) "__len__" = some (some (.ref g))) (hf : PySem.W.isFn X.K (.ref g) = true) (F : FnR X.prog X.w X.K X.mg X.base CX n g sp) (hr : Room (n + 1) A) (hx : Passes CX X E)
    {pins : List (Addr × Obj)} {s : Shared} {σ : L2.St} {H : Hp} {a dx : Addr} {fs : List (Str × V)} {Q : Bool → Hp → Prop} (I : Inv X pins σ H s) (e0 : Env0 X.prog X.w X.K X.mg X.base A X.stack s H) (ha : H a = some (.ins C dx fs))
    (q : sp [.ref a] H (fun z H' => ∃ i : Int, z = .int i ∧ 0 ≤ i ∧ i < 2 ^ 63 ∧ Q (i != 0) H') E) :
    wpAny (model X.prog X.w) A (truthy (.ref a)) (fun b s' => ∃ H', Inv X pins σ H' s' ∧ Q b H') X.xe s := by
  obtain ⟨od, J⟩ := inst_of I ha
  obtain ⟨m, hF⟩ := I.fr
  have XK' := I.ok.mod.kin.keeps hF.keep
  unfold truthy
  refine wpAny_bind (m := callSpecial? (.ref a) (Str.ofString "__bool__")) (wpAny_bind (wpAny_bind (J.type.here ((PySem.W.looks_findIn XK' hb).here (wpAny_pure ?_)))))
  refine wpAny_bind (wpAny_bind (J.type.here ((PySem.W.looks_findIn XK' hs).here ?_)))
  rw [if_neg (by simp)]
  refine wpAny_bind (wpAny_runValue (codeAny_builtin entry_len ?_))
  rw [Around.under_plainId plain_len _]
  unfold Builtin.«len»
  refine wpAny_bind (m := oneArg "len" _) (wpAny_pure ?_)
  refine wpAny_bind (m := callSpecial? (.ref a) (Str.ofString "__len__")) (PySem.W.special_fn XK' J hs (beq_iff_eq.mp hf) ?_)
  refine wpAny_mono (wpAny_call (SlX.run_at (us := [.ref a]) (ws := [.ref a]) F hr.in1 e0.in1 hx I (.cons rfl .nil) q)) (fun w s' z => ?_) fun _ _ x => x
  obtain ⟨z', H', I', rz, i, rfl, i0, i1, qz⟩ := z
  obtain ⟨t, rfl⟩ : ∃ t, w = Value.int i t := rz
  refine wpAny_bind (wpAny_holding (wpAny_pure ?_))
  refine wpAny_bind (wpAny_letGo ?_)
  show wpAny _ _ (if i < 0 then _ else _) _ _ _
  rw [if_neg (by omega)]
  show wpAny _ _ (if i ≥ 2 ^ 63 then _ else _) _ _ _
  rw [if_neg (by omega)]
  refine wpAny_bind (wpAny_mkInt (wpAny_pure ?_))
  exact wpAny_pure ⟨H', I'.tok _, qz⟩
theorem bool_new_in {prog : Program} {w : World} (x : Value) : MeetsIn prog w (Builtin.«bool.__new__» ⟨[.type "bool", x], []⟩) (fun A R s => wpAny (model prog w) A.in1 (truthy x) (fun b s' => R (.ok (.ret (.bool b))) s') (fun e s' => R (.error e) s') s) :=
  MeetsIn.of_wp fun A R s hs => by
    obtain ⟨hp, g, d, tk, os⟩ := s
    have f1 := F.conv_sub_bool
    repeat (any_goals (first | assumption | (refine wpAny_bind (wpAny_mono hs (fun b s' hb => ?_) fun _ _ x => x)) | wp_step))
    all_goals first | exact ⟨_, rfl, hb⟩ | skip
/-- bool(o), o an instance -/
def rBoolO (C : Addr) (sp : Sp) (E : XK) : List V → Hp → VK → Prop := fun xs H Q => ∃ a, xs = [V.ref a] ∧ rTruO C sp E (.ref a) H fun b H' => Q (.bl b) H'
theorem call_boolO (hb : PySem.W.findIn X.K (.ref C) "__bool__" = some none) (hs : PySem.W.findIn X.K (.ref C) "__len__" = some (some (.ref g))) (hf : PySem.W.isFn X.K (.ref g) = true) (F : FnR X.prog X.w X.K X.mg X.base CX n g sp) (hr : Room (n + 3) X.A) (hx : Passes CX X E) :
    CallR X (.type "bool") (rBoolO C sp E) := by
  intro pins s σ H xs us Q I r h
  obtain ⟨a, rfl, a', dx, fs, ea, ha, q⟩ := h
  obtain rfl : a = a' := V.ref.inj ea
  obtain rfl := Vals.ref1 r
  refine callType_newIn PySem.F.called_bool PySem.F.newNe_bool (PySem.F.typeCall_bool_1 _) (PySem.F.newCall_bool_1 _) (fun obj => PySem.F.args_object_init_2 obj _) PySem.F.entry_bool_new (bool_new_in _) ?_
  refine wpAny_mono (truthy_at (Q := fun b H' => Q (.bl b) H') hb hs hf F hr.in1.in1 hx I I.env0.in1.in1 ha q) (fun b s' z => ?_) fun _ _ x => x
  obtain ⟨H', I', qz⟩ := z
  exact ⟨rfl, .bl b, H', I', rfl, qz⟩
end
end My

/-! x != y of instances whose class has an own __eq__ and object's __ne__. -/
namespace My
open PySem PySem.Spec PyProof.Rows L2
section
variable {prog : Program} {w : World} {A : Around} {E : Value → Shared → Prop} {s : Shared} {K : Fg} {x C f : Addr} {ox : Obj} {od : Option Obj} {b tb : Value}
theorem ne_slot {Q : Value → Shared → Prop} (X : K.In s.heap) (I : PySem.W.InstAt s.heap x ox C od) (hm : PySem.W.mroIn K C (.type "object") = some true) (hu : A.units + 1 < cLine)
    (hs : PySem.W.findIn K (.ref C) "__eq__" = some (some (.ref f))) (hf : PySem.W.isFn K (.ref f) = true)
    (h : wpAny (model prog w) A.in1 (call (.ref f) [.ref x, b]) (fun v s' => ∃ c, v = .bool c ∧ Q (.bool (!c)) s') E s) :
    wpAny (model prog w) A (call (.builtin "object.__ne__") [.ref x, b]) Q E s := by
  refine wpAny_call (codeAny_call_builtin PySem.F.cmp_object.ne.plain PySem.F.cmpEntry_ne (PySem.W.check_slot PySem.F.cmpKind_ne PySem.F.cmpSplit_ne (I.type.andThen (PySem.W.looks_mroIn X hm)) (PySem.F.cmpArgs_ne _ _) ?_))
  unfold Builtin.«object.__ne__»
  repeat (first
    | with_reducible refine wpAny_cRoomFor (A := A.in1) hu ?_
    | (refine wpAny_bind (m := callSpecialIfBound? (.ref x) (Str.ofString "__eq__") [b]) (PySem.W.ifBound_K X I hs hf (wpAny_mono h (fun v s' z => ?_) fun _ _ e => e)))
    | wp_step)
  obtain ⟨c, rfl, q⟩ := z
  repeat (first | exact q | exact wpAny_pure q | exact wpAny_truthy_bool q | (refine wpAny_bind (m := truthy (.bool _)) (wpAny_truthy_bool ?_)) | wp_step)
theorem bound_ne {args : List Value} {M : Model} {Q : Option Value → Shared → Prop} (X : K.In s.heap) (I : PySem.W.InstAt s.heap x ox C od) (hs : PySem.W.findIn K (.ref C) "__ne__" = some (some (.builtin "object.__ne__")))
    (h : wpAny M A (call (.builtin "object.__ne__") (.ref x :: args)) (fun v => Q (some v)) E s) : wpAny M A (callSpecialIfBound? (.ref x) "__ne__" args) Q E s := by
  simp only [callSpecialIfBound?, bindSpecialIfBound?]
  refine wpAny_holding (wpAny_bind (wpAny_bind (wpAny_bind (I.type.here ((PySem.W.looks_findIn X hs).here ?_)))))
  refine wpAny_bind (wpAny_askSetting (wpAny_ite ?_))
  have last : wpAny M A (call (.builtin "object.__ne__") ([.ref x] ++ args) >>= fun v => pure (some v)) Q E s := wpAny_bind (wpAny_mono h (fun v s' z => wpAny_pure z) fun _ _ z => z)
  split
  · exact wpAny_bind (wpAny_of_eq (PySem.F.cmp_object.ne.bind _) (wpAny_pure (by exact last)))
  · exact wpAny_tryCatch (wpAny_bind (wpAny_of_eq (PySem.F.cmp_object.ne.bind _) (wpAny_pure (by exact last))))
theorem ne_K {Q : Value → Shared → Prop} (hu : A.units + 1 < cLine) (X : K.In s.heap) (I : PySem.W.InstAt s.heap x ox C od) (hb : PySem.W.Looks (model prog w) s.heap (typeOf b) tb) (hn : PySem.W.notFirst K C tb = true)
    (hm : PySem.W.mroIn K C (.type "object") = some true) (hne : PySem.W.findIn K (.ref C) "__ne__" = some (some (.builtin "object.__ne__"))) (hs : PySem.W.findIn K (.ref C) "__eq__" = some (some (.ref f))) (hf : PySem.W.isFn K (.ref f) = true)
    (h : wpAny (model prog w) A.in1 (call (.ref f) [.ref x, b]) (fun v s' => ∃ c, v = .bool c ∧ Q (.bool (!c)) s') E s) : wpAny (model prog w) A (richCompare .NotEq (.ref x) b) Q E s := by
  have one : wpAny (model prog w) A (tryCompare (.ref x) "__ne__" b) (fun r s' => ∃ c, r = some (.bool c) ∧ Q (.bool c) s') E s := by
    unfold tryCompare
    refine wpAny_bind (bound_ne X I hne (ne_slot X I hm hu hs hf (wpAny_mono h (fun v s' z => ?_) fun _ _ e => e)))
    obtain ⟨c, rfl, q⟩ := z
    exact ⟨c, rfl, wpAny_pure ⟨_, rfl, q⟩⟩
  unfold richCompare
  simp only [oneThing_ref, cmpInfo_NotEq]
  refine wpAny_holding (wpAny_bind (wpAny_cRoomFor (by omega) ?_))
  refine wpAny_bind (I.type.here (wpAny_bind (hb.here ?_)))
  split
  · rename_i q
    have e : PySem.W.subIn K tb (.ref C) = some false := by
      rcases Bool.or_eq_true_iff.mp hn with e | e
      · rw [beq_iff_eq.mp e] at q
        simp at q
      · exact beq_iff_eq.mp e
    refine wpAny_bind ((PySem.W.looks_subIn X e).here ?_)
    simp only [Bool.false_eq_true, if_false]
    refine wpAny_bind (wpAny_mono one (fun r s' z => ?_) fun _ _ e => e)
    obtain ⟨c, rfl, q⟩ := z
    exact wpAny_pure q
  · refine wpAny_bind (wpAny_pure ?_)
    simp only [Bool.false_eq_true, if_false]
    refine wpAny_bind (wpAny_mono one (fun r s' z => ?_) fun _ _ e => e)
    obtain ⟨c, rfl, q⟩ := z
    exact wpAny_pure q
end
/-- x != y of two instances -/
def rNeI (K : PySem.W.Frag) (C : Addr) (sp : Sp) (E : XK) : R2 := fun x y H Q => rOwnI K C sp E x y H fun z H' => ∃ c : Bool, z = .bl c ∧ Q (.bl (!c)) H'
theorem op_neI2 {X : Cx} {CX : CXT} {n : Nat} {C g : Addr} {sp : Sp} {E : XK} (hm : PySem.W.mroIn X.K C (.type "object") = some true) (hne : PySem.W.findIn X.K (.ref C) "__ne__" = some (some (.builtin "object.__ne__")))
    (hs : PySem.W.findIn X.K (.ref C) "__eq__" = some (some (.ref g))) (hf : PySem.W.isFn X.K (.ref g) = true) (F : FnR X.prog X.w X.K X.mg X.base CX n g sp) (hr : Room (n + 1) X.A) (hx : Passes CX X E) :
    OpR X (compareOp .NotEq) (rNeI X.K C sp E) := by
  intro pins s σ H x y v u Q I rx ry h
  obtain ⟨a, dx, fs, b, C', dy, gs, rfl, rfl, ha, hb, hn, q⟩ := h
  obtain rfl : v = Value.ref a := rx
  obtain rfl : u = Value.ref b := ry
  obtain ⟨od, J⟩ := inst_of I ha
  obtain ⟨od', J'⟩ := inst_of I hb
  have hu := hr.units0
  refine ne_K (tb := .ref C') (by have := hr.in1.units0; exact this) I.kIn J J'.type hn hm hne hs hf ?_
  have vs2 : Vals [V.ref a, V.ref b] [Value.ref a, Value.ref b] := .cons rfl (.cons rfl .nil)
  refine wpAny_mono (wpAny_call (SlX.run_at F hr.in1 I.env0.in1 hx I vs2 q)) (fun w s' z => ?_) fun _ _ e => e
  obtain ⟨z', H', I', rz, c, rfl, qz⟩ := z
  obtain rfl : w = Value.bool c := rz
  exact ⟨c, rfl, .bl (!c), H', I', rfl, qz⟩
/-- the class has object's __ne__ -/
def neB (C : Str) (K : Fg) : Bool := He.eqO (PySem.W.findIn K (.ref (He.ga K C)) "__ne__") (some (some (.builtin "object.__ne__"))) && decide (PySem.W.mroIn K (He.ga K C) (.type "object") = some true)
theorem neB_ok {C : Str} {K : Fg} (h : neB C K = true) : PySem.W.findIn K (.ref (He.ga K C)) "__ne__" = some (some (.builtin "object.__ne__")) ∧ PySem.W.mroIn K (He.ga K C) (.type "object") = some true := ⟨He.eqO_ok (He.ba h).1, of_decide_eq_true (He.ba h).2⟩
end My

/-! {e for x in ..} of ints, and sorted of such a set, of any number of members. -/
namespace My
open PySem PySem.Spec PyProof.Rows L2
section
variable {prog : Program} {w : World} {A : Around} {E : Value → Shared → Prop} {s : Shared} {a : Addr}
/-- sorted(set of ints) -/
theorem sorted_setAny {S : Int → Bool} {n : Nat} {Q : Value → Shared → Prop} (R : SetR w s.heap a S n) (hh : A.handled = none)
    (hQ : ∀ (t : Shared) (p : Addr) (out : Array Value) (c : Nat) (ns : List Int), (∀ b o, s.heap.get? b = some o → t.heap.get? b = some o) → t.gens = s.gens → t.os = s.os → s.heap.objs.size ≤ p → t.heap.get? p = some (seqObj "list" out c) →
      IntsAre out.toList ns → ns.Pairwise (· < ·) → (∀ k, k ∈ ns ↔ S k = true) → ns.length = n → n < 4096 → Q (.ref p) t) : wpAny (model prog w) A (call (.builtin "sorted") [.ref a]) Q E s := by
  obtain ⟨o, es, ep, t, ho, hex, hd, g, nd, hm, hb, hf, hn, hr, hl⟩ := R
  refine Calls.call_function_entry kind_sorted plain_sorted entry_sorted (args_sorted1 _) ?_
  unfold Builtin.«sorted»
  refine wpAny_bind (m := checkCount "sorted" 1 1 _) (wpAny_pure ?_)
  refine wpAny_bind (collect_set (A := A.in1) hh ⟨o, ho, hex.1, hd⟩ hf hb hr hl fun s1 vs k1 hz g1 o1 pm => ?_)
  have hvl : vs.length = n := (pm.length_eq.trans (by rw [List.length_map, Array.length_toList])).trans hn
  have n4 : n < 4096 := by
    rw [← hn]
    exact hb
  have vz : vs.length ≤ sizeLine := by
    rw [hvl]
    exact My.sz (by omega)
  have hI : IntsAre vs (vs.map SrtO.iv) := SrtO.ints_iv fun v hv => by
    obtain ⟨e, he, q⟩ := List.mem_map.mp (pm.mem_iff.mp hv)
    obtain ⟨k, tk, h1, _⟩ := g e he
    exact ⟨k, tk, q.symm.trans h1⟩
  have pk : (vs.map SrtO.iv).Perm (es.toList.map keyOf) := by
    have q := pm.map SrtO.iv
    rw [List.map_map] at q
    have e2 : es.toList.map (SrtO.iv ∘ fun x => x.2) = es.toList.map keyOf := List.map_congr_left fun e he => by
      obtain ⟨k, tk, h1, _⟩ := g e he
      show SrtO.iv e.2 = keyOf e
      unfold keyOf
      rw [h1]
      rfl
    rw [← e2]
    exact q
  refine wpAny_bind (wpAny_newList ?_ vz)
  have hoL : (s1.heap.push (seqObj "list" vs.toArray 0)).get? s1.heap.objs.size = some (seqObj "list" vs.toArray 0) := Heap.get?_push_size _ rfl
  refine wpAny_bind (wpAny_holding (wpAny_call_entry slot_list_sort ⟨_, hoL, rfl⟩ entry_list_sort (SrtO.list_sort_ord SrtO.swo_int hoL vz (fun h2 => SrtO.ints_sortable hI h2) fun out q1 q2 => ⟨_, rfl, ?_⟩) (args_list_sort _)))
  obtain ⟨a1, a2, a3⟩ := SrtO.ints_out hI q1 q2
  obtain ⟨c, hc⟩ := sortedHeap_at (vs := vs) (out := out.toArray) hoL
  have pn := a2.trans pk
  refine wpAny_pure ⟨_, rfl, hQ _ s1.heap.objs.size out.toArray c (out.map SrtO.iv) (fun b u e => ?_) g1 o1 hz hc a1 (lt_of_le_nodup _ a3 (pn.nodup_iff.mpr nd)) (fun k => by rw [pn.mem_iff, ← hm k]) ?_ n4⟩
  · have q := k1 b u e
    have hlt := Heap.lt_size q
    show (sortedHeap (s1.heap.push (seqObj "list" vs.toArray 0)) s1.heap.objs.size vs out.toArray).get? b = some u
    rw [sortedHeap_old (Nat.ne_of_lt hlt) (by rw [size_push']; exact Nat.lt_succ_of_lt hlt)]
    exact Heap.get?_push_of_some _ q
  · rw [pn.length_eq, List.length_map, Array.length_toList]
    exact hn
end
/-- sorted(s), s a set of ints -/
def rSortS (w : World) : List V → Hp → VK → Prop := fun vs H Q => ∃ (a : Addr) (S : Int → Bool) (n : Nat), vs = [V.ref a] ∧ H a = some (SetO w a S n) ∧
  ∀ (ns : List Int) (p : Addr), ns.Pairwise (· < ·) → (∀ k : Int, k ∈ ns ↔ S k = true) → ns.length = n → H p = none → Q (.ref p) (upd H p (.lst (ns.map V.int)))
theorem cr_sortS {X : Cx} (hc : X.calm = true) : CallR X (.builtin "sorted") (rSortS X.w) := by
  intro pins s σ H vs us Q I r h
  obtain ⟨a, S, n, rfl, ha, q⟩ := h
  rw [Vals.ref1 r]
  refine sorted_setAny (setO_get I ha) (I.ok.hd hc) fun t p out c ns k g o hp hg hi hs hm hl n4 => ?_
  have hlen : (ns.map V.int).length ≤ sizeLine := by
    rw [List.length_map, hl]
    exact My.sz (by omega)
  have hn : H p = none := I.hok.fresh hp
  have J : Inv X pins σ (upd H p (.lst (ns.map V.int))) { s with heap := t.heap, gens := t.gens, drawn := t.drawn, toks := t.toks } :=
    I.call (ch := []) (Un.laid k hp hn) (I.hok.laid k hp ⟨hlen, out.toList, c, vals_of_ints hi, hg⟩) (by rw [g]; exact I.bare) (fun _ z => nomatch z)
  have e : t = { s with heap := t.heap, gens := t.gens, drawn := t.drawn, toks := t.toks } := by
    obtain ⟨h1, h2, h3, h4, h5⟩ := t
    cases s
    cases (show h5 = _ from o)
    rfl
  rw [e]
  exact ⟨.ref p, _, J, rfl, q ns p hs hm hl hn⟩
end My

/-! {e for x in .. if ..}, e an int. -/
namespace My
open PySem PySem.Spec PyProof.Rows L2
abbrev S0 : Int → Bool := fun _ => false
/-- the set with one more member -/
def SetO.more (w : World) (D : Addr) (S : Int → Bool) (n : Nat) (c : Int) : HO := SetO w D (fun j => S j || decide (j = c)) (if S c = true then n else n + 1)
/-- D the new set -/
def tScI (w : World) (wi : TI) (g : TG) (tt : TT) (te : TE) (vs : List Nat) : TE := fun σ H Q => wi σ H fun J H1 => ∀ D, H1 D = none →
  ∃ W : Nat → Nat → Hp → Prop, (∃ m, W 0 m (upd H1 D (SetO w D S0 0))) ∧ ∀ i m H, W i m H → (J.stop i H ∧ Q (.ref D) H) ∨ (J.go i H ∧ ∃ Nx : Hp → Prop, (∀ H', Nx H' → ∃ m', m' < m ∧ W (i + 1) m' H') ∧
    ∀ x H', J.yld i H x H' → g x (wipe σ vs) H' fun σ2 H2 => wipe σ2 vs = wipe σ vs ∧ tt σ2 H2 fun b H3 => if b = true then te σ2 H3 fun y H4 => ∃ (c : Int) (S : Int → Bool) (n : Nat), y = .int c ∧ H4 D = some (SetO w D S n) ∧ n + 1 < scanBound ∧ Nx (upd H4 D (SetO.more w D S n c)) else Nx H3)
abbrev freshS (X : Cx) : Obj := { cls := .type "set", dict := none, data := .set #[] 0 (.fresh 0 0 (!X.w.params.followText "set-order")) }
section
variable {X : Cx}
theorem pe_scI {elt tg iter : Expr} {ifs : List Expr} {sc : Scope} {own : List (PySem.Str × Nat)} {pos : Pos} {wi : TI} {g : TG} {tt : TT} {te : TE} (hc : X.calm = true) (hN : X.N.Nodup) (hi : PI X tg iter wi) (ok : BlkOk X.N X.env.scope sc own)
    (hg : ∀ (s : Shared) (H : Hp) (C : Addr) (cl : List (PySem.Str × Addr)) (fp : List Addr), PG (X.blk s H sc (compEnvC sc cl C X.env) fp) tg g)
    (ht : ∀ (s : Shared) (H : Hp) (C : Addr) (cl : List (PySem.Str × Addr)) (fp : List Addr), PTs (X.blk s H sc (compEnvC sc cl C X.env) fp) ifs tt)
    (he : ∀ (s : Shared) (H : Hp) (C : Addr) (cl : List (PySem.Str × Addr)) (fp : List Addr), PE (X.blk s H sc (compEnvC sc cl C X.env) fp) elt te) (hs : ∀ x, foldedSetIterable iter X.env x = pure x := by intro _; rfl) :
    PE X (.SetComp elt [⟨tg, iter, ifs, 0⟩] sc pos) (tScI X.w wi g tt te (own.map (·.2))) := by
  refine ⟨fun pins s σ H Q I h => ?_⟩
  rw [PpSet.eval_SetComp]
  have free : ∀ y ∈ sc.names, y.2 = .free → ∃ c, X.env.cells.lookup y.1 = some c := fun y hy e => (ok.free y hy e).elim (fun z => I.ok.has _ (.inl z)) fun z => I.ok.has _ (.inr z)
  refine wpAny_comprehension_free (use := none) rfl hs (closure_ok free) ok.kind (fun y hy e => by rw [ok.uniq y hy, e]) (thn (hi.run pins s σ H _ I h) fun xv sa hx => thn hx fun itv sb hb => ?_)
  obtain ⟨it, fp, tn, J, Hb, rfl, Ib, T, stb, fpb, q⟩ := hb
  refine PpSet.newSet_ok (newEnv_comp ?_)
  obtain ⟨D, hD⟩ : ∃ D, sb.heap.objs.size = D := ⟨_, rfl⟩
  obtain ⟨W, ⟨m0, w0⟩, turn⟩ := q D (Ib.hok.fresh (Nat.le_of_eq hD))
  obtain ⟨sd, hsd⟩ : ∃ sd : Shared, ({ sb with heap := sb.heap.push (freshS X) } : Shared) = sd := ⟨_, rfl⟩
  have hh : sd.heap = sb.heap.push (freshS X) := by rw [← hsd]
  obtain ⟨Hd, hHd⟩ : ∃ Hd, upd Hb D (SetO X.w D S0 0) = Hd := ⟨_, rfl⟩
  have Id : Inv X pins σ Hd sd := by
    rw [← hsd, ← hHd]
    refine Ib.laid (t' := sb.toks) (fun b o e => Heap.get?_push_of_some _ e) (Nat.le_of_eq hD) ?_
    rw [← hD]
    exact setO_new (setR_fresh X.w)
  have fpd : ∀ b ∈ fp, FpOk X pins Hd b ∧ b < sd.heap.objs.size := fun b hb => by
    obtain ⟨o, e, _⟩ := T.obj _ _ stb b hb
    have lt := Heap.lt_size e
    refine ⟨⟨?_, (fpb b hb).2⟩, by rw [hh, Heap.size_push]; exact Nat.lt_succ_of_lt lt⟩
    rw [← hHd, upd_ne (by rw [← hD]; exact Nat.ne_of_lt lt)]
    exact (fpb b hb).1
  have std : tn 0 sd.heap := T.keep _ _ _ stb fun b _ o e => by rw [hh]; exact Heap.get?_push_of_some _ e
  rw [hHd] at w0
  have Ie := block_start Id ok hN fpd
  rw [hD, hsd]
  obtain ⟨cl, hcl⟩ : ∃ cl, cellsFrom (sd.heap.objs.size + 1) sc.names (cloFrom X.env.cells sc.names []) = cl := ⟨_, rfl⟩
  have pg := hg sd Hd sd.heap.objs.size cl fp
  have pt := ht sd Hd sd.heap.objs.size cl fp
  have pe := he sd Hd sd.heap.objs.size cl fp
  rw [hcl] at Ie
  obtain ⟨ce, hce⟩ : ∃ ce, compEnvC sc cl sd.heap.objs.size X.env = ce := ⟨_, rfl⟩
  have cL : ce.locals = sd.heap.objs.size := by rw [← hce]; rfl
  rw [hce] at Ie pg pt pe
  obtain ⟨se, hse⟩ : ∃ se : Shared, ({ sd with heap := pushCells (sd.heap.push { cls := .type "dict", data := .dict #[] }) sc.names } : Shared) = se := ⟨_, rfl⟩
  rw [hse] at Ie
  have ste : tn 0 se.heap := T.keep _ _ _ std fun b _ o e => by rw [← hse]; exact pushCells_keeps _ _ _ _ (Heap.get?_push_of_some _ e)
  have nfp : ∀ b ∈ fp, Hd b = none := fun b hb => (fpd b hb).1.1
  have stat : ∀ {σ' : L2.St} {H' : Hp} {s' : Shared}, Inv (X.blk sd Hd sc ce fp) [] σ' H' s' → (∀ b ∈ fp, H' b = none) → ∀ b ∈ fp, FpOk (X.blk sd Hd sc ce fp) [] H' b := fun {σ' H' s'} I' hn b hb =>
    ⟨hn b hb, (I'.ok.exf b hb).1, I'.ok.exfs b hb, .inl hb, fun x c e => (I'.ok.exf b hb).2 x c e, fun p hp => absurd (show p ∈ ([] : List (Addr × Obj)) ++ [] from hp) (by simp)⟩
  let Post : Result → Shared → Prop := compPost (model X.prog X.w) X.A X.xe none (EP X pins σ Q) (.ref D) sd.heap.objs.size
  have loop : codeAny (model X.prog X.w) X.A (.compLoop (.SetComp elt [⟨tg, iter, ifs, 0⟩] sc pos) 0 (.ref it) (.ref D) ce) Post se := by
    refine PpSet.compLoopS_any (fun n s' => ∃ i H', Inv (X.blk sd Hd sc ce fp) [] (wipe σ (own.map (·.2))) H' s' ∧ tn i s'.heap ∧ (∀ b ∈ fp, H' b = none) ∧ W i n H') ?_ m0 ⟨0, Hd, Ie, ste, nfp, w0⟩
    rintro n s5 ⟨i, H5, I5, st5, n5, w5⟩
    rcases turn i n H5 w5 with ⟨stop, qq⟩ | ⟨go, Nx, hNx, step⟩
    · refine thnF (T.done (X.blk sd Hd sc ce fp) rfl rfl rfl hc i [] s5 _ H5 (fun _ _ => False) I5 (stat I5 n5) st5 stop) fun r s6 z => ?_
      obtain ⟨rfl, I6⟩ := z
      have I7 : Inv X pins σ H5 s6 := Id.call' (ch := fp) I6.os I6.base I6.hok I6.bare fun b hb => ⟨(fpd b hb).1.2.2.2.1, (fpd b hb).1.2.1, (fpd b hb).1.2.2.2.2.1, (fpd b hb).1.2.2.2.2.2⟩
      have nC : H5 sd.heap.objs.size = none := cL ▸ I6.free
      obtain ⟨m, hn, _⟩ := I6.loc
      have hn2 : s6.heap.Ns ce.locals m := hn
      rw [cL] at hn2
      obtain ⟨f0, f1, f2, f3, f4, f5⟩ := Id.fpOk (Nat.le_refl _) nC
      refine ⟨m, hn2, fun h'' sb' => ?_⟩
      exact ⟨.ref D, H5, I7.turned (t' := s6.toks) (fun b o hb e => (sb'.2 b hb).trans e) f0 f1 f3 f4 f5, rfl, qq⟩
    · refine thnF (T.item (X.blk sd Hd sc ce fp) rfl rfl rfl hc i [] s5 _ H5 (fun _ _ => False) I5 (stat I5 n5) st5 go) fun r s6 z => ?_
      obtain ⟨u, rfl, h6⟩ := z
      refine thnF h6 fun _ s7 z => ?_
      obtain ⟨x, H7, I7, r7, y7, st7, n7⟩ := z
      refine thnF (pg.run _ s7 _ H7 x u _ (I7.pinned (stat I7 n7) (T.obj _ _ st7)) r7 (step x H7 y7)) fun _ s8 z => ?_
      obtain ⟨σ8, H8, I8, hw8, q8⟩ := z
      refine thnF (pt.run _ s8 σ8 H8 _ I8 q8) fun b s9 z => ?_
      obtain ⟨H9, I9, q9⟩ := z
      have next : ∀ {s' : Shared} {H' : Hp}, Inv (X.blk sd Hd sc ce fp) ([] ++ pinsAt fp s7.heap) σ8 H' s' → Nx H' → ∃ m, m < n ∧ ∃ i H', Inv (X.blk sd Hd sc ce fp) [] (wipe σ (own.map (·.2))) H' s' ∧ tn i s'.heap ∧ (∀ b ∈ fp, H' b = none) ∧ W i m H' := fun {s' H'} I' nx => by
        obtain ⟨m', hm, w'⟩ := hNx H' nx
        have pin : ∀ b ∈ fp, ∀ o, s7.heap.get? b = some o → s'.heap.get? b = some o ∧ H' b = none := fun b hb o e =>
          let z := I'.pin (b, o) (List.mem_append_right _ (List.mem_append_right _ (mem_pinsAt hb e)))
          ⟨z.1, z.2.1⟩
        refine ⟨m', hm, i + 1, H', (I'.unpinned (pins := [])).weak (by rw [← hw8, wipe_length]) (fun j v e => ?_), T.keep _ _ _ st7 fun b hb o e => (pin b hb o e).1, fun b hb => ?_, w'⟩
        · rw [← hw8] at e
          exact (wipe_some e).1
        · obtain ⟨o, e, _⟩ := T.obj _ _ st7 b hb
          exact (pin b hb o e).2
      cases b with
      | false =>
        simp only [Bool.false_eq_true, if_false] at q9 ⊢
        exact next I9 q9
      | true =>
        simp only [if_true] at q9 ⊢
        refine thnF (pe.run _ s9 σ8 H9 _ I9 q9) fun z s10 zz => ?_
        obtain ⟨yv, H10, I10, r10, ci, Si, ni, rfl, hD10, hz10, nx⟩ := zz
        have add := mt_sadd (X := X.blk sd Hd sc ce fp) _ s10 σ8 H10 (.ref D) [.int ci] (.ref D) [z] (fun v H' => v = .non ∧ Nx H') I10 rfl (.cons r10 .nil) ⟨D, ci, Si, ni, rfl, rfl, hD10, hz10, rfl, nx⟩
        refine thnF add fun v s11 zz => ?_
        obtain ⟨v2, H11, I11, _, _, nx2⟩ := zz
        exact next I11 nx2
  have go := PpSet.codeAny_compStart_set loop (T.self X.A 0 _ _ _ ste loop)
  rw [← hse, ← hce, ← hcl] at go
  exact go
end
end My

/-! == and != of an instance and any value; values of built-in types. -/
namespace My
open PySem PySem.Spec PyProof.Rows L2
theorem fnR_or {P : Program} {w : World} {K : Fg} {mg : Str → Option Value} {base : Heap} {CX : CXT} {n : Nat} {g : Addr} {sp sq : Sp} (F : FnR P w K mg base CX n g sp) (G : FnR P w K mg base CX n g sq) :
    FnR P w K mg base CX n g (fun vs H Q E => sp vs H Q E ∨ sq vs H Q E) := fun A outer s H us vs Q E hr e0 r h => h.elim (F A outer s H us vs Q E hr e0 r) (G A outer s H us vs Q E hr e0 r)
section
variable {X : Cx} {CX : CXT} {n : Nat} {C g : Addr} {sp : Sp} {E : XK}
/-- x == y, x an instance, y any value -/
def rOwnV (K : PySem.W.Frag) (C : Addr) (sp : Sp) (E : XK) : R2 := fun x y H Q => ∃ a dx fs t, x = .ref a ∧ H a = some (.ins C dx fs) ∧ TyX K H y t ∧ PySem.W.notFirst K C t = true ∧ sp [x, y] H Q E
theorem op_ownV {op : CmpOp} (hop : ∀ a b, compareOp op a b = richCompare op a b) (hs : PySem.W.findIn X.K (.ref C) (cmpInfo op).2.1 = some (some (.ref g)))
    (hf : PySem.W.isFn X.K (.ref g) = true) (F : FnR X.prog X.w X.K X.mg X.base CX n g sp) (hr : Room n X.A) (hx : Passes CX X E) : OpR X (compareOp op) (rOwnV X.K C sp E) := by
  intro pins s σ H x y v u Q I rx ry h
  obtain ⟨a, dx, fs, t, rfl, ha, ht, hn, q⟩ := h
  obtain rfl : v = Value.ref a := rx
  obtain ⟨od, J⟩ := inst_of I ha
  obtain ⟨m, hF⟩ := I.fr
  obtain ⟨Pk, kx, pk, _⟩ := kit_of I ry ht
  rw [hop]
  refine PySem.W.cmp_K (op := op) (tb := t) hr.units0 hF I.ok.mod.kin J (kx.ty _ _ I.kIn pk) hn hs hf ?_
  have vs2 : Vals [V.ref a, y] [Value.ref a, u] := .cons rfl (.cons ry .nil)
  refine thn (wpAny_call (run_fnR F hr hx I vs2 q)) fun w s' z => ?_
  obtain ⟨z', H', I', rz, qz⟩ := z
  exact SlX.cmpback rz ⟨z', H', I', rz, qz⟩
/-- x != y, x an instance, y any value -/
def rNeV (K : PySem.W.Frag) (C : Addr) (sp : Sp) (E : XK) : R2 := fun x y H Q => rOwnV K C sp E x y H fun z H' => ∃ c : Bool, z = .bl c ∧ Q (.bl (!c)) H'
theorem op_neV (hm : PySem.W.mroIn X.K C (.type "object") = some true) (hne : PySem.W.findIn X.K (.ref C) "__ne__" = some (some (.builtin "object.__ne__")))
    (hs : PySem.W.findIn X.K (.ref C) "__eq__" = some (some (.ref g))) (hf : PySem.W.isFn X.K (.ref g) = true) (F : FnR X.prog X.w X.K X.mg X.base CX n g sp) (hr : Room (n + 1) X.A) (hx : Passes CX X E) :
    OpR X (compareOp .NotEq) (rNeV X.K C sp E) := by
  intro pins s σ H x y v u Q I rx ry h
  obtain ⟨a, dx, fs, t, rfl, ha, ht, hn, q⟩ := h
  obtain rfl : v = Value.ref a := rx
  obtain ⟨od, J⟩ := inst_of I ha
  obtain ⟨Pk, kx, pk, _⟩ := kit_of I ry ht
  refine ne_K (tb := t) (by have := hr.in1.units0; exact this) I.kIn J (kx.ty _ _ I.kIn pk) hn hm hne hs hf ?_
  have vs2 : Vals [V.ref a, y] [Value.ref a, u] := .cons rfl (.cons ry .nil)
  refine wpAny_mono (wpAny_call (SlX.run_at F hr.in1 I.env0.in1 hx I vs2 q)) (fun w s' z => ?_) fun _ _ e => e
  obtain ⟨z', H', I', rz, c, rfl, qz⟩ := z
  obtain rfl : w = Value.bool c := rz
  exact ⟨c, rfl, .bl (!c), H', I', rfl, qz⟩
end
/-- built-in types of values -/
def tys : List String := ["NoneType", "bool", "int", "str", "list", "tuple", "dict"]
/-- a value of such a type -/
def Odd (K : Fg) (H : Hp) (v : V) : Prop := ∃ T ∈ tys, TyX K H v (.type T)
/-- .. that is no int -/
def NotInt (K : Fg) (H : Hp) (v : V) : Prop := ∃ T ∈ tys, T ≠ "int" ∧ TyX K H v (.type T)
section
variable {K : Fg} {H : Hp}
theorem odd_non : Odd K H .non := ⟨"NoneType", by decide, .base .non⟩
theorem odd_bl (b : Bool) : Odd K H (.bl b) := ⟨"bool", by decide, .base (.bl b)⟩
theorem odd_int (i : Int) : Odd K H (.int i) := ⟨"int", by decide, .base (.int i)⟩
theorem odd_str (x : Str) : Odd K H (.str x) := ⟨"str", by decide, .base (.str x)⟩
theorem odd_lst {a : Addr} {xs : List V} (h : H a = some (.lst xs)) : Odd K H (.ref a) := ⟨"list", by decide, .base (.lst h)⟩
theorem odd_tup {a : Addr} {xs : List V} (h : H a = some (.tup xs)) : Odd K H (.ref a) := ⟨"tuple", by decide, .base (.tup h)⟩
theorem odd_dict {a : Addr} {kvs : List (Key × V)} (h : H a = some (.dK kvs)) : Odd K H (.ref a) := ⟨"dict", by decide, .base (.dK h)⟩
theorem ni_non : NotInt K H .non := ⟨"NoneType", by decide, by decide, .base .non⟩
theorem ni_bl (b : Bool) : NotInt K H (.bl b) := ⟨"bool", by decide, by decide, .base (.bl b)⟩
theorem ni_str (x : Str) : NotInt K H (.str x) := ⟨"str", by decide, by decide, .base (.str x)⟩
theorem ni_lst {a : Addr} {xs : List V} (h : H a = some (.lst xs)) : NotInt K H (.ref a) := ⟨"list", by decide, by decide, .base (.lst h)⟩
theorem ni_tup {a : Addr} {xs : List V} (h : H a = some (.tup xs)) : NotInt K H (.ref a) := ⟨"tuple", by decide, by decide, .base (.tup h)⟩
theorem ni_dict {a : Addr} {kvs : List (Key × V)} (h : H a = some (.dK kvs)) : NotInt K H (.ref a) := ⟨"dict", by decide, by decide, .base (.dK h)⟩
theorem NotInt.odd {v : V} (h : NotInt K H v) : Odd K H v := by
  obtain ⟨T, h1, _, h2⟩ := h
  exact ⟨T, h1, h2⟩
end
/-- none of these types is the class D, and none goes ahead of the class C -/
def othB (C D : Str) (K : Fg) : Bool := tys.all fun T => decide (PySem.W.kitOne K (.type T) (.ref (He.ga K D)) = some false) && PySem.W.notFirst K (He.ga K C) (.type T)
theorem othB_ok {C D : Str} {K : Fg} (h : othB C D K = true) : ∀ T ∈ tys, PySem.W.kitOne K (.type T) (.ref (He.ga K D)) = some false ∧ PySem.W.notFirst K (He.ga K C) (.type T) = true := fun T hT => by
  have := List.all_eq_true.mp h T hT
  exact ⟨of_decide_eq_true (He.ba this).1, (He.ba this).2⟩
end My

/-! repr tells data apart: ints, the words by and to, tuples and lists of such. -/
namespace My
open PySem PySem.Spec PyProof.Rows L2 PySem.PyData
/-- the text, sign by sign -/
abbrev sg (d : PyData) : List Nat := TL.tl d.shown
inductive Tld : PyData → Prop
  | int (i : Int) : Tld (.int i)
  | by_ : Tld (.str "by")
  | to_ : Tld (.str "to")
  | tup {ds : List PyData} : (∀ d ∈ ds, Tld d) → Tld (.tuple ds)
  | lst {ds : List PyData} : (∀ d ∈ ds, Tld d) → Tld (.list ds)
/-- a figure or a minus -/
def Fig (c : Nat) : Prop := c = 45 ∨ (48 ≤ c ∧ c ≤ 57)
def NoFig : List Nat → Prop
  | [] => True
  | c :: _ => ¬ Fig c
theorem figs_cut : ∀ {a b x y : List Nat}, (∀ c ∈ a, Fig c) → (∀ c ∈ b, Fig c) → NoFig x → NoFig y → a ++ x = b ++ y → a = b ∧ x = y
  | [], [], x, y, _, _, _, _, h => ⟨rfl, h⟩
  | [], c :: b, x, y, _, hb, hx, _, h => by
    rw [List.nil_append] at h
    rw [h] at hx
    exact absurd (hb c List.mem_cons_self) hx
  | c :: a, [], x, y, ha, _, _, hy, h => by
    rw [List.nil_append] at h
    rw [← h] at hy
    exact absurd (ha c List.mem_cons_self) hy
  | c :: a, d :: b, x, y, ha, hb, hx, hy, h => by
    obtain ⟨h1, h2⟩ := List.cons.inj h
    obtain ⟨h3, h4⟩ := figs_cut (fun e he => ha e (List.mem_cons_of_mem _ he)) (fun e he => hb e (List.mem_cons_of_mem _ he)) hx hy h2
    exact ⟨by rw [h1, h3], h4⟩
theorem digit_fig {n : Nat} : ∀ c ∈ (Nat.toDigits 10 n).map Char.toNat, 48 ≤ c ∧ c ≤ 57 := fun c hc => by
  obtain ⟨d, hd, rfl⟩ := List.mem_map.mp hc
  have h := Nat.isDigit_of_mem_toDigits (by decide) (by decide) hd
  simp only [Char.isDigit, Bool.and_eq_true, decide_eq_true_eq] at h
  exact ⟨h.1, h.2⟩
theorem repr_list (n : Nat) : (Nat.repr n).toList = Nat.toDigits 10 n := by
  unfold Nat.repr
  rw [String.toList_ofList]
theorem sg_nat (n : Nat) : sg (.int (n : Int)) = (Nat.toDigits 10 n).map Char.toNat := by
  unfold sg
  rw [shown_int, TL.tl_ofString, show (toString (n : Int)) = Nat.repr n from rfl, repr_list]
theorem sg_neg (n : Nat) : sg (.int (Int.negSucc n)) = 45 :: (Nat.toDigits 10 (n + 1)).map Char.toNat := by
  unfold sg
  rw [shown_int, TL.tl_ofString, show (toString (Int.negSucc n)) = "-" ++ Nat.repr (n + 1) from rfl, String.toList_append, List.map_append, repr_list]
  rfl
theorem mapNat_inj : ∀ {a b : List Char}, a.map Char.toNat = b.map Char.toNat → a = b
  | [], [], _ => rfl
  | [], _ :: _, h => by cases h
  | _ :: _, [], h => by cases h
  | x :: a, y :: b, h => by
    obtain ⟨h1, h2⟩ := List.cons.inj h
    rw [Char.toNat_inj.mp h1, mapNat_inj h2]
theorem digits_inj {m n : Nat} (h : (Nat.toDigits 10 m).map Char.toNat = (Nat.toDigits 10 n).map Char.toNat) : m = n := by
  have h2 : Nat.toDigits 10 m = Nat.toDigits 10 n := mapNat_inj h
  have h3 := congrArg (fun l => Nat.ofDigitChars 10 l 0) h2
  simp only [Nat.ofDigitChars_toDigits (by decide : 1 < 10) (by decide : 10 ≤ 10)] at h3
  exact h3
theorem sg_int_fig (i : Int) : ∀ c ∈ sg (.int i), Fig c := by
  cases i with
  | ofNat n =>
    intro c hc
    rw [show Int.ofNat n = (n : Int) from rfl, sg_nat] at hc
    exact .inr (digit_fig c hc)
  | negSucc n =>
    intro c hc
    rw [sg_neg] at hc
    rcases List.mem_cons.mp hc with h | h
    · exact .inl h
    · exact .inr (digit_fig c h)
theorem sg_int_inj {i j : Int} (h : sg (.int i) = sg (.int j)) : i = j := by
  cases i with
  | ofNat m =>
    cases j with
    | ofNat n =>
      rw [show Int.ofNat m = (m : Int) from rfl, show Int.ofNat n = (n : Int) from rfl, sg_nat, sg_nat] at h
      rw [digits_inj h]
    | negSucc n =>
      rw [show Int.ofNat m = (m : Int) from rfl, sg_nat, sg_neg] at h
      have := digit_fig (n := m) 45 (by rw [h]; exact List.mem_cons_self)
      omega
  | negSucc m =>
    cases j with
    | ofNat n =>
      rw [show Int.ofNat n = (n : Int) from rfl, sg_nat, sg_neg] at h
      have := digit_fig (n := n) 45 (by rw [← h]; exact List.mem_cons_self)
      omega
    | negSucc n =>
      rw [sg_neg, sg_neg] at h
      have := digits_inj (List.cons.inj h).2
      rw [show m = n by omega]
theorem sg_int_head (i : Int) : ∃ c r, sg (.int i) = c :: r ∧ Fig c := by
  cases e : sg (.int i) with
  | nil =>
    exfalso
    cases i with
    | ofNat n =>
      rw [show Int.ofNat n = (n : Int) from rfl, sg_nat] at e
      have : (Nat.toDigits 10 n).length = 0 := by rw [← List.length_map (f := Char.toNat), e]; rfl
      have := Nat.length_toDigits_pos (b := 10) (n := n)
      omega
    | negSucc n =>
      rw [sg_neg] at e
      cases e
  | cons c r => exact ⟨c, r, rfl, sg_int_fig i c (by rw [e]; exact List.mem_cons_self)⟩
theorem sg_by : sg (.str "by") = [39, 98, 121, 39] := by
  unfold sg
  rw [shown_str]
  decide +kernel
theorem sg_to : sg (.str "to") = [39, 116, 111, 39] := by
  unfold sg
  rw [shown_str]
  decide +kernel
/-- what stands behind the first item -/
def tailT (c : List Nat) : List PyData → List Nat
  | [] => c
  | d :: r => 44 :: 32 :: (sg d ++ tailT c r)
theorem join_tail : ∀ (d : PyData) (r : List PyData), TL.tl (Str.join ", " (shownAll (d :: r))) = sg d ++ tailT [] r
  | d, [] => by
    rw [shownAll_cons, shownAll_nil]
    show TL.tl d.shown = _
    unfold tailT
    rw [List.append_nil]
  | d, e :: r => by
    have ih := join_tail e r
    rw [shownAll_cons] at ih ⊢
    show TL.tl (d.shown ++ (", " : Str) ++ Str.join ", " (shownAll (e :: r))) = _
    rw [TL.tl_append, TL.tl_append, shownAll_cons, ih, show TL.tl (", " : Str) = [44, 32] by decide +kernel, List.append_assoc]
    rfl
theorem tail_end (c : List Nat) : ∀ r : List PyData, tailT [] r ++ c = tailT c r
  | [] => rfl
  | d :: r => by
    show 44 :: 32 :: (sg d ++ tailT [] r) ++ c = 44 :: 32 :: (sg d ++ tailT c r)
    rw [← tail_end c r]
    simp
def clo : List PyData → List Nat
  | [] => [44, 41]
  | _ => [41]
theorem sg_tup_nil : sg (.tuple []) = [40, 41] := by
  unfold sg
  rw [shown_tuple, shownAll_nil]
  decide +kernel
theorem sg_lst_nil : sg (.list []) = [91, 93] := by
  unfold sg
  rw [shown_list, shownAll_nil]
  decide +kernel
theorem sg_tup (d : PyData) (r : List PyData) : sg (.tuple (d :: r)) = 40 :: (sg d ++ tailT (clo r) r) := by
  unfold sg
  rw [shown_tuple, TL.tl_append, TL.tl_append, join_tail, show TL.tl ("(" : Str) = [40] by decide +kernel, List.append_assoc, List.append_assoc]
  cases r with
  | nil =>
    have : (([d] : List PyData).length == 1) = true := rfl
    rw [this, tail_end, show TL.tl ((if true = true then ",)" else ")" : String) : Str) = [44, 41] by decide +kernel]
    rfl
  | cons e r =>
    have : ((d :: e :: r).length == 1) = false := by simp
    rw [this, tail_end, show TL.tl ((if false = true then ",)" else ")" : String) : Str) = [41] by decide +kernel]
    rfl
theorem sg_lst (d : PyData) (r : List PyData) : sg (.list (d :: r)) = 91 :: (sg d ++ tailT [93] r) := by
  unfold sg
  rw [shown_list, TL.tl_append, TL.tl_append, join_tail, show TL.tl ("[" : Str) = [91] by decide +kernel, show TL.tl ("]" : Str) = [93] by decide +kernel, List.append_assoc, List.append_assoc, tail_end]
  rfl
/-- the first sign of a text -/
theorem tld_head {d : PyData} (h : Tld d) : ∃ c r, sg d = c :: r ∧ ((∃ i, d = .int i) ∧ Fig c ∨ ((d = .str "by" ∨ d = .str "to") ∧ c = 39) ∨ ((∃ ds, d = .tuple ds ∧ ∀ e ∈ ds, Tld e) ∧ c = 40) ∨ ((∃ ds, d = .list ds ∧ ∀ e ∈ ds, Tld e) ∧ c = 91)) := by
  cases h with
  | int i =>
    obtain ⟨c, r, h1, h2⟩ := sg_int_head i
    exact ⟨c, r, h1, .inl ⟨⟨i, rfl⟩, h2⟩⟩
  | by_ => exact ⟨39, _, sg_by, .inr (.inl ⟨.inl rfl, rfl⟩)⟩
  | to_ => exact ⟨39, _, sg_to, .inr (.inl ⟨.inr rfl, rfl⟩)⟩
  | @tup ds hd =>
    cases ds with
    | nil => exact ⟨40, _, sg_tup_nil, .inr (.inr (.inl ⟨⟨_, rfl, hd⟩, rfl⟩))⟩
    | cons d r => exact ⟨40, _, sg_tup d r, .inr (.inr (.inl ⟨⟨_, rfl, hd⟩, rfl⟩))⟩
  | @lst ds hd =>
    cases ds with
    | nil => exact ⟨91, _, sg_lst_nil, .inr (.inr (.inr ⟨⟨_, rfl, hd⟩, rfl⟩))⟩
    | cons d r => exact ⟨91, _, sg_lst d r, .inr (.inr (.inr ⟨⟨_, rfl, hd⟩, rfl⟩))⟩
/-- the signs behind an item: a comma or a bracket, or none -/
def Stp : List Nat → Prop
  | [] => True
  | c :: _ => c = 44 ∨ c = 41 ∨ c = 93
theorem Stp.noFig {x : List Nat} (h : Stp x) : NoFig x := by
  cases x with
  | nil => trivial
  | cons c r =>
    intro z
    have h2 : c = 44 ∨ c = 41 ∨ c = 93 := h
    unfold Fig at z
    omega
def Cut (d : PyData) : Prop := ∀ e : PyData, Tld e → ∀ x y : List Nat, Stp x → Stp y → sg d ++ x = sg e ++ y → d = e ∧ x = y
theorem stp_tail {c : List Nat} (hc : ∃ k l, c = k :: l ∧ (k = 44 ∨ k = 41 ∨ k = 93)) (r : List PyData) (x : List Nat) : Stp (tailT c r ++ x) := by
  cases r with
  | nil =>
    obtain ⟨k, l, rfl, hk⟩ := hc
    exact hk
  | cons d r => exact .inl rfl
/-- closers -/
def Clo (c : List Nat) : Prop := c = [44, 41] ∨ c = [41] ∨ c = [93]
theorem Clo.ex {c : List Nat} (h : Clo c) : ∃ k l, c = k :: l ∧ (k = 44 ∨ k = 41 ∨ k = 93) := by
  rcases h with rfl | rfl | rfl
  · exact ⟨_, _, rfl, .inl rfl⟩
  · exact ⟨_, _, rfl, .inr (.inl rfl)⟩
  · exact ⟨_, _, rfl, .inr (.inr rfl)⟩
theorem tail_cut : ∀ {r q : List PyData} {c c' x y : List Nat}, (∀ d ∈ r, Cut d) → (∀ e ∈ q, Tld e) → Clo c → Clo c' → tailT c r ++ x = tailT c' q ++ y → r = q ∧ c ++ x = c' ++ y
  | [], [], c, c', x, y, _, _, _, _, h => ⟨rfl, h⟩
  | [], e :: q, c, c', x, y, _, _, hc, _, h => by
    exfalso
    rcases hc with rfl | rfl | rfl
    · have := (List.cons.inj (List.cons.inj h).2).1
      exact absurd this (by decide)
    · exact absurd (List.cons.inj h).1 (by decide)
    · exact absurd (List.cons.inj h).1 (by decide)
  | d :: r, [], c, c', x, y, _, _, _, hc', h => by
    exfalso
    rcases hc' with rfl | rfl | rfl
    · have := (List.cons.inj (List.cons.inj h).2).1
      exact absurd this (by decide)
    · exact absurd (List.cons.inj h).1 (by decide)
    · exact absurd (List.cons.inj h).1 (by decide)
  | d :: r, e :: q, c, c', x, y, hr, hq, hc, hc', h => by
    have h2 : sg d ++ (tailT c r ++ x) = sg e ++ (tailT c' q ++ y) := by
      have h9 : (sg d ++ tailT c r) ++ x = (sg e ++ tailT c' q) ++ y := (List.cons.inj (List.cons.inj h).2).2
      rw [List.append_assoc, List.append_assoc] at h9
      exact h9
    obtain ⟨rfl, h3⟩ := hr d List.mem_cons_self e (hq e List.mem_cons_self) _ _ (stp_tail hc.ex r x) (stp_tail hc'.ex q y) h2
    obtain ⟨rfl, h4⟩ := tail_cut (fun d hd => hr d (List.mem_cons_of_mem _ hd)) (fun d hd => hq d (List.mem_cons_of_mem _ hd)) hc hc' h3
    exact ⟨rfl, h4⟩
theorem clo_ok (r : List PyData) : Clo (clo r) := by
  cases r
  · exact .inl rfl
  · exact .inr (.inl rfl)
theorem tld_cut {d : PyData} (h : Tld d) : Cut d := by
  induction h with
  | int i =>
    intro e he x y hx hy h
    obtain ⟨c, r, h1, h2⟩ := tld_head he
    obtain ⟨c0, r0, h3, h4⟩ := sg_int_head i
    have hc : c0 = c := by
      rw [h1, h3] at h
      exact (List.cons.inj h).1
    rcases h2 with ⟨⟨j, rfl⟩, _⟩ | ⟨_, e3⟩ | ⟨_, e3⟩ | ⟨_, e3⟩
    · obtain ⟨h5, h6⟩ := figs_cut (sg_int_fig i) (sg_int_fig j) hx.noFig hy.noFig h
      rw [sg_int_inj h5]
      exact ⟨rfl, h6⟩
    all_goals
      unfold Fig at h4
      omega
  | by_ =>
    intro e he x y hx hy h
    obtain ⟨c, r, h1, h2⟩ := tld_head he
    have hc : 39 = c := by
      rw [h1, sg_by] at h
      exact (List.cons.inj h).1
    rcases h2 with ⟨_, f⟩ | ⟨rfl | rfl, _⟩ | ⟨_, e3⟩ | ⟨_, e3⟩
    · unfold Fig at f
      omega
    · rw [sg_by] at h
      exact ⟨rfl, List.append_cancel_left h⟩
    · rw [sg_by, sg_to] at h
      exact absurd (List.cons.inj (List.cons.inj h).2).1 (by decide)
    all_goals omega
  | to_ =>
    intro e he x y hx hy h
    obtain ⟨c, r, h1, h2⟩ := tld_head he
    have hc : 39 = c := by
      rw [h1, sg_to] at h
      exact (List.cons.inj h).1
    rcases h2 with ⟨_, f⟩ | ⟨rfl | rfl, _⟩ | ⟨_, e3⟩ | ⟨_, e3⟩
    · unfold Fig at f
      omega
    · rw [sg_by, sg_to] at h
      exact absurd (List.cons.inj (List.cons.inj h).2).1 (by decide)
    · rw [sg_to] at h
      exact ⟨rfl, List.append_cancel_left h⟩
    all_goals omega
  | @tup ds hd ih =>
    intro e he x y hx hy h
    obtain ⟨c, r, h1, h2⟩ := tld_head he
    have hc : 40 = c := by
      rw [h1] at h
      cases ds with
      | nil => rw [sg_tup_nil] at h; exact (List.cons.inj h).1
      | cons d q => rw [sg_tup] at h; exact (List.cons.inj h).1
    rcases h2 with ⟨_, f⟩ | ⟨_, e3⟩ | ⟨⟨es, rfl, hes⟩, _⟩ | ⟨_, e3⟩
    · unfold Fig at f
      omega
    · omega
    · cases ds with
      | nil =>
        cases es with
        | nil => exact ⟨rfl, List.append_cancel_left h⟩
        | cons e q =>
          exfalso
          rw [sg_tup_nil, sg_tup] at h
          obtain ⟨c2, r2, g1, g2⟩ := tld_head (hes e List.mem_cons_self)
          rw [g1] at h
          have := (List.cons.inj (List.cons.inj h).2).1
          rcases g2 with ⟨_, f⟩ | ⟨_, f⟩ | ⟨_, f⟩ | ⟨_, f⟩
          · unfold Fig at f
            omega
          all_goals omega
      | cons d r =>
        cases es with
        | nil =>
          exfalso
          rw [sg_tup_nil, sg_tup] at h
          obtain ⟨c2, r2, g1, g2⟩ := tld_head (hd d List.mem_cons_self)
          rw [g1] at h
          have := (List.cons.inj (List.cons.inj h).2).1
          rcases g2 with ⟨_, f⟩ | ⟨_, f⟩ | ⟨_, f⟩ | ⟨_, f⟩
          · unfold Fig at f
            omega
          all_goals omega
        | cons e q =>
          rw [sg_tup, sg_tup] at h
          have h3 : sg d ++ (tailT (clo r) r ++ x) = sg e ++ (tailT (clo q) q ++ y) := by
            have h9 : (sg d ++ tailT (clo r) r) ++ x = (sg e ++ tailT (clo q) q) ++ y := (List.cons.inj h).2
            rw [List.append_assoc, List.append_assoc] at h9
            exact h9
          obtain ⟨rfl, h4⟩ := ih d List.mem_cons_self e (hes e List.mem_cons_self) _ _ (stp_tail (clo_ok r).ex r x) (stp_tail (clo_ok q).ex q y) h3
          obtain ⟨rfl, h5⟩ := tail_cut (fun z hz => ih z (List.mem_cons_of_mem _ hz)) (fun z hz => hes z (List.mem_cons_of_mem _ hz)) (clo_ok r) (clo_ok q) h4
          exact ⟨rfl, List.append_cancel_left h5⟩
    · omega
  | @lst ds hd ih =>
    intro e he x y hx hy h
    obtain ⟨c, r, h1, h2⟩ := tld_head he
    have hc : 91 = c := by
      rw [h1] at h
      cases ds with
      | nil => rw [sg_lst_nil] at h; exact (List.cons.inj h).1
      | cons d q => rw [sg_lst] at h; exact (List.cons.inj h).1
    rcases h2 with ⟨_, f⟩ | ⟨_, e3⟩ | ⟨_, e3⟩ | ⟨⟨es, rfl, hes⟩, _⟩
    · unfold Fig at f
      omega
    · omega
    · omega
    · cases ds with
      | nil =>
        cases es with
        | nil => exact ⟨rfl, List.append_cancel_left h⟩
        | cons e q =>
          exfalso
          rw [sg_lst_nil, sg_lst] at h
          obtain ⟨c2, r2, g1, g2⟩ := tld_head (hes e List.mem_cons_self)
          rw [g1] at h
          have := (List.cons.inj (List.cons.inj h).2).1
          rcases g2 with ⟨_, f⟩ | ⟨_, f⟩ | ⟨_, f⟩ | ⟨_, f⟩
          · unfold Fig at f
            omega
          all_goals omega
      | cons d r =>
        cases es with
        | nil =>
          exfalso
          rw [sg_lst_nil, sg_lst] at h
          obtain ⟨c2, r2, g1, g2⟩ := tld_head (hd d List.mem_cons_self)
          rw [g1] at h
          have := (List.cons.inj (List.cons.inj h).2).1
          rcases g2 with ⟨_, f⟩ | ⟨_, f⟩ | ⟨_, f⟩ | ⟨_, f⟩
          · unfold Fig at f
            omega
          all_goals omega
        | cons e q =>
          rw [sg_lst, sg_lst] at h
          have h3 : sg d ++ (tailT [93] r ++ x) = sg e ++ (tailT [93] q ++ y) := by
            have h9 : (sg d ++ tailT [93] r) ++ x = (sg e ++ tailT [93] q) ++ y := (List.cons.inj h).2
            rw [List.append_assoc, List.append_assoc] at h9
            exact h9
          obtain ⟨rfl, h4⟩ := ih d List.mem_cons_self e (hes e List.mem_cons_self) _ _ (stp_tail ⟨_, _, rfl, .inr (.inr rfl)⟩ r x) (stp_tail ⟨_, _, rfl, .inr (.inr rfl)⟩ q y) h3
          obtain ⟨rfl, h5⟩ := tail_cut (fun z hz => ih z (List.mem_cons_of_mem _ hz)) (fun z hz => hes z (List.mem_cons_of_mem _ hz)) (.inr (.inr rfl)) (.inr (.inr rfl)) h4
          exact ⟨rfl, List.append_cancel_left h5⟩
/-- equal texts, equal data -/
theorem shown_inj {d e : PyData} (hd : Tld d) (he : Tld e) (h : d.shown = e.shown) : d = e := by
  have := tld_cut hd e he [] [] trivial trivial (by rw [List.append_nil, List.append_nil]; exact congrArg TL.tl h)
  exact this.1
end My

/-! try .. except C as e: .., where what was caught is kept beyond the suite. -/
namespace My
open PySem PySem.Spec PyProof.Rows L2
/-- a caught exception at a, kept: its class, its dict -/
def ExK (cls : Value) (d : Option Addr) (a : Addr) : HO := .ext fun g => ∃ (o : Obj) (fv : Array Value), g.get? a = some o ∧ Zc cls d o ∧ o.data = .fields fv
theorem exK_ok {P : Program} {w : World} {H : Hp} {g : Heap} {a : Addr} {cls : Value} {d : Option Addr} {o : Obj} {fv : Array Value} (e : g.get? a = some o) (z : Zc cls d o) (q : o.data = .fields fv) : ObjOk P w H g a (ExK cls d a) :=
  ⟨⟨o, fv, e, z, q⟩, ⟨o, e⟩, fun _ _ ⟨o', v', e', r⟩ k => ⟨o', v', k o' e', r⟩⟩
theorem exK_at {P : Program} {w : World} {H : Hp} {g : Heap} {a : Addr} {cls : Value} {d : Option Addr} (ok : HOk P w H g) (e : H a = some (ExK cls d a)) : ∃ (o : Obj) (fv : Array Value), g.get? a = some o ∧ Zc cls d o ∧ o.data = .fields fv := by
  have z : ObjOk P w H g a (ExK cls d a) := ok a _ e
  exact z.1
section
variable {X : Cx} {pins : List (Addr × Obj)} {σ : L2.St} {H : Hp} {s : Shared}
/-- behind the suite the exception is tracked -/
theorem inv_track {a : Addr} {oe : Obj} {fv : Array Value} {cls : Value} {d : Option Addr} (S : Inv (X.suite a ((a, oe) :: (X.pn ++ pins))) [] σ H s) (ok : X.Ok) (z : Zc cls d oe) (hd : oe.data = .fields fv) (n0 : X.s_0.heap.get? a = none) (np : ∀ p ∈ X.pn ++ pins, p.1 ≠ a) :
    Inv X pins σ (upd H a (ExK cls d a)) s := by
  have J := S.unsuite ok
  obtain ⟨ea, na, nl, nf, _⟩ := S.pin (a, oe) (List.mem_append_left _ List.mem_cons_self)
  have off : ∀ {b : Addr}, b ≠ a → upd H a (ExK cls d a) b = H b := fun h => upd_ne h
  have tr : ∀ {b : Addr} {u : HO}, H b = some u → b ≠ a := fun {b u} e h => by
    rw [h, na] at e
    cases e
  refine ⟨ok, J.os, J.bare, ?_, J.loc, J.cell, ?_, ?_, ?_, HOk.laidN J.hok (fun _ _ e => e) na (exK_ok ea z hd), J.len⟩
  · have U := J.base
    refine ⟨U.keep, U.slot, fun b o e n hx => ?_, U.there, fun b xs e => ?_, fun b o u e => ?_, fun b ps e => ?_⟩
    · rw [off fun h => by rw [h, n0] at e; cases e]
      exact U.free b o e n hx
    · have q := U.tups b xs e
      rw [off (tr q)]
      exact q
    · have q := U.frzs b o u e
      rw [off (tr q)]
      exact q
    · obtain ⟨more, q⟩ := U.tbls b ps e
      exact ⟨more, by rw [off (tr q)]; exact q⟩
  · rw [off fun h => nl h.symm]
    exact J.free
  · intro y c e
    rw [off fun h => ?_]
    · exact J.freeC y c e
    · obtain ⟨v, oc, ho, hv⟩ := J.cell y c e
      rw [h] at ho
      have : oc = oe := Option.some.inj (ho.symm.trans ea)
      rw [this, hd] at hv
      cases hv
  · intro p hp
    obtain ⟨q1, q2, q3⟩ := J.pin p hp
    exact ⟨q1, by rw [off (np p hp)]; exact q2, q3⟩
/-- what was caught is new -/
theorem caught_new {B : Heap} {a : Addr} (J : Inv X pins σ H s) (hx : X.ex = []) (nb : ∀ b o, s.heap.get? b = some o → b ∉ frs X.stack → B.get? b = some o) (nB : B.get? a = none) (nf : a ∉ frs X.stack) : X.s_0.heap.get? a = none ∧ ∀ p ∈ X.pn ++ pins, p.1 ≠ a := by
  have no : ∀ o, s.heap.get? a ≠ some o := fun o e => by
    have := nb a o e nf
    rw [nB] at this
    cases this
  constructor
  · cases e : X.s_0.heap.get? a with
    | none => rfl
    | some o =>
      obtain ⟨o', q⟩ := J.base.there a o e (by rw [hx]; exact fun h => nomatch h)
      exact absurd q (no o')
  · intro p hp h
    have q := (J.pin p hp).1
    rw [h] at q
    exact no _ q
end
/-- what the clause wishes of an exception of the body; slot i is the clause's name, and the exception stays tracked -/
def wKp (K : PySem.W.Frag) (c : Value) (i : Nat) (ts : Addr → Value → Option Addr → TS) (Wo : WX) (D : Ends) : WX := fun cls d σ H =>
  ∃ b, PySem.W.exmOne K cls c = some b ∧ (b = false → Wo cls d σ H) ∧ (b = true → ∀ a, H a = none → ts a cls d
    { nx := fun τ G => D.nx (τ.set i none) (upd G a (ExK cls d a)), rt := fun v G => D.rt v (upd G a (ExK cls d a)), bk := fun τ G => D.bk (τ.set i none) (upd G a (ExK cls d a)), ct := fun τ G => D.ct (τ.set i none) (upd G a (ExK cls d a)) } (σ.set i (some (.ref a))) H)
section
variable {X : Cx} {x n : Str} {c : Value} {i : Nat} {body rest : List Stmt} {st : Stmt} {np pos pq : Pos} {tb : WX → TS} {ts : Addr → Value → Option Addr → TS} {Wo : WX} {pins : List (Addr × Obj)} {D : Ends}
/-- the clause's suite runs, its name goes, the exception stays -/
theorem kept_suite {σ : L2.St} {H : Hp} {s : Shared} {a : Addr} {oe : Obj} {fv : Array Value} {cls : Value} {d : Option Addr}
    (hN : X.N.Nodup) (hi : X.N[i]? = some n) (hln : X.env.kindOf n = some .local) (ok : X.Ok) (S : Inv (X.suite a ((a, oe) :: (X.pn ++ pins))) [] σ H s) (hz : Zc cls d oe) (hd : oe.data = .fields fv) (n0 : X.s_0.heap.get? a = none) (npn : ∀ p ∈ X.pn ++ pins, p.1 ≠ a)
    (hsu : PSs (X.suite a ((a, oe) :: (X.pn ++ pins))) (st :: rest) (ts a cls d))
    (hw : ts a cls d { nx := fun τ G => D.nx (τ.set i none) (upd G a (ExK cls d a)), rt := fun v G => D.rt v (upd G a (ExK cls d a)), bk := fun τ G => D.bk (τ.set i none) (upd G a (ExK cls d a)), ct := fun τ G => D.ct (τ.set i none) (upd G a (ExK cls d a)) } (σ.set i (some (.ref a))) H)
    {E1 : Value → Shared → Prop} {N : Value → Shared → Prop} :
    wpAny (model X.prog X.w) (X.A.mark (some (.ref a))) (storeName X.env n (.ref a)) (fun _ s2 => wpAny (model X.prog X.w) (X.A.mark (some (.ref a))) (execs (st :: rest) X.env)
      (fun f s3 => wpAny (model X.prog X.w) X.A (do bindName X.env n .none; unbindBehindTheSuite X.env n pq) (fun _ s4 => SP X pins D f s4) X.xe s3) E1 s2) N s := by
  refine store_ok (X := X.suite a ((a, oe) :: (X.pn ++ pins))) (v := .ref a) S hN hi (.inl hln) rfl (fun t T => ?_) (.inr hln)
  refine wpAny_mono (hsu.run [] t _ H _ T hw) (fun f t2 h => ?_) fun _ _ z => z.elim
  have out : ∀ {τ : L2.St} {G : Hp} {Q : Shared → Prop}, Inv (X.suite a ((a, oe) :: (X.pn ++ pins))) [] τ G t2 → (∀ t3, Inv X pins (τ.set i none) (upd G a (ExK cls d a)) t3 → Q t3) →
      wpAny (model X.prog X.w) X.A (do bindName X.env n .none; unbindBehindTheSuite X.env n pq) (fun _ t3 => Q t3) X.xe t2 := fun {τ G Q} T2 q =>
    gone_ok (X := X.suite a ((a, oe) :: (X.pn ++ pins))) T2 hN hi hln fun t3 T3 => q t3 (inv_track T3 ok hz hd n0 npn)
  match f, h with
  | .next, ⟨τ, G, T2, q⟩ => exact out T2 fun t3 J => ⟨_, _, J, q⟩
  | .brk, ⟨τ, G, T2, q⟩ => exact out T2 fun t3 J => ⟨_, _, J, q⟩
  | .cont, ⟨τ, G, T2, q⟩ => exact out T2 fun t3 J => ⟨_, _, J, q⟩
  | .ret u, ⟨v, τ, G, T2, r, q⟩ => exact out T2 fun t3 J => ⟨_, _, _, J, r, q⟩
/-- the exception of the body meets the clause -/
theorem kept_clause {σ : L2.St} {H : Hp} {sI t : Shared} {a : Addr} {B : Heap} {cls : Value} {d : Option Addr}
    (hs : X.stack = X.env :: X.outer) (hf : X.env.frame = some X.env.locals) (hx : X.ex = []) (hN : X.N.Nodup) (hi : X.N[i]? = some n) (hln : X.env.kindOf n = some .local) (hc : Names X x c) (tk : Takes X Wo)
    (hsu : ∀ (a : Addr) (oe : Obj) (cls : Value) (d : Option Addr) (pn : List (Addr × Obj)), Zc cls d oe → (∃ fv, oe.data = .fields fv) → PSs (X.suite a ((a, oe) :: pn)) (st :: rest) (ts a cls d))
    (J : Inv X pins σ H sI) (nb : ∀ b o, sI.heap.get? b = some o → b ∉ frs X.stack → B.get? b = some o) (up : sI.heap.UpToSlots t.heap) (fl : HandSPX.FlyingZ B (X.env :: X.outer) a (Zc cls d) t.heap) (na : H a = none) (os : t.os = sI.os) (ag : AllBare t.gens)
    (hw : wKp X.K c i ts Wo D cls d σ H) :
    wpAny (model X.prog X.w) X.A (handleBy (.ref a) X.env [.ExceptHandler (some (.Name x np)) (some n) (st :: rest) pq]) (SP X pins D) X.xe t := by
  have ok := J.ok
  have J1 : Inv X pins σ H t := J.landed nb fl.1 up os ag
  obtain ⟨o1, fv1, e1, z1, d1⟩ := fl.there
  have nfr : a ∉ frs (X.env :: X.outer) := fun hm => by
    obtain ⟨_, o2, e2, h2⟩ := fl.2.2.1.mem hm
    have : o1 = o2 := Option.some.inj (e1.symm.trans e2)
    exact h2 fv1 (this ▸ d1)
  have nL : a ≠ X.env.locals := fun z => nfr (List.mem_filterMap.mpr ⟨X.env, .head _, hf.trans (congrArg some z.symm)⟩)
  have nF : a ∉ X.fs := fun hm => by
    obtain ⟨en, h1, h2⟩ := List.mem_filterMap.mp hm
    exact nfr (List.mem_filterMap.mpr ⟨en, .tail _ h1, h2⟩)
  obtain ⟨n0, npn⟩ := caught_new J hx nb fl.2.1 (hs ▸ nfr)
  have S1 := J1.suite e1 d1 na nL nF
  obtain ⟨b, hb, hno, hyes⟩ := hw
  have hm := PySem.W.exm_one (M := model X.prog X.w) J1.kIn (fun A Q E s k q => wpAny_typeOf_ref (k _ _ e1) (by rw [z1.1]; exact q)) hb
  refine wpAny_handleBy_cons (codeAny_handlers_test ?_) (fun q => nomatch q)
  have look : ∀ {Q : Value → Shared → Prop} {E : Value → Shared → Prop}, Q c t → wpAny (model X.prog X.w) (X.A.mark (some (.ref a))) (eval (.Name x np) X.env) Q E t := fun {Q E} q =>
    match hc with
    | ⟨hg, hdb, .inl h⟩ => ld_glob (X := X.suite a ((a, o1) :: (X.pn ++ pins))) S1 hg h q hdb
    | ⟨hg, hdb, .inr ⟨h, hv, hn⟩⟩ => ld_blt (X := X.suite a ((a, o1) :: (X.pn ++ pins))) S1 hg h hv q hn hdb
  refine look (hm.here ?_)
  match b with
  | true =>
    refine codeAny_handlers_suite_as (HandSPX.lands_againZ fl fun h2 fl2 up2 => ?_)
    have J2 : Inv X pins σ H { t with heap := h2 } := J.landed nb fl2.1 (up.trans up2) os ag
    obtain ⟨o2, fv2, e2, z2, d2⟩ := fl2.there
    exact kept_suite hN hi hln ok (J2.suite e2 d2 na nL nF) z2 d2 n0 npn (hsu a o2 cls d _ z2 ⟨_, d2⟩) (hyes rfl a na)
  | false =>
    show wpAny _ X.A (handleBy (.ref a) X.env []) _ _ _
    refine wpAny_handleBy_nil ?_
    obtain ⟨_, _, _, o3, fv3, tb3, _, _, e3, _, d3, g3, _⟩ := id fl
    have fly : wpAny (model X.prog X.w) X.A (setFlight (.ref a) X.env.frame) (fun _ s4 => wpAny (model X.prog X.w) X.A (throw (.ref a) : Sem Flow) (SP X pins D) X.xe s4) X.xe t := by
      rw [hf]
      refine HandSPX.setFlight_upZ fl fun h2 hh up2 => wpAny_throw (tk _ _ ⟨a, B, sI, pins, σ, H, cls, d, rfl, J, nb, up.trans up2, .inr (.inr (by rw [hs]; exact hh)), na, os, ag, hno rfl⟩)
    unfold PySem.passOn
    refine wpAny_bind (wpAny_field e3 d3 g3 ?_)
    rw [if_neg (by simp : ¬ ((Value.ref tb3 == Value.none) = true))]
    first
      | exact wpAny_bind fly
      | exact wpAny_bind (wpAny_pure (wpAny_bind fly))
/-- try: body / except x as n: suite; the exception is kept -/
theorem ps_try_keep (hs : X.stack = X.env :: X.outer) (hf : X.env.frame = some X.env.locals) (hx : X.ex = []) (hN : X.N.Nodup) (hi : X.N[i]? = some n) (hln : X.env.kindOf n = some .local) (hc : Names X x c) (tk : Takes X Wo)
    (hb : ∀ (W : WX) (pn : List (Addr × Obj)) (xe : Value → Shared → Prop), Takes (X.tr pn xe) W → PassesOwn (model X.prog X.w) X.A X.env xe → PSs (X.tr pn xe) body (tb W))
    (hsu : ∀ (a : Addr) (oe : Obj) (cls : Value) (d : Option Addr) (pn : List (Addr × Obj)), Zc cls d oe → (∃ fv, oe.data = .fields fv) → PSs (X.suite a ((a, oe) :: pn)) (st :: rest) (ts a cls d)) :
    PS X (.Try body [.ExceptHandler (some (.Name x np)) (some n) (st :: rest) pq] [] [] pos) (fun D σ H => tb (wKp X.K c i ts Wo D) D σ H) := by
  refine ⟨fun pins s σ H D I h => wpAny_Try_except ?_⟩
  have ok := I.ok
  have tkB : Takes (X.tr (X.pn ++ pins) (fun e t => wpAny (model X.prog X.w) X.A (noteFrame e X.env) (fun _ t2 => wpAny (model X.prog X.w) X.A (setFlight e none)
      (fun _ t3 => wpAny (model X.prog X.w) X.A (handleBy e X.env [.ExceptHandler (some (.Name x np)) (some n) (st :: rest) pq]) (SP X pins D) X.xe t3) X.xe t2) X.xe t)) (wKp X.K c i ts Wo D) := by
    rintro u t ⟨a, B, sI, pins', τ, G, cls, d, rfl, J', nb, up, sky, na, os, ag, hw⟩
    have J : Inv X pins τ G sI := J'.ofTry ok
    refine Sky.land Zc.steady (by rw [ok.frames, hs]) hf (by rw [← hs]; exact sky) fun h2 fl up2 => ?_
    exact kept_clause hs hf hx hN hi hln hc tk hsu J nb (up.trans up2) fl na os ag hw
  refine wpAny_mono ((hb _ (X.pn ++ pins) _ tkB PassesOwn.looking).run [] s σ H D (I.toTry _) h) (fun f t q => ?_) fun _ _ q => q
  match f, q with
  | .next, ⟨τ, G, J, q⟩ => exact wpAny_execs_nil ⟨τ, G, J.ofTry ok, q⟩
  | .brk, ⟨τ, G, J, q⟩ => exact ⟨τ, G, J.ofTry ok, q⟩
  | .cont, ⟨τ, G, J, q⟩ => exact ⟨τ, G, J.ofTry ok, q⟩
  | .ret u, ⟨v, τ, G, J, r, q⟩ => exact ⟨v, τ, G, J.ofTry ok, r, q⟩
end
end My

/-! What is asked of a kept exception: its field, isinstance. -/
namespace My
open PySem PySem.Spec PyProof.Rows L2
/-- an exception with its own dict, kept at a -/
def KExc (H : Hp) (a C : Addr) (fs : List (Str × V)) : Prop := ∃ dd : Addr, H a = some (ExK (.ref C) (some dd) a) ∧ H dd = some (.xd fs)
theorem KExc.same {H H' : Hp} {a C : Addr} {fs : List (Str × V)} (h : KExc H a C fs) (s : Same H H') : KExc H' a C fs := by
  obtain ⟨dd, h1, h2⟩ := h
  exact ⟨dd, s _ _ h1, s _ _ h2⟩
section
variable {X : Cx} {pins : List (Addr × Obj)} {σ : L2.St} {H : Hp} {s : Shared}
theorem kexc_inst {a C : Addr} {fs : List (Str × V)} (I : Inv X pins σ H s) (h : KExc H a C fs) : ∃ (oe od : Obj) (mA : Str → Option Value), PySem.W.InstAt s.heap a oe C (some od) ∧ (∀ f, RelO (fs.lookup f) (mA f)) ∧ ∀ f, PySem.W.lookIn f od = some (mA f) := by
  obtain ⟨dd, h1, h2⟩ := h
  obtain ⟨oe, fv, ea, z, hd⟩ := exK_at I.hok h1
  have hx : ObjOk X.prog X.w H s.heap dd (.xd fs) := I.hok dd _ h2
  obtain ⟨mA, hns, hr⟩ := hx
  obtain ⟨od, ho, hl⟩ := lookIn_ns hns
  exact ⟨oe, od, mA, ⟨ea, z.1, by unfold PySem.W.notCls; rw [hd] <;> rfl, by rw [z.2]; exact ho⟩, hr, hl⟩
/-- e.f, e a kept exception -/
def tKf (K : PySem.W.Frag) (f : Str) (te : TE) : TE := fun σ H Q => te σ H fun x H1 => ∃ (a C : Addr) (fs : List (Str × V)) (v : V), x = .ref a ∧ KExc H1 a C fs ∧ XfC K C ∧ PySem.W.findIn K (.ref C) f = some none ∧ fs.lookup f = some v ∧ Q v H1
theorem pe_kf {e : Expr} {te : TE} {pos : Pos} {f : Str} (he : PE X e te) (hb : attributeBase e f X.env (eval e X.env) = eval e X.env := by rfl) : PE X (.Attribute e f pos) (tKf X.K f te) := by
  refine ⟨fun pins s σ H Q I h => attr_of hb (thn (he.run pins s σ H _ I h) fun u t q => ?_)⟩
  obtain ⟨x, H1, I1, rx, a, C, fs, v, rfl, ke, T, no, l, k⟩ := q
  obtain rfl : u = Value.ref a := rx
  obtain ⟨oe, od, mA, J, hr, hl⟩ := kexc_inst I1 ke
  obtain ⟨z, hz, rz⟩ := RelO.some_of (v := v) (o := mA f) (by rw [← l]; exact hr f)
  exact HandSPX.exc_get I1.kIn J T.ga T.gg T.exC (PySem.W.findObj_own T.hdC no rfl (by rw [hl, hz])) (handed_of rz) ⟨v, H1, I1.tok _, rz, k⟩
theorem kexc_kit {a C : Addr} {oe od : Obj} (F : ExcC X.K C) : PySem.W.KitX X.K (.ref a) (.ref C) (fun h => PySem.W.InstAt h a oe C (some od)) :=
  PySem.W.kitx_exc (by
    obtain ⟨cd, hc, _⟩ := PySem.W.any_some F.hd
    rw [hc]
    rfl) F.hg F.hk F.hs F.ha F.hn F.ht F.hm
/-- isinstance(e, c) of a kept exception -/
def rIsX (K : PySem.W.Frag) : List V → Hp → VK → Prop := fun xs H Q => ∃ (a C : Addr) (fs : List (Str × V)) (c : V) (u : Value) (b : Bool), xs = [.ref a, c] ∧ ClsV c u ∧ KExc H a C fs ∧ ExcC K C ∧ PySem.W.kitOne K (.ref C) u = some b ∧ Q (.bl b) H
theorem call_isX : CallR X (.builtin "isinstance") (rIsX X.K) := by
  intro pins s σ H xs us Q I r h
  obtain ⟨a, C, fs, c, u, b, rfl, hc, ke, F, e, q⟩ := h
  obtain ⟨u1, u2, rfl, r1, r2⟩ := vals2 r
  have e2 := hc.eq r2
  subst e2
  obtain rfl : u1 = Value.ref a := r1
  obtain ⟨oe, od, mA, J, _⟩ := kexc_inst I ke
  exact PySem.W.kia_one (kexc_kit F) I.kIn J e (fun z => nomatch z) fun tk => ⟨.bl b, H, I.tok tk, rfl, q⟩
/-- isinstance(e, (c, ..)) of a kept exception -/
def rIsXT (K : PySem.W.Frag) : List V → Hp → VK → Prop := fun xs H Q => ∃ (a C tp : Addr) (fs : List (Str × V)) (cs : List V) (us : List Value) (b : Bool), xs = [.ref a, .ref tp] ∧ H tp = some (.tup cs) ∧ Paired ClsV cs us ∧ KExc H a C fs ∧ ExcC K C ∧ PySem.W.kitAny K (.ref C) us = some b ∧ Q (.bl b) H
theorem call_isXT : CallR X (.builtin "isinstance") (rIsXT X.K) := by
  intro pins s σ H xs us Q I r h
  obtain ⟨a, C, tp, fs, cs, ws, b, rfl, hT, hc, ke, F, e, q⟩ := h
  obtain ⟨u1, u2, rfl, r1, r2⟩ := vals2 r
  obtain rfl : u1 = Value.ref a := r1
  obtain rfl : u2 = Value.ref tp := r2
  obtain ⟨oe, od, mA, J, _⟩ := kexc_inst I ke
  obtain ⟨_, its, rv, ⟨c1, c2, c3, c4⟩, g1, g2, n, g3⟩ := (show ObjOk X.prog X.w H s.heap tp (.tup cs) from I.hok tp _ hT)
  obtain rfl := ClsV.all hc rv
  dsimp only at g2 g3
  subst g2
  subst g3
  exact PySem.W.kia_tup (kexc_kit F) I.kIn J g1 e (fun z => nomatch z) fun tk => ⟨.bl b, H, I.tok tk, rfl, q⟩
end
end My

/-! An own error over ValueError whose __init__ keeps one field: made, to be raised. -/
namespace My
open PySem PySem.Spec PyProof.Rows L2
/-- the promise of __init__(self, f): self.f = f -/
def spErr (f : Str) (C : Addr) : Sp := fun vs H Q _ => ∃ (a : Addr) (v : V), vs = [.ref a, v] ∧ H a = some (exo a C none) ∧ ∀ dx, H dx = none → dx ≠ a → Q .non (upd (upd H dx (exd dx [(f, v)])) a (exo a C (some dx)))
theorem err_heap {H : Hp} {a d : Addr} {o1 o2 o3 o4 : HO} (ha : H a = none) (hd : d ≠ a) : upd (L2.del (upd (upd (upd H a o1) d o2) a o3) a) d o4 = upd H d o4 := by
  funext b
  by_cases h : b = d
  · rw [h, upd_same, upd_same]
  · rw [upd_ne h, upd_ne h]
    by_cases h2 : b = a
    · rw [h2, L2.del_same, ha]
    · rw [L2.del_ne h2, upd_ne h2, upd_ne h, upd_ne h2]
/-- what a caller of C(v) shows -/
theorem err_go {H : Hp} {C : Addr} {f : Str} {v : V} {Q : XK} (h : ∀ d, H d = none → Q (.ref C) (some d) (upd H d (.xd [(f, v)]))) :
    [v].length ≤ 1000 ∧ ∀ a, H a = none → spErr f C (.ref a :: ([v] ++ [])) (upd H a (exo a C none))
      (fun w H2 => w = .non ∧ ∃ (d : Addr) (fs : List (Str × V)), H2 a = some (exo a C (some d)) ∧ H2 d = some (exd d fs) ∧ H d = none ∧ Q (.ref C) (some d) (upd (L2.del H2 a) d (.xd fs))) (fun _ _ _ => False) := by
  refine ⟨by simp, fun a ha => ⟨a, v, rfl, upd_same, fun dx hdx hne => ⟨rfl, dx, [(f, v)], upd_same, ?_, ?_, ?_⟩⟩⟩
  · rw [upd_ne hne, upd_same]
  · rw [upd_ne hne] at hdx
    exact hdx
  · rw [err_heap ha hne]
    rw [upd_ne hne] at hdx
    exact h dx hdx
section
variable {X : Cx} {x nm qual f : Str} {st : Stmt} {C fI : Addr} {k : Nat} {ps : List Str} {e : Expr} {te : TE} {p pos : Pos}
/-- C(e) -/
theorem pmk_err (T : OexC X.K C) (iC : PySem.W.findIn X.K (.ref C) "__init__" = some (some (.ref fI))) (tI : PySem.W.typeIn X.K (.ref fI) = some (.type "function"))
    (F1 : FnQ X.prog X.w X.K X.mg X.base k fI nm qual st ps (spErr f C))
    (hb : ∀ (kV doc pm : Value) (an : Option Addr) (cdv ct : Value) (us : List Value), us.length = ps.length → bindArgs (PySem.W.fnOf nm qual (defArgs st) (defBody st) (defScope st) .none kV doc pm an cdv ct) ⟨us, []⟩ = pure (ps.zip us))
    (hr : Room (k + 1) X.A) (hx : Passes CX0 X (fun _ _ _ => False)) (hg : Gl X x) (hm : X.mg x = some (.ref C)) (he : PE X e te)
    (hdb : (x == ("__debug__" : Str)) = false := by decide) (hse : starEach [e] X.env = (false, eval e X.env) :: starEach [] X.env := by rfl) (hpl : (backTo pos (starEach [] X.env)).any (·.1) = false := by rfl) :
    PMk X (.Call (.Name x p) [e] [] pos) (tMkO C (spErr f C) [] (tCons te tNil)) := by
  obtain ⟨fd, F0, G⟩ := F1.o
  exact pmk_oex T iC tI G hr (F0.bindsN hb) .nil hx hg hm (pa_cons he pa_nil hse) hdb hse hpl
end
end My

/-! Defs that may raise: promises with a second end, the exception's. -/
namespace My
open PySem PySem.Spec PyProof.Rows L2
/-- the context of a def that may raise E -/
abbrev cxX (P : Program) (w : World) (K : Fg) (mg : Str → Option Value) (base : Heap) (N : List Str) (qual : Str) (scope : Scope) (f : Addr) (cd : Value) (A : Around) (outer : List Env) (s : Shared) (H : Hp) (E : XK) : Cx :=
  cxOf (L2.CX P w) P w K mg base N qual scope f cd A outer s H E
theorem cxX_takes {P : Program} {w : World} {K : Fg} {mg : Str → Option Value} {base : Heap} {N : List Str} {qual : Str} {scope : Scope} {f : Addr} {cd : Value} {A : Around} {outer : List Env} {s : Shared} {H : Hp} {E : XK} :
    Takes (cxX P w K mg base N qual scope f cd A outer s H E) (fun cls d _ G => E cls d G) := takes_of rfl rfl rfl rfl
section
variable {fa : List (Fg → Bool)} {fn : List He5.DefA} {K : Fg} {mg : Str → Option Value} {P : Program} {w : World} {base : Heap}
/-- a def of the program that may raise -/
theorem TxOf.fnX (T : TxOf fa fn K mg) (i : Nat) {x qual : Str} {st : Stmt} {at_ : Fg → Addr} {N ps : List Str} {k : Nat} {sp : Sp}
    (hi : fn[i]? = some ⟨at_, x, qual, defArgs st, defBody st, defScope st, [], []⟩) (S : FnScope N ps (defScope st))
    (hb : ∀ (kV doc pm : Value) (an : Option Addr) (cdv ct : Value) (us : List Value), us.length = ps.length →
      bindArgs (PySem.W.fnOf x qual (defArgs st) (defBody st) (defScope st) .none kV doc pm an cdv ct) ⟨us, []⟩ = pure (ps.zip us))
    (len : ∀ vs H Q E, sp vs H Q E → vs.length = ps.length)
    (hbody : ∀ (cdv : Value) (A : Around) (outer : List Env) (s : Shared) (H : Hp) (vs : List V) (Q : VK) (E : XK), Room k (A.deeper (envOfC qual (defScope st) s.heap.objs.size (at_ K) cdv)) → sp vs H Q E →
      ∃ t, PSs (cxX P w K mg base N qual (defScope st) (at_ K) cdv A outer s H E) (defBody st) t ∧ t { nx := fun _ H' => Q .non H', rt := Q } (start N vs) H) :
    FnR P w K mg base (L2.CX P w) (k + 1) (at_ K) sp := by
  obtain ⟨fd, F⟩ := T.fund i hi
  have F0 : FunD K x qual (defArgs st) (defBody st) (defScope st) [] [] (at_ K) fd := F
  have G : FnOk P w K mg base (L2.CX P w) (k + 1) (at_ K) fd ps sp := F0.ok S len hbody
  exact (G.raw (F0.bindsN hb) .nil).imp fun vs H Q E h => by
    rw [List.append_nil]
    exact h
end
end My

/-! For series: o.f as one of several targets, division of great numbers by divisors of either sign. -/
namespace My
open PySem PySem.Spec PyProof.Rows L2
section
variable {X : Cx} {o : Expr} {ta : TE} {f : Str} {pos : Pos}
/-- o.f = .. as a target -/
def gFld (K : Fg) (ta : TE) (f : Str) : TG := fun v σ H Q => ta σ H fun x H1 => ∃ a C dx fs, x = .ref a ∧ H1 a = some (.ins C dx fs) ∧ Cls K C ∧ NoAttr K C f ∧ fs.length < 1000 ∧ Q σ (upd H1 a (.ins C dx (putF f v fs)))
theorem pg_fld (he : PE X o ta)
    (hq : ∀ v, assign (.Attribute o f pos) X.env v = (do
      let w ← holding [v] (eval o X.env)
      standAt pos.atName
      holding [v, w] (setAttr w f v)
      release [v, w] []) := by intro _; rfl) : PG X (.Attribute o f pos) (gFld X.K ta f) := by
  refine ⟨fun pins s σ H v u Q I r h => ?_⟩
  rw [hq]
  refine wpAny_bind (wpAny_holding (thn (he.run pins s σ H _ I h) fun w s1 h1 => ?_))
  obtain ⟨x, H1, I1, rx, a, C, dx, fs, ex, ea, c, n, l, q⟩ := h1
  subst ex
  obtain rfl : w = Value.ref a := rx
  exact wpAny_bind (wpAny_standAt (wpAny_bind (wpAny_holding (setattr_ok I1 ea c n l r fun s3 I3 => wpAny_release ⟨σ, _, I3, q⟩))))
/-- what a division asks: not by 0, the divisor below 2 ^ 9000 -/
def CDv (_ j : Int) : Prop := j ≠ 0 ∧ j.natAbs.log2 < 9000
theorem op_fdv : OpR X (binaryOp .FloorDiv) (rI CDv fun i j => .int (i.fdiv j)) := opI fun _ _ _ _ _ _ _ c q => floordiv_int c.1 q (.inl (PyProof.noPylong_of_log2 c.2))
/-- divmod by a divisor of either sign -/
def rDm : List V → Hp → VK → Prop := fun xs H Q => ∃ i j, xs = [.int i, .int j] ∧ CDv i j ∧ ∀ p, H p = none → Q (.ref p) (upd H p (.tup [.int (i.fdiv j), .int (i.fmod j)]))
theorem call_dm : CallR X (.builtin "divmod") rDm := by
  rintro pins s σ H xs us Q I r ⟨i, j, rfl, c, q⟩
  obtain ⟨_, _, rfl, ⟨t1, rfl⟩, ⟨t2, rfl⟩⟩ := vals2 r
  refine divmod_int c.1 ?_ (.inl (PyProof.noPylong_of_log2 c.2))
  refine ⟨.ref s.heap.objs.size, _, ?_, rfl, q _ (I.hok.fresh (Nat.le_refl _))⟩
  refine I.laid (fun b o e => Heap.get?_push_of_some _ e) (Nat.le_refl _) ⟨?_, [.int (i.fdiv j) s.toks, .int (i.fmod j) (s.toks + 1)], .cons ⟨_, rfl⟩ (.cons ⟨_, rfl⟩ .nil), _, Heap.get?_push_size s.heap rfl, rfl, 0, rfl⟩
  show 2 ≤ sizeLine
  decide
theorem cdv_of {i j : Int} {n : Nat} (h0 : j ≠ 0) (h1 : j.natAbs < 2 ^ n) (h2 : 0 < n) (h3 : n ≤ 9000) : CDv i j := by
  have := PySem.Flt.log2_lt_of h2 h1
  exact ⟨h0, by omega⟩
theorem cdv40 {i j : Int} (h0 : j ≠ 0) (h1 : j.natAbs < 10 ^ 60) : CDv i j := cdv_of (n := 200) h0 (Nat.lt_of_lt_of_le h1 (by decide)) (by decide) (by decide)
end
end My

/-! Plain mathematics: trails of dates until a remainder comes again; terms of a row between two dates. -/
namespace My
/-- the remainder comes again first at L, where it is that of e -/
structure Trl (f : Int → Int) (d : Nat) (x : Int) (L e : Nat) : Prop where
  lt : e < L
  eq : it f x L % (d : Int) = it f x e % (d : Int)
  ne : ∀ i j : Nat, i < j → j < L → it f x i % (d : Int) ≠ it f x j % (d : Int)
/-- a look at m dates: which remainder has which number -/
structure TrlI (f : Int → Int) (d : Nat) (x : Int) (m : Nat) (val : Int → Option Int) : Prop where
  v1 : ∀ z j, val z = some j → ∃ n : Nat, j = (n : Int) ∧ n < m ∧ it f x n % (d : Int) = z
  v2 : ∀ j : Nat, j < m → val (it f x j % (d : Int)) = some (j : Int)
  le : m ≤ d
section
variable {f : Int → Int} {d : Nat} {x : Int} {m L e L' e' : Nat} {val : Int → Option Int}
theorem TrlI.start : TrlI f d x 0 (fun _ => none) := ⟨fun z j h => (nomatch h), fun j h => absurd h (Nat.not_lt_zero _), Nat.zero_le _⟩
theorem TrlI.ne (h : TrlI f d x m val) (i j : Nat) (hij : i < j) (hj : j < m) : it f x i % (d : Int) ≠ it f x j % (d : Int) := fun e => by
  have h1 := h.v2 i (by omega)
  rw [e, h.v2 j hj] at h1
  have := Option.some.inj h1
  omega
theorem TrlI.step (d0 : 0 < d) (h : TrlI f d x m val) (hv : val (it f x m % (d : Int)) = none) : TrlI f d x (m + 1) (fun z => if z = it f x m % (d : Int) then some (m : Int) else val z) := by
  have nn : ∀ j : Nat, j < m → it f x j % (d : Int) ≠ it f x m % (d : Int) := fun j hj e => by
    have := h.v2 j hj
    rw [e, hv] at this
    cases this
  refine ⟨fun z j hz => ?_, fun j hj => ?_, ?_⟩
  · replace hz : (if z = it f x m % (d : Int) then some (m : Int) else val z) = some j := hz
    by_cases e : z = it f x m % (d : Int)
    · rw [if_pos e] at hz
      exact ⟨m, (Option.some.inj hz).symm, Nat.lt_succ_self m, e.symm⟩
    · rw [if_neg e] at hz
      obtain ⟨n, h1, h2, h3⟩ := h.v1 z j hz
      exact ⟨n, h1, by omega, h3⟩
  · show (if it f x j % (d : Int) = it f x m % (d : Int) then some (m : Int) else val (it f x j % (d : Int))) = _
    rcases Nat.lt_or_ge j m with c | c
    · rw [if_neg (nn j c)]
      exact h.v2 j c
    · have : j = m := by omega
      subst this
      rw [if_pos rfl]
  · have hp := pigeon d ((List.range (m + 1)).map fun j => (it f x j % (d : Int)).toNat) ?_ ?_
    · rw [List.length_map, List.length_range] at hp
      exact hp
    · rw [List.nodup_iff_pairwise_ne, List.pairwise_map]
      refine List.Pairwise.imp_of_mem ?_ (List.pairwise_lt_range (n := m + 1))
      intro i j hi hj hij e
      have hi2 := List.mem_range.mp hi
      have hj2 := List.mem_range.mp hj
      have a0 := Int.emod_nonneg (it f x i) (show (d : Int) ≠ 0 by omega)
      have b0 := Int.emod_nonneg (it f x j) (show (d : Int) ≠ 0 by omega)
      have e2 : it f x i % (d : Int) = it f x j % (d : Int) := by omega
      rcases Nat.lt_or_ge j m with c1 | c1
      · exact h.ne i j hij c1 e2
      · have : j = m := by omega
        subst this
        exact nn i hij e2
    · intro v hv2
      obtain ⟨j, _, rfl⟩ := List.mem_map.mp hv2
      have a1 := Int.emod_lt_of_pos (it f x j) (show (0 : Int) < (d : Int) by omega)
      have a0 := Int.emod_nonneg (it f x j) (show (d : Int) ≠ 0 by omega)
      omega
theorem TrlI.done {j : Int} (h : TrlI f d x m val) (hv : val (it f x m % (d : Int)) = some j) : ∃ e : Nat, j = (e : Int) ∧ Trl f d x m e := by
  obtain ⟨n, h1, h2, h3⟩ := h.v1 _ _ hv
  exact ⟨n, h1, h2, h3.symm, fun i j hij hj => h.ne i j hij hj⟩
theorem Trl.uniq (a : Trl f d x L e) (b : Trl f d x L' e') : L = L' ∧ e = e' := by
  have hL : L = L' := by
    rcases Nat.lt_trichotomy L L' with c | c | c
    · exact absurd a.eq.symm (b.ne e L a.lt c)
    · exact c
    · exact absurd b.eq.symm (a.ne e' L' b.lt c)
  subst hL
  refine ⟨rfl, ?_⟩
  rcases Nat.lt_trichotomy e e' with c | c | c
  · exact absurd (a.eq.symm.trans b.eq) (a.ne e e' c b.lt)
  · exact c
  · exact absurd (b.eq.symm.trans a.eq) (a.ne e' e c a.lt)
theorem Trl.le (a : Trl f d x L e) (d0 : 0 < d) : L ≤ d := by
  have hp := pigeon d ((List.range L).map fun j => (it f x j % (d : Int)).toNat) ?_ ?_
  · rw [List.length_map, List.length_range] at hp
    exact hp
  · rw [List.nodup_iff_pairwise_ne, List.pairwise_map]
    refine List.Pairwise.imp_of_mem ?_ (List.pairwise_lt_range (n := L))
    intro i j hi hj hij e
    have hj2 := List.mem_range.mp hj
    have a0 := Int.emod_nonneg (it f x i) (show (d : Int) ≠ 0 by omega)
    have b0 := Int.emod_nonneg (it f x j) (show (d : Int) ≠ 0 by omega)
    exact a.ne i j hij hj2 (by omega)
  · intro v hv2
    obtain ⟨j, _, rfl⟩ := List.mem_map.mp hv2
    have a1 := Int.emod_lt_of_pos (it f x j) (show (0 : Int) < (d : Int) by omega)
    have a0 := Int.emod_nonneg (it f x j) (show (d : Int) ≠ 0 by omega)
    omega
/-- the dates of a trail -/
def trs (f : Int → Int) (x : Int) (L : Nat) : List Int := tab L fun j => it f x j.toNat
theorem trs_len : (trs f x L).length = L := tab_length ..
theorem trs_get {i : Nat} (h : i < L) : (trs f x L)[i]? = some (it f x i) := tab_get (f := fun j => it f x j.toNat) h
theorem trs_succ : trs f x (L + 1) = trs f x L ++ [it f x L] := by
  unfold trs tab
  rw [List.range_succ, List.map_append]
  rfl
theorem Trl.at (a : Trl f d x L e) (p : Per f d) (c : Nat) (hc : e ≤ c) : it f x c = it f x (e + (c - e) % (L - e)) + (((c - e) / (L - e) : Nat) : Int) * (it f x L - it f x e) := by
  have := a.lt
  have h := it_ring p (a := e) (s := L - e) (by omega) (by rw [show e + (L - e) = L by omega]; exact a.eq) c hc
  rw [show e + (L - e) = L by omega] at h
  exact h
theorem it_bnd {B : Nat} (h : ∀ z, (f z).natAbs ≤ B) (n : Nat) : (it f x n).natAbs ≤ x.natAbs + B * n := by
  have := pw_bnd h n x
  show (x + pw f n x).natAbs ≤ _
  omega
theorem adv_bnd {B : Nat} (h : ∀ z, (f z).natAbs ≤ B) (hl : e ≤ L) : (it f x L - it f x e).natAbs ≤ B * (L - e) := by
  have := pw_bnd h (L - e) (it f x e)
  have e2 : it f x L = it f (it f x e) (L - e) := by rw [← it_add]; congr 1; omega
  rw [e2]
  show (it f x e + pw f (L - e) (it f x e) - it f x e).natAbs ≤ _
  omega
end
/-- how many of b, b + n, .. lie from lo to hi, n above 0 -/
def trm (b n lo hi : Int) : Int := max 0 ((hi - b) / n - max 0 (-((b - lo) / n)) + 1)
theorem div_lb {a n q : Int} (hn : 0 < n) (h : n * q ≤ a) : q ≤ a / n := (Int.le_ediv_iff_mul_le hn).mpr (by rw [Int.mul_comm]; exact h)
theorem trm_eq {b n lo hi : Int} (hn : 0 < n) : (if hi < max b lo then 0 else (hi - b) / n - (max b lo - b - 1) / n) = trm b n lo hi := by
  have ceil : ∀ v : Int, (v - 1) / n + 1 = -((-v) / n) := fun v => by
    have h1 := Int.emod_add_mul_ediv (-v) n
    have h2 := Int.emod_nonneg (-v) (show n ≠ 0 by omega)
    have h3 := Int.emod_lt_of_pos (-v) hn
    have h4 : (v - 1) / n = -((-v) / n) - 1 := by
      have h5 : v - 1 = ((-v) % n - 1 - -n) + n * (-((-v) / n) - 1) + (-2 * ((-v) % n) ) + 0 := by
        rw [Int.mul_sub, Int.mul_neg, Int.mul_one]
        omega
      have h6 : v - 1 = (n - 1 - (-v) % n) + n * (-((-v) / n) - 1) := by
        rw [Int.mul_sub, Int.mul_neg, Int.mul_one]
        omega
      rw [h6, Int.add_mul_ediv_left _ _ (by omega), Int.ediv_eq_zero_of_lt (by omega) (by omega)]
      omega
    omega
  have c2 := ceil (max b lo - b)
  have c1 := ceil (lo - b)
  have e1 : -(lo - b) = b - lo := by omega
  rw [e1] at c1
  unfold trm
  rcases Int.le_total b lo with hb | hb
  · rw [show max b lo = lo by omega] at c2 ⊢
    rw [e1] at c2
    have z0 : (b - lo) / n ≤ 0 := by
      have := Int.ediv_le_ediv hn (show b - lo ≤ 0 by omega)
      rw [Int.zero_ediv] at this
      exact this
    rw [show max 0 (-((b - lo) / n)) = -((b - lo) / n) by omega]
    split
    · rename_i h
      have := Int.ediv_le_ediv hn (show hi - b ≤ lo - b - 1 by omega)
      omega
    · rename_i h
      have := Int.ediv_le_ediv hn (show lo - b - 1 ≤ hi - b by omega)
      omega
  · rw [show max b lo = b by omega] at c2 ⊢
    rw [show b - b - 1 = (-1 : Int) by omega] at *
    have z0 : 0 ≤ (b - lo) / n := Int.ediv_nonneg (by omega) (by omega)
    rw [show max 0 (-((b - lo) / n)) = 0 by omega]
    have m1 : (-1 : Int) / n = -1 := by
      have h1 := Int.emod_add_mul_ediv (-1) n
      have := ceil 0
      rw [show (0 : Int) - 1 = -1 by omega, show (-0 : Int) = 0 by omega, Int.zero_ediv] at this
      omega
    rw [m1]
    split
    · rename_i h
      have := Int.ediv_le_ediv hn (show hi - b ≤ -1 by omega)
      rw [m1] at this
      omega
    · rename_i h
      have := Int.ediv_nonneg (show 0 ≤ hi - b by omega) (show 0 ≤ n by omega)
      omega
theorem trm_bnd {b n lo hi : Int} (hn : 0 < n) : (trm b n lo hi).natAbs ≤ hi.natAbs + b.natAbs + 1 := by
  unfold trm
  have : (hi - b) / n ≤ max 0 (hi - b) := by
    rcases Int.le_total 0 (hi - b) with h | h
    · have := Int.ediv_le_self n h
      omega
    · have := Int.ediv_le_ediv hn h
      rw [Int.zero_ediv] at this
      omega
  omega
/-- the same with a step of either sign -/
def tms (b n lo hi : Int) : Int := if n < 0 then trm (-b) (-n) (-hi) (-lo) else trm b n lo hi
theorem tms_bnd {b n lo hi : Int} (hn : n ≠ 0) : (tms b n lo hi).natAbs ≤ hi.natAbs + lo.natAbs + b.natAbs + 1 := by
  unfold tms
  split
  · have := trm_bnd (b := -b) (n := -n) (lo := -hi) (hi := -lo) (by omega)
    omega
  · have := trm_bnd (b := b) (n := n) (lo := lo) (hi := hi) (by omega)
    omega
/-- the dates of a trail from lo to hi -/
def cnt (xs : List Int) (lo hi : Int) : Nat := (xs.filter fun v => decide (lo ≤ v ∧ v ≤ hi)).length
def btw (xs : List Int) (e : Nat) (n lo hi : Int) : Int := if n = 0 then (cnt xs lo hi : Int) else (cnt (xs.take e) lo hi : Int) + ((xs.drop e).map fun b => tms b n lo hi).sum
theorem cnt_le (xs : List Int) (lo hi : Int) : cnt xs lo hi ≤ xs.length := List.length_filter_le _ _
theorem sum_bnd {B : Nat} : ∀ {xs : List Int}, (∀ v ∈ xs, v.natAbs ≤ B) → xs.sum.natAbs ≤ B * xs.length
  | [], _ => by simp
  | v :: xs, h => by
    have h1 := h v List.mem_cons_self
    have h2 := sum_bnd fun u hu => h u (List.mem_cons_of_mem _ hu)
    rw [List.sum_cons, List.length_cons, Nat.mul_succ]
    omega
theorem btw_bnd {xs : List Int} {e : Nat} {n lo hi : Int} {B : Nat} (h : ∀ v ∈ xs, v.natAbs ≤ B) (hl : lo.natAbs ≤ B) (hh : hi.natAbs ≤ B) : (btw xs e n lo hi).natAbs ≤ xs.length + (3 * B + 1) * xs.length := by
  unfold btw
  split
  · have := cnt_le xs lo hi
    omega
  · rename_i hn
    have h1 := cnt_le (xs.take e) lo hi
    rw [List.length_take] at h1
    have h2 := sum_bnd (B := 3 * B + 1) (xs := (xs.drop e).map fun b => tms b n lo hi) fun v hv => by
      obtain ⟨b, hb, rfl⟩ := List.mem_map.mp hv
      have := tms_bnd (b := b) (lo := lo) (hi := hi) hn
      have := h b (List.mem_of_mem_drop hb)
      omega
    rw [List.length_map, List.length_drop] at h2
    have h3 : (3 * B + 1) * (xs.length - e) ≤ (3 * B + 1) * xs.length := Nat.mul_le_mul_left _ (by omega)
    omega
end My

/-! min(xs, default=None) of a list of ints. -/
namespace PySem
section
variable {prog : Program} {w : World} {A : Around} {R : Result → Shared → Prop} {I : Addr} {fp wr : List Addr} {n : Nat} {P : Nat → Value → Prop} {St : Nat → Heap → Prop}
theorem minD_name : (toString "min" ++ toString ".loop" : String) = "min.loop" := by decide
theorem minD_loop {kw : List (Str × Value)} (W : Walks prog w A.in1 I fp wr n P St) (bt : Nat → Nat → Bool) (hcmp : CmpOf prog w A.in1 .Lt P bt) (S : Addr) (hSf : S ∉ fp) :
    ∀ (k j : Nat) (s : Shared) (vb : Value) (c : Nat), n - (j + 1) = k → j + 1 ≤ n → St (j + 1) s.heap → P (argBest bt j) vb →
    s.heap.get? S = some { cls := .type "list", dict := none, data := .seq #[vb, vb] c, slots := #[] } →
    (∀ v h' tk, P (argBest bt (n - 1)) v → (∀ b o, b ∉ wr → b ≠ S → s.heap.get? b = some o → h'.get? b = some o) → R (.ok (.ret v)) { s with heap := h', toks := tk }) →
    codeAny (model prog w) A (.builtin "min.loop" ⟨[.ref I, .none, .ref S], kw⟩) R s := by
  have nw : S ∉ wr := fun z => hSf (W.sub _ z)
  intro k
  induction k with
  | zero =>
    intro j s vb c hk hj st pb eS r
    have en : j + 1 = n := by omega
    refine codeAny_builtin F.entry_min_loop ?_
    rw [Around.under_plainId F.plain_min_loop _]
    show wpAny (model prog w) A.in1 (Bind.bind (seqItems? (.ref S)) _) _ _ s
    refine wpAny_bind (wpAny_seqItems eS rfl ?_)
    show wpAny (model prog w) A.in1 (Bind.bind (tryCatch (pyNext (.ref I)) _) _) _ _ s
    refine wpAny_bind (wpAny_tryCatch (W.done s _ _ (en ▸ st) fun g tk kp => ?_))
    have eS2 := kp S _ nw eS
    show wpAny (model prog w) A.in1 (Bind.bind (updateSeq S fun _ => #[]) _) _ _ _
    refine wpAny_bind (wpAny_updateSeq eS2 rfl (wpAny_bind (wpAny_letGo (wpAny_pure ?_))))
    exact r vb _ tk (by rw [← en]; exact pb) fun b o nb nS e => (Heap.get?_update_other _ _ (Ne.symm nS)).trans (kp b o nb e)
  | succ k ih =>
    intro j s vb c hk hj st pb eS r
    have lt : j + 1 < n := by omega
    refine codeAny_builtin F.entry_min_loop ?_
    rw [Around.under_plainId F.plain_min_loop _]
    show wpAny (model prog w) A.in1 (Bind.bind (seqItems? (.ref S)) _) _ _ s
    refine wpAny_bind (wpAny_seqItems eS rfl ?_)
    show wpAny (model prog w) A.in1 (Bind.bind (tryCatch (pyNext (.ref I)) _) _) _ _ s
    refine wpAny_bind (wpAny_tryCatch (W.item (j + 1) s _ _ lt st fun v g tk pv st2 kp => ?_))
    have eS2 := kp S _ nw eS
    show wpAny (model prog w) A.in1 (Bind.bind (tryCatch (holding [v, v] (Bind.bind (richCompare .Lt v vb) _)) _) _) _ _ _
    refine wpAny_bind (wpAny_tryCatch (wpAny_holding (wpAny_bind (hcmp (j + 1) (argBest bt j) v vb _ _ _ pv pb ?_))))
    refine wpAny_bind (wpAny_holding (wpAny_truthy_bool ?_))
    refine wpAny_bind (wpAny_letGo (wpAny_pure ?_))
    cases hb : bt (j + 1) (argBest bt j) with
    | true =>
      rw [if_pos rfl]
      refine wpAny_bind (wpAny_updateSeq eS2 rfl (wpAny_bind (wpAny_letGo ?_)))
      rw [minD_name]
      refine wpAny_pure ⟨plainId_quiet F.plain_min_loop _, ih (j + 1) _ v _ (by omega) lt (W.frame _ _ _ st2 fun b hf o e => ?_) (by simp only [argBest, hb, if_true]; exact pv) (Heap.get?_update_self _ eS2 rfl) fun u g2 tk2 pu kp2 => ?_⟩
      · exact (Heap.get?_update_other _ _ (fun z : S = b => hSf (z ▸ hf))).trans e
      · exact r u g2 tk2 pu fun b o nb nS e => kp2 b o nb nS ((Heap.get?_update_other _ _ (Ne.symm nS)).trans (kp b o nb e))
    | false =>
      rw [if_neg (by simp)]
      refine wpAny_bind (wpAny_letGo ?_)
      rw [minD_name]
      refine wpAny_pure ⟨plainId_quiet F.plain_min_loop _, ih (j + 1) _ vb c (by omega) lt st2 (by simp only [argBest, hb, Bool.false_eq_true, if_false]; exact pb) eS2 fun u g2 tk2 pu kp2 => ?_⟩
      exact r u g2 tk2 pu fun b o nb nS e => kp2 b o nb nS (kp b o nb e)
theorem minD_first {d : Value} (W : Walks prog w A.in1 I fp wr n P St) (bt : Nat → Nat → Bool) (hcmp : CmpOf prog w A.in1 .Lt P bt) (S : Addr) (hSf : S ∉ fp) {s : Shared} {c : Nat} (st : St 0 s.heap)
    (eS : s.heap.get? S = some { cls := .type "list", dict := none, data := .seq #[] c, slots := #[] })
    (r0 : n = 0 → ∀ h' tk, (∀ b o, b ∉ wr → b ≠ S → s.heap.get? b = some o → h'.get? b = some o) → R (.ok (.ret d)) { s with heap := h', toks := tk })
    (r : 0 < n → ∀ v h' tk, P (argBest bt (n - 1)) v → (∀ b o, b ∉ wr → b ≠ S → s.heap.get? b = some o → h'.get? b = some o) → R (.ok (.ret v)) { s with heap := h', toks := tk }) :
    codeAny (model prog w) A (.builtin "min.loop" ⟨[.ref I, .none, .ref S], [("default", d)]⟩) R s := by
  have nw : S ∉ wr := fun z => hSf (W.sub _ z)
  refine codeAny_builtin F.entry_min_loop ?_
  rw [Around.under_plainId F.plain_min_loop _]
  show wpAny (model prog w) A.in1 (Bind.bind (seqItems? (.ref S)) _) _ _ s
  refine wpAny_bind (wpAny_seqItems eS rfl ?_)
  show wpAny (model prog w) A.in1 (Bind.bind (tryCatch (pyNext (.ref I)) _) _) _ _ s
  rcases Nat.eq_zero_or_pos n with n0 | n0
  · refine wpAny_bind (wpAny_tryCatch (W.done s _ _ (n0 ▸ st) fun g tk kp => ?_))
    show wpAny (model prog w) A.in1 (Bind.bind (rule _) _) _ _ _
    refine wpAny_bind (wpAny_rule (wpAny_pure ?_))
    exact r0 n0 _ tk fun b o nb nS e => kp b o nb e
  · refine wpAny_bind (wpAny_tryCatch (W.item 0 s _ _ n0 st fun v g tk pv st2 kp => ?_))
    have eS2 := kp S _ nw eS
    show wpAny (model prog w) A.in1 (Bind.bind (updateSeq S fun _ => #[v, v]) _) _ _ _
    refine wpAny_bind (wpAny_updateSeq eS2 rfl ?_)
    rw [minD_name]
    refine wpAny_pure ⟨plainId_quiet F.plain_min_loop _, minD_loop W bt hcmp S hSf _ 0 _ v _ rfl n0 (W.frame _ _ _ st2 fun b hf o e => ?_) pv (Heap.get?_update_self _ eS2 rfl) fun u g2 tk2 pu kp2 => ?_⟩
    · exact (Heap.get?_update_other _ _ (fun z : S = b => hSf (z ▸ hf))).trans e
    · exact r n0 u g2 tk2 pu fun b o nb nS e => kp2 b o nb nS ((Heap.get?_update_other _ _ (Ne.symm nS)).trans (kp b o nb e))
end
end PySem
namespace PySem
theorem minD_args (a d : Value) : argsOk "min" ⟨[a], [(Str.ofString "default", d)]⟩ := by
  unfold argsOk
  kernel_rfl
section
variable {prog : Program} {w : World} {A : Around} {E : Value → Shared → Prop} {s : Shared}
theorem minD_walk {x d : Value} {Q : Value → Shared → Prop}
    (h : wpAny (model prog w) A.in1 (pyIter x) (fun it s₂ => ∃ I fp wr n P St bt, it = .ref I ∧ Walks prog w A.in1 I fp wr n P St ∧ St 0 s₂.heap ∧ (∀ b ∈ fp, b < s₂.heap.objs.size) ∧ CmpOf prog w A.in1 .Lt P bt ∧
      (n = 0 → ∀ h' tk, (∀ b o, b ∉ wr → s₂.heap.get? b = some o → h'.get? b = some o) → Q d { s₂ with heap := h', toks := tk }) ∧
      (0 < n → ∀ v h' tk, P (argBest bt (n - 1)) v → (∀ b o, b ∉ wr → s₂.heap.get? b = some o → h'.get? b = some o) → Q v { s₂ with heap := h', toks := tk })) E s) :
    wpAny (model prog w) A (call (.builtin "min") [x] [(Str.ofString "default", d)]) Q E s := by
  refine PyProof.Rows.kmk_tree F.kind_min F.plain_min F.entry_min (minD_args _ _) ?_
  show wpAny (model prog w) A.in1 (Bind.bind (Builtin.Builtins.bindParams "min" ["key", "default"] 0 ⟨[], [(Str.ofString "default", d)]⟩) _) _ _ s
  have e1 : Builtin.Builtins.bindParams "min" ["key", "default"] 0 ⟨[], [(Str.ofString "default", d)]⟩ = pure [none, some d] := by kernel_rfl
  refine wpAny_bind (wpAny_of_eq e1 ?_)
  refine wpAny_bind (wpAny_pure ?_)
  refine wpAny_bind (wpAny_mono h (fun it t q => ?_) fun _ _ e => e)
  obtain ⟨I, fp, wr, n, P, St, bt, rfl, W, st, hf, hc, q0, q1⟩ := q
  refine wpAny_bind (wpAny_newObj_type ?_)
  have nf : t.heap.objs.size ∉ fp := fun z => Nat.lt_irrefl _ (hf _ z)
  rw [minD_name]
  refine wpAny_pure ⟨plainId_quiet F.plain_min_loop _, minD_first W bt hc t.heap.objs.size nf (W.frame _ _ _ st fun b _ o e => Heap.get?_push_of_some _ e) (Heap.get?_push_size _ rfl) (fun n0 g tk kp => ?_) fun n0 v g tk pv kp => ?_⟩
  · exact q0 n0 g tk fun b o nb e => kp b o nb (Nat.ne_of_lt (Heap.lt_size e)) (Heap.get?_push_of_some _ e)
  · exact q1 n0 v g tk pv fun b o nb e => kp b o nb (Nat.ne_of_lt (Heap.lt_size e)) (Heap.get?_push_of_some _ e)
end
end PySem
namespace My
open PySem PySem.Spec PyProof.Rows L2
/-- min(xs, default=None) -/
def rMinD (K : Fg) : List V → List V → Hp → VK → Prop := fun vs zs H Q => ∃ (a : Addr) (ns : List Int), vs = [V.ref a] ∧ zs = [.non] ∧ SqL K H a (ns.map V.int) ∧ (ns = [] → Q .non H) ∧ ∀ m, m ∈ ns → (∀ y, y ∈ ns → m ≤ y) → Q (.int m) H
theorem cr_minD {X : Cx} (hc : X.calm = true) : CallRK X (.builtin "min") [Str.ofString "default"] (rMinD X.K) := by
  intro pins s σ H vs zs us ws Q I r rz h
  obtain ⟨a, ns, rfl, rfl, hs, q0, q1⟩ := h
  obtain rfl := Vals.ref1 r
  obtain ⟨w1, rfl, e1⟩ := vals1 rz
  obtain rfl : w1 = Value.none := e1
  obtain ⟨its, rv, hl, _⟩ := I.list hs
  have hi := rv.ints
  have hl2 := hl.isList
  obtain ⟨xs, e⟩ := hi.allInts.items
  have hn : numsOf (intItems xs).toList = ns := by rw [← e]; exact hi.numsOf
  rw [nums_intItems] at hn
  rw [e] at hl2
  have nl : ns.length = xs.size := by rw [← hn, List.length_map, Array.length_toList]
  refine minD_walk (iter_intList hl2 fun t et st hf hlI => ?_)
  subst et
  refine ⟨_, _, _, _, _, _, _, rfl, Walks.list (A := X.A.in1) (I.ok.hd hc) _ a hlI (intItems xs), st, hf, CmpOf.ints_lt (numAt xs) (fun _ _ => intItems_at), fun n0 g tk kp => ?_, fun n0 v g tk pv kp => ?_⟩
  · have z : ns = [] := List.eq_nil_of_length_eq_zero (by rw [nl]; simpa [intItems] using n0)
    exact ⟨.non, H, I.kept (old_kept kp), rfl, q0 z⟩
  · have n1 : 0 < xs.size := by simpa [intItems] using n0
    obtain ⟨u, rfl⟩ := intItems_at (by simpa [intItems] using pv)
    obtain ⟨h1, h2⟩ := argBest_lt (numAt xs) (xs.size - 1)
    refine ⟨.int _, H, I.kept (old_kept kp), ⟨_, rfl⟩, q1 _ ?_ fun b hb => ?_⟩
    · rw [numAt_eq, hn]
      exact PySem.getD_mem (by omega)
    · rw [← hn] at hb
      obtain ⟨j, hj, rfl⟩ := mem_getD hb
      rw [List.length_map, Array.length_toList] at hj
      rw [← numAt_eq]
      exact h2 j (by omega)
section
variable {fa : List (Fg → Bool)} {fn : List He5.DefA} {K : Fg} {mg : Str → Option Value} {X : Cx}
theorem minD_k (T : TxOf fa fn K mg) (hc : X.calm = true) (hK : X.K = K := by rfl) : CallRK X (.builtin "min") [Str.ofString "default"] (rMinD K) := by
  subst hK
  exact cr_minD hc
end
end My

/-! Small steps for the walker (tools/auto.txt). -/
namespace My
open PySem PySem.Spec PyProof.Rows L2
section
variable {K : Fg} {H H' : Hp} {a p : Addr} {o : HO} {xs : List V}
theorem Same.use (s : Same H H') (h : H a = some o) : H' a = some o := s _ _ h
theorem kxUse (k : Kx p H H') (h : H a = some o) (n : a ≠ p) : H' a = some o := k _ _ h n
theorem newS (e : upd H a o = H') (h : H a = none) : Same H H' := e ▸ same_upd h
theorem newO (e : upd H a o = H') : H' a = some o := by rw [← e]; exact upd_same
theorem nilsz {n : Nat} (h : n ≤ 1000000) : n ≤ sizeLine := sz h
end
end My

/-! x[i], x an instance with __getitem__ of its own. -/
namespace My
open PySem PySem.Spec PyProof.Rows L2
def fnB (C m : Str) (K : Fg) : Bool := PySem.W.fnIn K (He.ma K (He.ga K C) m)
section
variable {X : Cx} {CX : CXT} {n : Nat} {C g : Addr} {sp : Sp} {E : XK}
def rIxO (C : Addr) (sp : Sp) (E : XK) : R2 := fun x y H Q => ∃ a dx fs, x = .ref a ∧ H a = some (.ins C dx fs) ∧ sp [.ref a, y] H Q E
theorem pe_ixO {a b : Expr} {ta tb : TE} {pos : Pos} (hs : PySem.W.findIn X.K (.ref C) "__getitem__" = some (some (.ref g))) (hf : PySem.W.isFn X.K (.ref g) = true) (hn : PySem.W.fnIn X.K g = true)
    (F : FnR X.prog X.w X.K X.mg X.base CX n g sp) (hr : Room (n + 1) X.A) (hx : Passes CX X.nox E) (ha : PE X a ta) (hb : PE X b tb)
    (hsl : ∀ o i, subscripted b true o i = runValue (.builtin "lifetime.subscript" ⟨[o, i], []⟩)) : PE X (.Subscript a b pos) (tOp (rIxO C sp E) ta tb) := by
  refine ⟨fun pins s σ H Q I h => Subscript_ (binT ha hb I h fun v u s2 x y H2 I2 rx ry q => ?_)⟩
  obtain ⟨p, dx, fs, rfl, hp, q⟩ := q
  obtain rfl : v = Value.ref p := rx
  obtain ⟨od, J⟩ := inst_of I2 hp
  obtain ⟨m, hF⟩ := I2.fr
  refine PySem.W.sub_K hF I2.ok.mod.kin J hs hn hf ?_ (hsl _ _)
  have vs2 : Vals [V.ref p, y] [Value.ref p, u] := .cons rfl (.cons ry .nil)
  refine wpAny_call (codeAny_mono (F X.A.in1 X.stack _ H2 _ _ Q E hr.in1 I2.env0.in1 vs2 q) fun r s' hq => ?_)
  rcases r with er | fl
  · exact False.elim (hx pins σ H2 s2 er s' (I2.wish _) hq)
  · cases fl with
    | ret w =>
      obtain ⟨v2, H', I3, rv, q3⟩ := I2.after hq
      exact ⟨v2, H', I3, rv, q3⟩
    | next => exact False.elim hq
    | brk => exact False.elim hq
    | cont => exact False.elim hq
end
end My

/-! Plain mathematics: the numbers of a date in a series. -/
namespace My
/-- after how many turns a date of the trail is a date -/
def tts (z date n : Int) (late : Bool) : Option Int :=
  if date - z = 0 then some 0 else if late = true ∧ n ≠ 0 ∧ (date - z).fmod n = 0 ∧ 0 < (date - z).fdiv n then some ((date - z).fdiv n) else none
def numX (f : Int → Int) (x : Int) (L e : Nat) (date : Int) (j : Nat) : List Int :=
  match tts (it f x j) date (it f x L - it f x e) (decide (e ≤ j)) with
  | none => []
  | some t => [(j : Int) + t * ((L : Int) - (e : Int))]
def nums (f : Int → Int) (x : Int) (L e : Nat) (date : Int) : Nat → List Int
  | 0 => []
  | m + 1 => nums f x L e date m ++ numX f x L e date m
/-- the least number of a date -/
def NumOf (f : Int → Int) (x date : Int) : Option Int → Prop
  | none => ∀ c : Nat, it f x c ≠ date
  | some k => ∃ c : Nat, k = (c : Int) ∧ it f x c = date ∧ ∀ c' : Nat, it f x c' = date → c ≤ c'
theorem NumOf.uniq {f : Int → Int} {x date : Int} : ∀ {o o' : Option Int}, NumOf f x date o → NumOf f x date o' → o = o'
  | none, none, _, _ => rfl
  | none, some _, h, ⟨c, _, e, _⟩ => absurd e (h c)
  | some _, none, ⟨c, _, e, _⟩, h => absurd e (h c)
  | some _, some _, ⟨c, e1, h1, m1⟩, ⟨c', e2, h2, m2⟩ => by
    have := m1 c' h2
    have := m2 c h1
    rw [e1, e2]
    congr 1
    omega
section
variable {f : Int → Int} {d : Nat} {x date : Int} {L e : Nat}
theorem Trl.split (a : Trl f d x L e) (p : Per f d) (k : Nat) : ∃ j q : Nat, j < L ∧ k = j + q * (L - e) ∧ it f x k = it f x j + (q : Int) * (it f x L - it f x e) ∧ (q ≠ 0 → e ≤ j) := by
  have lt := a.lt
  rcases Nat.lt_or_ge k L with h | h
  · exact ⟨k, 0, h, by omega, by omega, fun z => absurd rfl z⟩
  · have hm := Nat.mod_lt (k - e) (show 0 < L - e by omega)
    have hd := Nat.mod_add_div (k - e) (L - e)
    refine ⟨e + (k - e) % (L - e), (k - e) / (L - e), by omega, ?_, a.at p k (by omega), fun _ => by omega⟩
    rw [Nat.mul_comm] at hd
    omega
theorem Trl.join (a : Trl f d x L e) (p : Per f d) {j : Nat} (q : Nat) (h : e ≤ j) (hj : j < L) : it f x (j + q * (L - e)) = it f x j + (q : Int) * (it f x L - it f x e) := by
  have lt := a.lt
  have s0 : 0 < L - e := by omega
  have h1 := a.at p (j + q * (L - e)) (by omega)
  have e1 : j + q * (L - e) - e = (j - e) + (L - e) * q := by rw [Nat.mul_comm]; omega
  rw [e1, Nat.add_mul_mod_self_left, Nat.add_mul_div_left _ _ s0, Nat.mod_eq_of_lt (by omega), Nat.div_eq_of_lt (by omega), show e + (j - e) = j by omega, Nat.zero_add] at h1
  exact h1
theorem nums_mem {v : Int} : ∀ {m : Nat}, v ∈ nums f x L e date m → ∃ j : Nat, j < m ∧ v ∈ numX f x L e date j
  | 0, h => by cases h
  | m + 1, h => by
    rcases List.mem_append.mp h with h | h
    · obtain ⟨j, h1, h2⟩ := nums_mem h
      exact ⟨j, by omega, h2⟩
    · exact ⟨m, by omega, h⟩
theorem mem_nums {v : Int} {j : Nat} (h : v ∈ numX f x L e date j) : ∀ {m : Nat}, j < m → v ∈ nums f x L e date m
  | 0, hj => absurd hj (by omega)
  | m + 1, hj => by
    refine List.mem_append.mpr ?_
    rcases Nat.lt_or_ge j m with c | c
    · exact .inl (mem_nums h c)
    · have : j = m := by omega
      exact .inr (this ▸ h)
theorem nums_len : ∀ {m : Nat}, (nums f x L e date m).length ≤ m
  | 0 => Nat.le_refl _
  | m + 1 => by
    have := nums_len (m := m)
    show (nums f x L e date m ++ numX f x L e date m).length ≤ m + 1
    rw [List.length_append]
    have : (numX f x L e date m).length ≤ 1 := by
      unfold numX
      split <;> simp
    omega
theorem nums_sound (a : Trl f d x L e) (p : Per f d) {v : Int} (h : v ∈ nums f x L e date L) : ∃ c : Nat, v = (c : Int) ∧ it f x c = date := by
  obtain ⟨j, hj, hv⟩ := nums_mem h
  have lt := a.lt
  unfold numX at hv
  split at hv
  · cases hv
  · rename_i t ht
    obtain rfl := List.mem_singleton.mp hv
    unfold tts at ht
    split at ht
    · rename_i h0
      obtain rfl := Option.some.inj ht
      exact ⟨j, by omega, by omega⟩
    · split at ht
      · rename_i h1
        obtain ⟨l1, n0, m0, t0⟩ := h1
        obtain rfl := Option.some.inj ht
        have hl := of_decide_eq_true l1
        obtain ⟨q, hq⟩ : ∃ q : Nat, (date - it f x j).fdiv (it f x L - it f x e) = (q : Int) := ⟨((date - it f x j).fdiv (it f x L - it f x e)).toNat, by omega⟩
        have key := Int.fmod_add_mul_fdiv (date - it f x j) (it f x L - it f x e)
        rw [m0, hq, Int.mul_comm] at key
        refine ⟨j + q * (L - e), ?_, ?_⟩
        · rw [hq, Int.natCast_add, Int.natCast_mul, Int.natCast_sub (by omega)]
        · rw [a.join p q hl hj]
          omega
      · cases ht
theorem nums_compl (a : Trl f d x L e) (p : Per f d) {c : Nat} (h : it f x c = date) : ∃ v ∈ nums f x L e date L, v ≤ (c : Int) := by
  have lt := a.lt
  obtain ⟨j, q, hj, hc, hi, he⟩ := a.split p c
  by_cases z : date - it f x j = 0
  · refine ⟨(j : Int), mem_nums (j := j) ?_ hj, by rw [hc]; omega⟩
    unfold numX
    rw [show tts (it f x j) date (it f x L - it f x e) (decide (e ≤ j)) = some 0 from if_pos z]
    simp
  · have q0 : q ≠ 0 := fun e0 => by
      rw [e0] at hi
      omega
    have n0 : it f x L - it f x e ≠ 0 := fun e0 => by
      rw [e0, Int.mul_zero] at hi
      omega
    have ed : date - it f x j = (q : Int) * (it f x L - it f x e) := by omega
    have e1 : (date - it f x j).fmod (it f x L - it f x e) = 0 := by rw [ed]; exact Int.mul_fmod_left ..
    have e2 : (date - it f x j).fdiv (it f x L - it f x e) = (q : Int) := by rw [ed]; exact Int.mul_fdiv_cancel _ n0
    refine ⟨(j : Int) + (q : Int) * ((L : Int) - (e : Int)), mem_nums (j := j) ?_ hj, ?_⟩
    · unfold numX
      rw [show tts (it f x j) date (it f x L - it f x e) (decide (e ≤ j)) = some (q : Int) from by
        unfold tts
        rw [if_neg z, if_pos ⟨decide_eq_true (he q0), n0, e1, by omega⟩, e2]]
      exact List.mem_singleton.mpr rfl
    · rw [hc, Int.natCast_add, Int.natCast_mul, Int.natCast_sub (by omega)]
      exact Int.le_refl _
theorem numOf_none (a : Trl f d x L e) (p : Per f d) (h : nums f x L e date L = []) : NumOf f x date none := fun c hc => by
  obtain ⟨v, hv, _⟩ := nums_compl a p hc
  rw [h] at hv
  cases hv
theorem numOf_some (a : Trl f d x L e) (p : Per f d) {m : Int} (h : m ∈ nums f x L e date L) (hm : ∀ y ∈ nums f x L e date L, m ≤ y) : NumOf f x date (some m) := by
  obtain ⟨c, rfl, hc⟩ := nums_sound a p h
  refine ⟨c, rfl, hc, fun c' hc' => ?_⟩
  obtain ⟨v, hv, hle⟩ := nums_compl a p hc'
  have := hm v hv
  omega
theorem Trl.dvd (a : Trl f d x L e) : (d : Int) ∣ it f x L - it f x e := Int.dvd_of_emod_eq_zero (by rw [Int.sub_emod, a.eq, Int.sub_self]; exact Int.zero_emod _)
theorem num_bnd (a : Trl f d x L e) (p : Per f d) (d0 : 0 < d) {B : Nat} (hB : ∀ j, j < L → (it f x j).natAbs ≤ B) {c k : Nat} {δ : Int} (h : it f x c = it f x k + δ) (hc : c < L ∨ it f x L - it f x e ≠ 0) : c ≤ k + L + 2 * B + δ.natAbs := by
  have lt := a.lt
  rcases hc with hc | n0
  · omega
  have Ld := a.le d0
  obtain ⟨j, q, hj, ec, hi, he⟩ := a.split p c
  obtain ⟨j', q', hj', ek, hi', he'⟩ := a.split p k
  have dn : d ≤ (it f x L - it f x e).natAbs := Nat.le_of_dvd (by omega) (Int.ofNat_dvd_left.mp a.dvd)
  have b1 := hB j hj
  have b2 := hB j' hj'
  rcases Nat.le_total q q' with hq | hq
  · have : q * (L - e) ≤ q' * (L - e) := Nat.mul_le_mul_right _ hq
    omega
  · obtain ⟨r, rfl⟩ : ∃ r, q = q' + r := ⟨q - q', by omega⟩
    have e1 : ((r : Int) * (it f x L - it f x e)) = it f x j' - it f x j + δ := by
      rw [hi, hi', Int.natCast_add, Int.add_mul] at h
      omega
    have e2 : r * (it f x L - it f x e).natAbs = (it f x j' - it f x j + δ).natAbs := by
      rw [← e1, Int.natAbs_mul, Int.natAbs_natCast]
    have e3 : r * (L - e) ≤ r * (it f x L - it f x e).natAbs := Nat.mul_le_mul_left _ (by omega)
    rw [Nat.add_mul] at ec
    omega
theorem NumOf.self (a : Trl f d x L e) (p : Per f d) (k : Nat) {o : Option Int} (h : NumOf f x (it f x k) o) : ∃ c : Nat, o = some (c : Int) ∧ it f x c = it f x k ∧ c ≤ k ∧ (it f x L - it f x e ≠ 0 → c = k) := by
  match o, h with
  | none, h => exact absurd rfl (h k)
  | some _, ⟨c, rfl, hc, hm⟩ =>
    refine ⟨c, rfl, hc, hm k rfl, fun n0 => ?_⟩
    have hck := hm k rfl
    have lt := a.lt
    rcases Nat.eq_or_lt_of_le hck with e0 | l0
    · exact e0
    exfalso
    obtain ⟨j, q, hj, ec, hi, he⟩ := a.split p c
    obtain ⟨j', q', hj', ek, hi', he'⟩ := a.split p k
    have r1 : it f x j % (d : Int) = it f x j' % (d : Int) := by
      have h1 := a.dvd
      obtain ⟨u, hu⟩ := h1
      rw [hu] at hi hi'
      have e1 : it f x j = it f x j' + (d : Int) * (u * q' - u * q) := by
        rw [Int.mul_sub]
        have : (q : Int) * ((d : Int) * u) = (d : Int) * (u * q) := by rw [Int.mul_comm, Int.mul_assoc]
        have : (q' : Int) * ((d : Int) * u) = (d : Int) * (u * q') := by rw [Int.mul_comm, Int.mul_assoc]
        omega
      rw [e1, Int.add_mul_emod_self_left]
    have jj : j = j' := by
      rcases Nat.lt_trichotomy j j' with z | z | z
      · exact absurd r1 (a.ne j j' z hj')
      · exact z
      · exact absurd r1.symm (a.ne j' j z hj)
    subst jj
    have e2 : (q : Int) * (it f x L - it f x e) = (q' : Int) * (it f x L - it f x e) := by omega
    have e3 := Int.eq_of_mul_eq_mul_right n0 e2
    have : q = q' := by omega
    subst this
    omega
end
end My

namespace My
open PySem PySem.Spec PyProof.Rows L2
/-- for i in range(n), the slot told without 0 + -/
theorem for_range0 {n : Nat} {g : TG} {tb : TS} {D : Ends} {σ : L2.St} {H : Hp} (Pv : Nat → L2.St → Hp → Prop) (h0 : Pv 0 σ H)
    (hs : ∀ i σ H, i < n → Pv i σ H → g (.int (i : Nat)) σ H fun σ2 H2 => tb { D with nx := Pv (i + 1), ct := Pv (i + 1), bk := D.nx } σ2 H2) (hd : ∀ σ H, Pv n σ H → D.nx σ H) :
    ∃ W : Nat → Nat → L2.St → Hp → Prop, (∃ m, W 0 m σ H) ∧ ∀ i m σ H, W i m σ H →
      ((Itr 0 n).stop i H ∧ D.nx σ H) ∨ ((Itr 0 n).go i H ∧ ∃ N : L2.St → Hp → Prop, (∀ σ' H', N σ' H' → ∃ m', m' < m ∧ W (i + 1) m' σ' H') ∧ ∀ x H', (Itr 0 n).yld i H x H' → g x σ H' fun σ2 H2 => tb { D with nx := N, ct := N, bk := D.nx } σ2 H2) :=
  for_range Pv h0 (fun i σ H hi p => by
    rw [show (0 : Int) + (i : Int) = (i : Int) from Int.zero_add _]
    exact hs i σ H hi p) hd
/-- a comprehension over range(n), the slot told without 0 + -/
theorem walk_range0 {n : Nat} : Walk (Itr 0 n) n (fun _ => True) (YFn fun i => .int (i : Nat)) := by
  have h := walk_range (lo := 0) (n := n)
  rw [show (fun i : Nat => V.int (0 + (i : Int))) = fun i : Nat => V.int (i : Int) from funext fun i => by rw [Int.zero_add]] at h
  exact h
theorem Same.via {H H1 H2 : Hp} (b : Same H1 H2) (a : Same H H1) : Same H H2 := a.trans b
theorem at_add {xs : List V} {a b : Nat} {v : V} (h : xs[a + b]? = some v) : atI xs ((a : Int) + (b : Int)) = some v := at_of (Int.natCast_add a b).symm h
theorem mulL {i j : Int} (h : -(2 ^ 64) < i ∧ i < 2 ^ 64) : CMul i j := .inl h
theorem mulR {i j : Int} (h : -(2 ^ 64) < j ∧ j < 2 ^ 64) : CMul i j := .inr h
end My

/-! Plain mathematics: the level of two series. -/
namespace My
/-- the least number with the same date -/
def LevOf (f : Int → Int) (x : Int) (g : Int → Int) (y : Int) : Option Int → Prop
  | none => ∀ c : Nat, it f x c ≠ it g y c
  | some k => ∃ c : Nat, k = (c : Int) ∧ it f x c = it g y c ∧ ∀ c' : Nat, it f x c' = it g y c' → c ≤ c'
theorem LevOf.uniq {f : Int → Int} {x : Int} {g : Int → Int} {y : Int} : ∀ {o o' : Option Int}, LevOf f x g y o → LevOf f x g y o' → o = o'
  | none, none, _, _ => rfl
  | none, some _, h, ⟨c, _, e, _⟩ => absurd e (h c)
  | some _, none, ⟨c, _, e, _⟩, h => absurd e (h c)
  | some _, some _, ⟨c, e1, h1, m1⟩, ⟨c', e2, h2, m2⟩ => by
    have := m1 c' h2
    have := m2 c h1
    rw [e1, e2]
    congr 1
    omega
theorem LevOf.symm {f : Int → Int} {x : Int} {g : Int → Int} {y : Int} : ∀ {o : Option Int}, LevOf f x g y o → LevOf g y f x o
  | none, h => fun c e => h c e.symm
  | some _, ⟨c, e1, h1, m1⟩ => ⟨c, e1, h1.symm, fun c' e => m1 c' e.symm⟩
/-- what a look at one number finds: gap, drift, whether it is late -/
def lvs (gap drift : Int) (late : Bool) : Option Int :=
  if gap = 0 then some 0 else if late = true ∧ drift ≠ 0 ∧ gap.fmod drift = 0 ∧ 0 < gap.fdiv drift then some (gap.fdiv drift) else none
def levX (f : Int → Int) (x : Int) (g : Int → Int) (y : Int) (e : Nat) (s : Nat) (drift : Int) (j : Nat) : List Int :=
  match lvs (it g y j - it f x j) drift (decide (e ≤ j)) with
  | none => []
  | some t => [(j : Int) + t * (s : Int)]
def levs (f : Int → Int) (x : Int) (g : Int → Int) (y : Int) (e s : Nat) (drift : Int) : Nat → List Int
  | 0 => []
  | m + 1 => levs f x g y e s drift m ++ levX f x g y e s drift m
section
variable {f g : Int → Int} {x y : Int} {e s : Nat} {drift : Int}
theorem levs_mem {v : Int} : ∀ {m : Nat}, v ∈ levs f x g y e s drift m → ∃ j : Nat, j < m ∧ v ∈ levX f x g y e s drift j
  | 0, h => by cases h
  | m + 1, h => by
    rcases List.mem_append.mp h with h | h
    · obtain ⟨j, h1, h2⟩ := levs_mem h
      exact ⟨j, by omega, h2⟩
    · exact ⟨m, by omega, h⟩
theorem mem_levs {v : Int} {j : Nat} (h : v ∈ levX f x g y e s drift j) : ∀ {m : Nat}, j < m → v ∈ levs f x g y e s drift m
  | 0, hj => absurd hj (by omega)
  | m + 1, hj => by
    refine List.mem_append.mpr ?_
    rcases Nat.lt_or_ge j m with c | c
    · exact .inl (mem_levs h c)
    · have : j = m := by omega
      exact .inr (this ▸ h)
theorem levs_len : ∀ {m : Nat}, (levs f x g y e s drift m).length ≤ m
  | 0 => Nat.le_refl _
  | m + 1 => by
    have := levs_len (m := m)
    show (levs f x g y e s drift m ++ levX f x g y e s drift m).length ≤ m + 1
    rw [List.length_append]
    have : (levX f x g y e s drift m).length ≤ 1 := by
      unfold levX
      split <;> simp
    omega
/-- from e on, s numbers later the gap is less by the drift -/
def Drf (f : Int → Int) (x : Int) (g : Int → Int) (y : Int) (e s : Nat) (drift : Int) : Prop := ∀ j q : Nat, e ≤ j → it g y (j + q * s) - it f x (j + q * s) = it g y j - it f x j - (q : Int) * drift
theorem levs_sound (D : Drf f x g y e s drift) {m : Nat} {v : Int} (h : v ∈ levs f x g y e s drift m) : ∃ c : Nat, v = (c : Int) ∧ it f x c = it g y c := by
  obtain ⟨j, hj, hv⟩ := levs_mem h
  unfold levX at hv
  split at hv
  · cases hv
  · rename_i t ht
    obtain rfl := List.mem_singleton.mp hv
    unfold lvs at ht
    split at ht
    · rename_i h0
      obtain rfl := Option.some.inj ht
      exact ⟨j, by omega, by omega⟩
    · split at ht
      · rename_i h1
        obtain ⟨l1, n0, m0, t0⟩ := h1
        obtain rfl := Option.some.inj ht
        have hl := of_decide_eq_true l1
        obtain ⟨q, hq⟩ : ∃ q : Nat, (it g y j - it f x j).fdiv drift = (q : Int) := ⟨((it g y j - it f x j).fdiv drift).toNat, by omega⟩
        have key := Int.fmod_add_mul_fdiv (it g y j - it f x j) drift
        rw [m0, hq, Int.mul_comm] at key
        refine ⟨j + q * s, ?_, ?_⟩
        · rw [hq, Int.natCast_add, Int.natCast_mul]
        · have := D j q hl
          omega
      · cases ht
theorem levs_compl (D : Drf f x g y e s drift) (s0 : 0 < s) {c : Nat} (h : it f x c = it g y c) : ∃ v ∈ levs f x g y e s drift (e + s), v ≤ (c : Int) := by
  obtain ⟨j, q, hj, hc, he⟩ : ∃ j q : Nat, j < e + s ∧ c = j + q * s ∧ (q ≠ 0 → e ≤ j) := by
    rcases Nat.lt_or_ge c (e + s) with z | z
    · exact ⟨c, 0, z, by omega, fun w => absurd rfl w⟩
    · have h1 := Nat.mod_lt (c - e) s0
      have h2 := Nat.mod_add_div (c - e) s
      refine ⟨e + (c - e) % s, (c - e) / s, by omega, ?_, fun _ => by omega⟩
      rw [Nat.mul_comm] at h2
      omega
  by_cases z : it g y j - it f x j = 0
  · refine ⟨(j : Int), mem_levs (j := j) ?_ hj, by rw [hc]; omega⟩
    unfold levX
    rw [show lvs (it g y j - it f x j) drift (decide (e ≤ j)) = some 0 from if_pos z]
    simp
  · have q0 : q ≠ 0 := fun e0 => by
      rw [e0, Nat.zero_mul, Nat.add_zero] at hc
      rw [hc] at h
      omega
    have dj := D j q (he q0)
    rw [← hc, h] at dj
    have ed : it g y j - it f x j = (q : Int) * drift := by omega
    have n0 : drift ≠ 0 := fun e0 => by
      rw [e0, Int.mul_zero] at ed
      exact z ed
    have e1 : (it g y j - it f x j).fmod drift = 0 := by rw [ed]; exact Int.mul_fmod_left ..
    have e2 : (it g y j - it f x j).fdiv drift = (q : Int) := by rw [ed]; exact Int.mul_fdiv_cancel _ n0
    refine ⟨(j : Int) + (q : Int) * (s : Int), mem_levs (j := j) ?_ hj, ?_⟩
    · unfold levX
      rw [show lvs (it g y j - it f x j) drift (decide (e ≤ j)) = some (q : Int) from by
        unfold lvs
        rw [if_neg z, if_pos ⟨decide_eq_true (he q0), n0, e1, by omega⟩, e2]]
      exact List.mem_singleton.mpr rfl
    · rw [hc, Int.natCast_add, Int.natCast_mul]
      exact Int.le_refl _
theorem lev_none (D : Drf f x g y e s drift) (s0 : 0 < s) (h : levs f x g y e s drift (e + s) = []) : LevOf f x g y none := fun c hc => by
  obtain ⟨v, hv, _⟩ := levs_compl D s0 hc
  rw [h] at hv
  cases hv
theorem lev_some (D : Drf f x g y e s drift) (s0 : 0 < s) {m : Int} (h : m ∈ levs f x g y e s drift (e + s)) (hm : ∀ z ∈ levs f x g y e s drift (e + s), m ≤ z) : LevOf f x g y (some m) := by
  obtain ⟨c, rfl, hc⟩ := levs_sound D h
  refine ⟨c, rfl, hc, fun c' hc' => ?_⟩
  obtain ⟨v, hv, hle⟩ := levs_compl D s0 hc'
  have := hm v hv
  omega
/-- a trail goes on by turns: any multiple of its turn -/
theorem Trl.turns {d L a : Nat} (t : Trl f d x L a) (p : Per f d) (u : Nat) (j q : Nat) (h : a ≤ j) : it f x (j + q * (u * (L - a))) = it f x j + (q : Int) * ((u : Int) * (it f x L - it f x a)) := by
  have lt := t.lt
  have s0 : 0 < L - a := by omega
  obtain ⟨i, k, hi, hj, hv, hk⟩ := t.split p j
  have hai : a ≤ i := by
    rcases Nat.eq_zero_or_pos k with k0 | k0
    · subst k0
      omega
    · exact hk (by omega)
  have e1 := t.join p (k + q * u) hai hi
  have e2 := t.join p k hai hi
  have e3 : j + q * (u * (L - a)) = i + (k + q * u) * (L - a) := by
    rw [hj, Nat.add_mul, Nat.mul_assoc]
    omega
  rw [e3, e1, hj, e2, Int.natCast_add, Int.natCast_mul, Int.add_mul, Int.mul_assoc]
  omega
/-- the drift of two series -/
theorem drf_of {d d' L a L' b u v : Nat} (t : Trl f d x L a) (p : Per f d) (t' : Trl g d' y L' b) (p' : Per g d') (hs : u * (L - a) = v * (L' - b)) :
    Drf f x g y (max a b) (u * (L - a)) ((u : Int) * (it f x L - it f x a) - (v : Int) * (it g y L' - it g y b)) := fun j q h => by
  have h1 := t.turns p u j q (by omega)
  have h2 := t'.turns p' v j q (by omega)
  rw [← hs] at h2
  rw [h1, h2]
  generalize (u : Int) * (it f x L - it f x a) = A
  generalize (v : Int) * (it g y L' - it g y b) = B
  rw [Int.mul_sub]
  omega
end
end My

/-! Own errors with an __init__ that keeps one field, over any built-in error. -/
namespace My
open PySem PySem.Spec PyProof.Rows L2
section
open Builtin Builtin.ObjectAttr
variable {prog : Program} {w : World} {A : Around} {R : Result → Shared → Prop} {hp : Heap} {g : Array GenState} {d : Drawn} {t : Nat} {os : OsState} {K : PySem.W.Frag}
/-- the first field of a new error -/
theorem osa_any {B : String} {bmB : List Value} {name : Str} {tk : Tok} {v : Value} {x C : Addr} {fv : Array Value} {cd : ClassData}
    (SF : StoreFacts B bmB "object.__setattr__" "object") (hK : K.In hp) (hx : hp.get? x = some { cls := .ref C, data := .fields fv }) (ov : PySem.W.excOver K C bmB = true) (hcd : PySem.W.clsIn K C = some cd) (hh : cd.hasDict = true)
    (tn : PySem.W.takerIn K C name = some none)
    (go : ∀ h' tk' dx, (∀ b o, b ≠ x → hp.get? b = some o → h'.get? b = some o) → hp.objs.size ≤ dx → dx ≠ x → h'.get? x = some { cls := .ref C, dict := some dx, data := .fields fv } →
      h'.Ns1 dx (fun y => if y = name then some v else none) → R (.ok (.ret .none)) ⟨h', g, d, tk', os⟩) :
    codeAny (model prog w) A (.call (.builtin "object.__setattr__") ⟨[.ref x, .str name tk, v], []⟩) R ⟨hp, g, d, t, os⟩ := by
  refine PySem.W.osa_openX (s := ⟨hp, g, d, t, os⟩) (r := none) (od := none) SF hK ⟨hx, rfl, rfl, trivial⟩ ov tn fun bb => ?_
  have lc : PySem.W.Looks (model prog w) hp (classData C) cd := PySem.W.looks_clsIn hK hcd
  have xs : x ≠ hp.objs.size := Nat.ne_of_lt (Heap.lt_size hx)
  obtain ⟨nm, bs, mro, ns, qn, hd, sn, sb, ab, col, del⟩ := cd
  cases (show hd = true from hh)
  show wpAny _ _ (storeInOwnDict (.ref x) (.ref C) (.str name tk) name v bb) _ _ _
  unfold storeInOwnDict ownDictForStores
  repeat (first | with_reducible refine PySem.HandSPX.store_in_new ?_ ?_ | with_reducible refine wpAny_loadPart_at hx ?_ | with_reducible refine lc.at ?_ | wp_step)
  · exact ⟨_, #[], _, (Heap.get?_update_ne _ _ _ _ (Ne.symm xs)).trans (Heap.get?_push_at rfl rfl), rfl, fun _ z => absurd z (by simp), fun _ => rfl⟩
  · intro h1 t1 n1 s1
    refine go h1 t1 hp.objs.size (fun b o ne ho => (s1.2 b (Nat.ne_of_lt (Heap.lt_size ho))).trans ?_) (Nat.le_refl _) (Ne.symm xs) ((s1.2 x xs).trans ?_) n1
    · rw [Heap.get?_update_ne _ _ _ _ ne]
      exact Heap.get?_push_of_some _ ho
    · exact Heap.get?_update_self _ (Heap.get?_push_of_some _ hx) rfl
end
/-- what the written part says of an error's class at C -/
structure ErrC (K : PySem.W.Frag) (C : Addr) : Prop where
  base : ∃ (B newId initId : String) (bmB : List Value), ExcBaseFacts B newId initId bmB ∧ StoreFacts B bmB "object.__setattr__" "object" ∧
    ∃ nm q N bs bm sn sub ab col dd k0 k1 k2 k3 k5, K.lookup C = some (excClassObj nm q C N bs bm true sn sub ab col dd k0 k1 k2 k3 k5 newId) ∧ PySem.W.excTail bmB bm = true
  sa : PySem.W.findIn K (.ref C) "__setattr__" = some (some (.builtin "object.__setattr__"))
  exC : PySem.W.subIn K (.ref C) (.type "BaseException") = some true
  tyC : PySem.W.typeIn K (.ref C) = some (.type "type")
  kC : PySem.W.keepIn K (.ref C) = true
section
variable {X : Cx} {pins : List (Addr × Obj)} {σ : L2.St} {H : Hp} {s : Shared} {a C : Addr} {f : Str} {y : V} {u : Value}
theorem ErrC.store (T : ErrC X.K C) (I : Inv X pins σ H s) (ea : H a = some (exo a C none)) (no : PySem.W.findIn X.K (.ref C) f = some none) (ry : RelV y u) {Q : Unit → Shared → Prop} {E : Value → Shared → Prop} {A : Around}
    (go : ∀ dx s', H dx = none → dx ≠ a → Inv X pins σ (upd (upd H dx (exd dx [(f, y)])) a (exo a C (some dx))) s' → Q () s') : wpAny (model X.prog X.w) A (setAttr (.ref a) f u) Q E s := by
  obtain ⟨B, newId, initId, bmB, _, SF, nm, q, N, bs, bm, sn, sub, ab, col, dd, k0, k1, k2, k3, k5, eC, et⟩ := T.base
  obtain ⟨cd, ec, ehd, eov⟩ : ∃ cd, PySem.W.clsIn X.K C = some cd ∧ cd.hasDict = true ∧ PySem.W.excOver X.K C bmB = true := by
    refine ⟨_, by unfold PySem.W.clsIn; rw [eC], rfl, ?_⟩
    unfold PySem.W.excOver PySem.W.clsIn
    rw [eC]
    show (C == C && PySem.W.excTail bmB bm) = true
    rw [et, beq_self_eq_true]
    rfl
  have tn : PySem.W.takerIn X.K C f = some none := by
    unfold PySem.W.takerIn
    rw [no]
    rfl
  obtain ⟨t1, ho⟩ := exo_at I.hok ea
  obtain ⟨hp, g, d, t, os⟩ := s
  refine PySem.W.set_plain I.kIn (od := none) ⟨ho, rfl, rfl, trivial⟩ T.sa (osa_any SF I.kIn ho eov ec ehd tn fun h1 t2 dx kp dn dne hx hn => ?_)
  have fr : H dx = none := I.hok.fresh dn
  have old : ∀ {b : Addr} {o : Obj}, hp.get? b = some o → b ≠ dx := fun {b o} z => Nat.ne_of_lt (Nat.lt_of_lt_of_le (Heap.lt_size z) dn)
  have nota : ∀ {b : Addr}, H b = none → b ≠ a := fun {b} z e => by
    rw [e, ea] at z
    cases z
  have both : ∀ {b : Addr} {o : HO}, H b = some o → b ≠ a → upd (upd H dx (exd dx [(f, y)])) a (exo a C (some dx)) b = some o := fun {b o} z e => by
    rw [upd_ne e, upd_ne (ne_of_none z fr)]
    exact z
  have U : Un X.fs [] H (upd (upd H dx (exd dx [(f, y)])) a (exo a C (some dx))) hp h1 := by
    constructor
    case keep => exact fun b o z n _ _ => kp b o (nota n) z
    case slot => exact fun b o z n _ _ => ⟨o.slots, kp b o (nota n) z⟩
    case free =>
      intro b o z n _
      rw [upd_ne (nota n), upd_ne (old z)]
      exact n
    case there =>
      intro b o z _
      by_cases hb : b = a
      · exact ⟨_, hb ▸ hx⟩
      · exact ⟨o, kp b o hb z⟩
    case tups => exact fun b xs z => both z (at_ne ea z exo_tup)
    case frzs => exact fun b o v z => both z (at_ne ea z exo_frz)
    case tbls => exact fun b ps z => ⟨#[], by rw [both z (at_ne ea z exo_tbl)]; simp⟩
  refine go dx _ fr dne (I.un (t' := t2) U fun b o z => ?_)
  by_cases hb : b = a
  · subst hb
    rw [upd_same] at z
    obtain rfl := Option.some.inj z
    exact exo_ok hx
  rw [upd_ne hb] at z
  by_cases hd : b = dx
  · subst hd
    rw [upd_same] at z
    obtain rfl := Option.some.inj z
    exact exd_ok hn (relO_put (fs := []) ry fun g => True.intro)
  rw [upd_ne hd] at z
  refine (I.hok b o z).stay (fun c v hc e => kp c v ?_ e) (fun c e => both e (at_ne ea e exo_own)) fun c xs e => both e (at_ne ea e exo_tup)
  rcases hc with hc | hc
  · rw [hc]
    exact hb
  · exact at_ne ea hc exo_own
/-- self.f = e in an error's __init__ -/
def tErS (K : PySem.W.Frag) (f : Str) (to te : TE) : TS := fun D σ H => te σ H fun y H1 => to σ H1 fun x H2 => ∃ a C : Addr, x = .ref a ∧ ErrC K C ∧ PySem.W.findIn K (.ref C) f = some none ∧ H2 a = some (exo a C none) ∧
  ∀ dx, H2 dx = none → dx ≠ a → D.nx σ (upd (upd H2 dx (exd dx [(f, y)])) a (exo a C (some dx)))
theorem ps_ers {o e : Expr} {to te : TE} {p pos : Pos} (ho : PE X o to) (he : PE X e te) (hs : swapsWith e (some (.Attribute o f p)) pos.line X.env = pure false := by rfl) : PS X (.Assign [.Attribute o f p] e pos) (tErS X.K f to te) := by
  refine ⟨fun pins s σ H D I h => plainObj_wpAny_Assign_Attribute (thn (he.run pins s σ H _ I h) fun v s1 z => ?_) hs⟩
  obtain ⟨y, H1, I1, r1, q1⟩ := z
  refine thn (ho.run pins s1 σ H1 _ I1 q1) fun u s2 z => ?_
  obtain ⟨x, H2, I2, r2, a, C, rfl, T, no, ea, q⟩ := z
  obtain rfl : u = Value.ref a := r2
  exact T.store I2 ea no r1 fun dx s3 n ne J => ⟨σ, _, J, q dx n ne⟩
variable {x nm qual : Str} {st : Stmt} {fI : Addr} {k : Nat} {ps : List Str} {e : Expr} {te : TE} {p pos : Pos}
/-- C(e), an error of one field made: its reading -/
def tMkE (C : Addr) (f : Str) (te : TE) : L2.St → Hp → XK → Prop := fun σ H Q => te σ H fun v H1 => ∀ d, H1 d = none → Q (.ref C) (some d) (upd H1 d (.xd [(f, v)]))
theorem pmk_errB (T : ErrC X.K C) (iC : PySem.W.findIn X.K (.ref C) "__init__" = some (some (.ref fI))) (tI : PySem.W.typeIn X.K (.ref fI) = some (.type "function"))
    (F1 : FnQ X.prog X.w X.K X.mg X.base k fI nm qual st ps (spErr f C))
    (hb : ∀ (kV doc pm : Value) (an : Option Addr) (cdv ct : Value) (us : List Value), us.length = ps.length → bindArgs (PySem.W.fnOf nm qual (defArgs st) (defBody st) (defScope st) .none kV doc pm an cdv ct) ⟨us, []⟩ = pure (ps.zip us))
    (hr : Room (k + 1) X.A) (hm : X.mg x = some (.ref C)) (he : PE X e te) (hg : Gl X x := by rfl)
    (hdb : (x == ("__debug__" : Str)) = false := by decide) (hse : starEach [e] X.env = (false, eval e X.env) :: starEach [] X.env := by rfl) (hpl : (backTo pos (starEach [] X.env)).any (·.1) = false := by rfl) :
    PMk X (.Call (.Name x p) [e] [] pos) (tMkE C f te) := by
  obtain ⟨fd, F0, G0⟩ := F1.o
  have G : FnOk X.prog X.w X.K X.mg X.base CX0 k fI fd ps (spErr f C) := G0
  intro pins s σ H Q I h
  obtain ⟨B, newId, initId, bmB, FB, SF, nm2, q2, N, bs, bm, sn, sub, ab, col, dd, k0, k1, k2, k3, k5, eC, et⟩ := T.base
  have arg := (pa_cons he pa_nil hse).run pos pins s σ H (fun vs H1 => match vs with
    | [v] => ∀ d, H1 d = none → Q (.ref C) (some d) (upd H1 d (.xd [(f, v)]))
    | _ => False) I h
  refine wpAny_Call_Name_kw (ld_glob I hg hm ?_ hdb)
  refine PySem.W.callWith_K (h₀ := X.base) I.ok.mod.kin T.kC (thn arg fun us s1 z => ?_) hse hpl
  obtain ⟨vs, H1, I1, r1, q1⟩ := z
  match vs, q1, r1 with
  | [v], q1, r1 =>
    refine ⟨I1.kIn, ?_⟩
    show wpAny _ _ (call (.ref C) us) _ _ _
    obtain ⟨q0, go⟩ := err_go (C := C) (f := f) (v := v) q1
    obtain ⟨hp, g, dr, tk, os⟩ := s1
    have more : ∀ b o, hp.get? b = some o → ((hp.push (PySem.W.kdv_tup us)).push (PySem.HandSPX.excO C hp.objs.size)).get? b = some o := fun b o z => Heap.get?_push_of_some _ (Heap.get?_push_of_some _ z)
    have here : ((hp.push (PySem.W.kdv_tup us)).push (PySem.HandSPX.excO C hp.objs.size)).get? (hp.objs.size + 1) = some (PySem.HandSPX.excO C hp.objs.size) := by heap_get
    have hsz := Nat.le_succ hp.objs.size
    have hn : H1 (hp.objs.size + 1) = none := I1.hok.fresh hsz
    have I2 := I1.laid (t' := tk) (a := hp.objs.size + 1) (o := exo (hp.objs.size + 1) C none) more hsz (exo_ok here)
    have hq := go _ hn
    have r2 : Vals (V.ref (hp.objs.size + 1) :: ([v] ++ [])) (Value.ref (hp.objs.size + 1) :: (us ++ [])) := .cons rfl (r1.append .nil)
    have hl : (Value.ref (hp.objs.size + 1) :: us ++ []).length = ps.length := r2.length.symm.trans (G.len _ _ _ _ hq)
    have hus : us.length ≤ sizeLine := by
      have z := Paired.length r1
      rw [← z]
      show 1 ≤ sizeLine
      decide
    have run := G.run _ X.stack _ _ ⟨Value.ref (hp.objs.size + 1) :: us, []⟩ _ _ _ (fun _ _ _ => False) (hr.make C us []) (I2.env0.make C us []) ((F0.bindsN hb) _ (Value.ref (hp.objs.size + 1) :: us) I2.kIn hl) r2 hq
    refine wpAny_call (PySem.HandSPX.call_own FB (fun Y => PySem.W.excTail_contains Y bm et) (I1.kIn _ _ eC) (PySem.W.looks_findIn I1.kIn iC) (fun self => PySem.W.bind_fn I1.kIn self tI) hus (codeAny_mono run fun r s2 z => ?_))
    cases r with
    | error er => exact (pass0 (X := X)) pins σ _ _ er s2 I2 z
    | ok fl =>
      cases fl with
      | next => exact False.elim z
      | brk => exact False.elim z
      | cont => exact False.elim z
      | ret u =>
        obtain ⟨v2, H2, o2, b2, un2, ok2, rv, rfl, d, fs, ea, ed, hd1, q2⟩ := z
        obtain ⟨h2, g2, d2, t2, os2⟩ := s2
        exact ⟨rv, mk_end (raises_own T.exC T.tyC) I1 hsz more un2 ok2 o2 b2 ea ed hd1 q2⟩
end
/-! ### the looks -/
def errB (c : Str) (newId : String) (bmB : List Value) (K : Fg) : Bool :=
  (match K.lookup (He.ga K c) with
    | some ⟨.type "type", _, .cls cd, sl⟩ => (match cd.mro, sl.toList with
      | .ref C' :: bm, [_, _, _, _, some (.builtin n), _] => C' == He.ga K c && n == newId && !cd.hasDel && cd.hasDict && PySem.W.excTail bmB bm
      | _, _ => false)
    | _ => false) &&
  (He.eqO (PySem.W.findIn K (.ref (He.ga K c)) "__setattr__") (some (some (.builtin "object.__setattr__"))) && (decide (PySem.W.subIn K (.ref (He.ga K c)) (.type "BaseException") = some true) &&
  (decide (PySem.W.typeIn K (.ref (He.ga K c)) = some (.type "type")) && PySem.W.keepIn K (.ref (He.ga K c)))))
theorem errB_ok {c : Str} {B newId initId : String} {bmB : List Value} {K : Fg} (FB : ExcBaseFacts B newId initId bmB) (SF : StoreFacts B bmB "object.__setattr__" "object") (h : errB c newId bmB K = true) : ErrC K (He.ga K c) := by
  unfold errB at h
  obtain ⟨h0, h⟩ := He.ba h
  obtain ⟨h1, h⟩ := He.ba h
  obtain ⟨h2, h⟩ := He.ba h
  obtain ⟨h3, h4⟩ := He.ba h
  refine ⟨⟨B, newId, initId, bmB, FB, SF, ?_⟩, He.eqO_ok h1, of_decide_eq_true h2, of_decide_eq_true h3, h4⟩
  split at h0
  · rename_i dd cd sl ho
    split at h0
    · rename_i C' bm k0 k1 k2 k3 n k5 hm hs
      simp only [Bool.and_eq_true, beq_iff_eq, Bool.not_eq_true'] at h0
      obtain ⟨⟨⟨⟨e1, e2⟩, e3⟩, e4⟩, e5⟩ := h0
      obtain ⟨nm, bs, mro, ns, qn, hd, sn, sub, ab, col, del⟩ := cd
      obtain ⟨l⟩ := sl
      dsimp only at hm e3 e4 hs
      subst hm e3 e4 hs e1 e2
      exact ⟨nm, qn, ns, bs, bm, sn, sub, ab, col, dd, k0, k1, k2, k3, k5, ho, e5⟩
    · cases h0
  · cases h0
/-- the error's __init__ is its own def; its field is no attribute of the class -/
def erIB (c f : Str) (K : Fg) : Bool := He.eqO (PySem.W.findIn K (.ref (He.ga K c)) "__init__") (some (some (.ref (He.ma K (He.ga K c) "__init__")))) &&
  (decide (PySem.W.typeIn K (.ref (He.ma K (He.ga K c) "__init__")) = some (.type "function")) && decide (PySem.W.findIn K (.ref (He.ga K c)) f = some none))
theorem erIB_ok {c f : Str} {K : Fg} (h : erIB c f K = true) : PySem.W.findIn K (.ref (He.ga K c)) "__init__" = some (some (.ref (He.ma K (He.ga K c) "__init__"))) ∧
    PySem.W.typeIn K (.ref (He.ma K (He.ga K c) "__init__")) = some (.type "function") ∧ PySem.W.findIn K (.ref (He.ga K c)) f = some none := by
  obtain ⟨h1, h⟩ := He.ba h
  obtain ⟨h2, h3⟩ := He.ba h
  exact ⟨He.eqO_ok h1, of_decide_eq_true h2, of_decide_eq_true h3⟩
/-- what isinstance and e.f ask of the class -/
def exIB (c : Str) (K : Fg) : Bool := L2.xfB K (He.ga K c) && (He.eqO (PySem.W.findIn K (.ref (He.ga K c)) "__class__") (some (some (.builtin "object.__class__"))) &&
  (He.eqO (PySem.W.specialIn K (.builtin "object.__class__") "__get__") (some (some (.builtin "getset_descriptor.__get__"))) && (decide (PySem.W.takesIn K (.builtin "object.__class__") = some true) && decide (PySem.W.mroIn K (He.ga K c) (.type "object") = some true))))
theorem exIB_ok {c : Str} {K : Fg} (h : exIB c K = true) : XfC K (He.ga K c) ∧ ExcC K (He.ga K c) := by
  obtain ⟨h0, h⟩ := He.ba h
  obtain ⟨h1, h⟩ := He.ba h
  obtain ⟨h2, h⟩ := He.ba h
  obtain ⟨h3, h4⟩ := He.ba h
  have x := xfB_ok h0
  exact ⟨x, ⟨x.ga, x.gg, x.exC, x.hdC, He.eqO_ok h1, He.eqO_ok h2, of_decide_eq_true h3, of_decide_eq_true h4⟩⟩
/-- except D meets an error of the class C or not -/
def exmB (c d : Str) (b : Bool) (K : Fg) : Bool := decide (PySem.W.exmOne K (.ref (He.ga K c)) (.ref (He.ga K d)) = some b)
/-- isinstance(e, D) of an error of the class C -/
def isxB (c d : Str) (b : Bool) (K : Fg) : Bool := decide (PySem.W.kitOne K (.ref (He.ga K c)) (.ref (He.ga K d)) = some b)
/-- isinstance(e, B), B a built-in error -/
def isyB (c : Str) (d : String) (b : Bool) (K : Fg) : Bool := decide (PySem.W.kitOne K (.ref (He.ga K c)) (.type d) = some b)
end My

/-! Calls that may raise, where what is raised is wished for at any slots; defs with two promises. -/
namespace My
open PySem PySem.Spec PyProof.Rows L2
/-- what W wishes, whatever the slots are -/
def EA (N : List Str) (W : WX) : XK := fun cls d H => ∀ σ : L2.St, σ.length = N.length → W cls d σ H
theorem takesL {X : Cx} {W : WX} (tk : Takes X W) : Takes X (fun cls d σ H => σ.length = X.N.length → W cls d σ H) := fun u s' z => by
  obtain ⟨a, B, sI, pins, σ, H, cls, d, e, I, nb, up, sky, na, os, ag, q⟩ := z
  exact tk u s' ⟨a, B, sI, pins, σ, H, cls, d, e, I, nb, up, sky, na, os, ag, q I.len⟩
theorem passX {X : Cx} {W : WX} {N : List Str} (tk : Takes X W) (hN : X.N = N := by rfl) : Passes (L2.CX X.prog X.w) X (EA N W) := by
  subst hN
  exact passes_call (takesL tk) fun _ _ σ _ h l => h σ l
section
variable {P : Program} {w : World} {K : Fg} {mg : Str → Option Value} {base : Heap} {k j : Nat} {f : Addr} {sp1 sp2 : Sp}
theorem fn_never (F : FnR P w K mg base CX0 k f sp1) : FnR P w K mg base (L2.CX P w) k f (fun vs H Q _ => sp1 vs H Q E0) := fun A outer s H us vs Q E hr e0 r h =>
  codeAny_mono (F A outer s H us vs Q E0 hr e0 r h) fun r s' z => by
    cases r with
    | error e => exact False.elim z
    | ok fl =>
      cases fl with
      | ret v => exact z
      | next => exact False.elim z
      | brk => exact False.elim z
      | cont => exact False.elim z
/-- what returns, by one promise, or raises, by another -/
theorem fn_both (F1 : FnR P w K mg base CX0 k f sp1) (F2 : FnR P w K mg base (L2.CX P w) j f sp2) (h : j ≤ k) : FnR P w K mg base (L2.CX P w) k f (fun vs H Q E => sp1 vs H Q E0 ∨ sp2 vs H Q E) := fun A outer s H us vs Q E hr e0 r z =>
  z.elim (fun z => fn_never F1 A outer s H us vs Q E hr e0 r z) fun z => F2 A outer s H us vs Q E (hr.mono h) e0 r z
end
theorem tk0 {X : Cx} : Takes X (fun _ _ _ _ => False) := fun _ _ z => by
  obtain ⟨_, _, _, _, _, _, _, _, _, _, _, _, _, _, _, _, q⟩ := z
  exact q.elim
/-- in a def that may raise -/
theorem passD {P : Program} {w : World} {K : Fg} {mg : Str → Option Value} {base : Heap} {N : List Str} {qual : Str} {scope : Scope} {f : Addr} {cd : Value} {A : Around} {outer : List Env} {s : Shared} {H : Hp} {E : XK} :
    Passes (L2.CX P w) (cxX P w K mg base N qual scope f cd A outer s H E) E := passes_call (X := cxX P w K mg base N qual scope f cd A outer s H E) cxX_takes fun _ _ _ _ h => h
/-- isinstance of a kept error, the written part told -/
theorem isx_k {fa : List (Fg → Bool)} {fn : List He5.DefA} {K : Fg} {mg : Str → Option Value} {X : Cx} (T : TxOf fa fn K mg) (hK : X.K = K := by rfl) : CallR X (.builtin "isinstance") (rIsX K) := by subst hK; exact call_isX
theorem isxT_k {fa : List (Fg → Bool)} {fn : List He5.DefA} {K : Fg} {mg : Str → Option Value} {X : Cx} (T : TxOf fa fn K mg) (hK : X.K = K := by rfl) : CallR X (.builtin "isinstance") (rIsXT K) := by subst hK; exact call_isXT
end My

/-! repr of values with dicts in them. -/
namespace My
open PySem PySem.Spec PyProof.Rows L2
def kD : Key → PyData
  | .inl i => .int i
  | .inr x => .str x
/-- the interpreter's own dict of modules is in the written part -/
def smB (K : Fg) : Bool := match K.lookup sysModules with
  | some o => o.cls == .type "dict"
  | none => false
mutual
inductive ShwD (K : Fg) (H : Hp) : V → PyData → Prop
  | non : ShwD K H .non .none
  | bl (b : Bool) : ShwD K H (.bl b) (.bool b)
  | int (i : Int) : ShwD K H (.int i) (.int i)
  | str (x : Str) : ShwD K H (.str x) (.str x)
  | lst {a : Addr} {xs : List V} {ds : List PyData} : SqL K H a xs → ShwDs K H xs ds → ShwD K H (.ref a) (.list ds)
  | tup {a : Addr} {xs : List V} {ds : List PyData} : SqT K H a xs → ShwDs K H xs ds → ShwD K H (.ref a) (.tuple ds)
  | dct {a : Addr} {kvs : List (Key × V)} {ds : List (PyData × PyData)} : H a = some (.dK kvs) → ShwKv K H kvs ds → ShwD K H (.ref a) (.dict ds)
inductive ShwDs (K : Fg) (H : Hp) : List V → List PyData → Prop
  | nil : ShwDs K H [] []
  | cons {v : V} {vs : List V} {d : PyData} {ds : List PyData} : ShwD K H v d → ShwDs K H vs ds → ShwDs K H (v :: vs) (d :: ds)
inductive ShwKv (K : Fg) (H : Hp) : List (Key × V) → List (PyData × PyData) → Prop
  | nil : ShwKv K H [] []
  | cons {k : Key} {v : V} {vs : List (Key × V)} {d : PyData} {ds : List (PyData × PyData)} : ShwD K H v d → ShwKv K H vs ds → ShwKv K H ((k, v) :: vs) ((kD k, d) :: ds)
end
section
variable {X : Cx} {pins : List (Addr × Obj)} {σ : L2.St} {H : Hp} {s : Shared}
theorem smB_ne {K : Fg} {h : Heap} (hK : K.In h) (sm : smB K = true) {a : Addr} {o : Obj} (ha : h.get? a = some o) (hc : o.cls ≠ .type "dict") : a ≠ sysModules := fun e => by
  unfold smB at sm
  split at sm
  · rename_i o' eo
    rw [e, hK _ _ eo] at ha
    cases ha
    exact hc (beq_iff_eq.mp sm)
  · cases sm
theorem key_reads {h : Heap} {k : Key} {v : Value} (hk : keyIs k v = true) : Reads h v (kD k) [] := by
  rcases keyIs_shape hk with ⟨i, t, rfl, rfl⟩ | ⟨x, t, rfl, rfl⟩
  · exact .int i t
  · exact .str x t
mutual
theorem ShwD.reads (I : Inv X pins σ H s) (sm : smB X.K = true) : ∀ {v : V} {d : PyData}, ShwD X.K H v d → ∀ u, RelV v u → ∃ as, Reads s.heap u d as ∧ sysModules ∉ as
  | _, _, .non, u, r => by
    cases r
    exact ⟨_, .none, by simp⟩
  | _, _, .bl b, u, r => by
    cases r
    exact ⟨_, .bool b, by simp⟩
  | _, _, .int i, u, r => by
    obtain ⟨t, rfl⟩ := r
    exact ⟨_, .int i t, by simp⟩
  | _, _, .str x, u, r => by
    obtain ⟨t, rfl⟩ := r
    exact ⟨_, .str x t, by simp⟩
  | _, _, .lst (a := a) h hs, u, r => by
    cases r
    obtain ⟨its, rv, ⟨o, n, h1, h2, _, h3⟩, _⟩ := I.list h
    obtain ⟨as, ha, hn⟩ := ShwDs.reads I sm hs its rv
    refine ⟨_, .list h1 h2 h3 ha, fun hm => ?_⟩
    rcases List.mem_cons.mp hm with e | e
    · exact smB_ne I.kIn sm h1 (by rw [h2]; exact fun z => absurd (Value.type.inj z) (by decide)) e.symm
    · exact hn e
  | _, _, .tup h hs, u, r => by
    cases r
    obtain ⟨its, rv, ⟨o, h1, h2, n, h3⟩, _⟩ := I.tuple h
    obtain ⟨as, ha, hn⟩ := ShwDs.reads I sm hs its rv
    exact ⟨_, .tuple h1 h2 h3 ha, hn⟩
  | _, _, .dct (a := a) (kvs := kvs) h hs, u, r => by
    cases r
    obtain ⟨_, ne, vs, hkv, o, es, ep, h1, hx, h3, _, hp, _⟩ := dk_of I.hok h
    obtain ⟨as, bs, ha, hb, hn, hm⟩ := ShwKv.reads I sm hs es.toList vs hkv hp
    refine ⟨_, .dict h1 hx.1 h3 ha hb, fun q => ?_⟩
    rcases List.mem_append.mp q with q | q
    · rcases List.mem_cons.mp q with e | q
      · rw [← e] at ne
        exact absurd ne (by simp)
      · exact hn q
    · exact hm q
theorem ShwDs.reads (I : Inv X pins σ H s) (sm : smB X.K = true) : ∀ {vs : List V} {ds : List PyData}, ShwDs X.K H vs ds → ∀ us, Vals vs us → ∃ as, ReadsAll s.heap us ds as ∧ sysModules ∉ as
  | _, _, .nil, us, r => by
    cases r
    exact ⟨_, .nil, by simp⟩
  | _, _, .cons h hs, us, r => by
    cases r with
    | cons r1 r2 =>
      obtain ⟨a1, h1, n1⟩ := ShwD.reads I sm h _ r1
      obtain ⟨a2, h2, n2⟩ := ShwDs.reads I sm hs _ r2
      exact ⟨_, .cons h1 h2, fun q => (List.mem_append.mp q).elim n1 n2⟩
theorem ShwKv.reads (I : Inv X pins σ H s) (sm : smB X.K = true) : ∀ {kvs : List (Key × V)} {ds : List (PyData × PyData)}, ShwKv X.K H kvs ds → ∀ (es : List DictEntry) (vs : List (Key × Value)), KV kvs vs → Pairs (mixKind X.prog X.w) es vs →
    ∃ as bs, ReadsAll s.heap (es.map (·.key)) (ds.map (·.1)) as ∧ ReadsAll s.heap (es.map (·.val)) (ds.map (·.2)) bs ∧ sysModules ∉ as ∧ sysModules ∉ bs
  | _, _, .nil, es, vs, hk, hp => by
    cases hk
    cases hp
    exact ⟨_, _, .nil, .nil, by simp, by simp⟩
  | _, _, .cons (k := k) (d := d) h hs, es, vs, hk, hp => by
    cases hk with
    | cons r1 r2 =>
      cases hp with
      | @cons e kv _ _ p1 p2 p3 =>
        obtain ⟨e1, e2⟩ := r1
        obtain ⟨a2, h2, n2⟩ := ShwD.reads I sm h _ e2
        obtain ⟨as, bs, g1, g2, m1, m2⟩ := ShwKv.reads I sm hs _ _ r2 p3
        have kr : Reads s.heap _ (kD k) [] := key_reads (e1 ▸ p1)
        have h3 : Reads s.heap e.val d a2 := by
          rw [p2]
          exact h2
        exact ⟨_, _, .cons kr g1, .cons h3 g2, by simpa using m1, fun q => (List.mem_append.mp q).elim n2 m2⟩
end
end
mutual
/-- d's ints have at most B digits; its text's length is at most n; its depth at most m -/
inductive FitD (B : Nat) : PyData → Nat → Nat → Prop
  | of {d : PyData} {n m : Nat} : Fit B d n m → FitD B d n m
  | lst {ds : List PyData} {n m : Nat} : FitDs B ds n m → FitD B (.list ds) (n + 3) (m + 1)
  | tup {ds : List PyData} {n m : Nat} : FitDs B ds n m → FitD B (.tuple ds) (n + 3) (m + 1)
  | dct {ds : List (PyData × PyData)} {n m : Nat} : FitKv B ds n m → FitD B (.dict ds) (n + 3) (m + 1)
inductive FitDs (B : Nat) : List PyData → Nat → Nat → Prop
  | nil {m : Nat} : FitDs B [] 0 m
  | cons {d : PyData} {ds : List PyData} {n k m j : Nat} : FitD B d n j → j ≤ m → FitDs B ds k m → FitDs B (d :: ds) (n + 2 + k) m
inductive FitKv (B : Nat) : List (PyData × PyData) → Nat → Nat → Prop
  | nil {m : Nat} : FitKv B [] 0 m
  | cons {c d : PyData} {ds : List (PyData × PyData)} {i n k m h j : Nat} : FitD B c i h → h ≤ m → FitD B d n j → j ≤ m → FitKv B ds k m → FitKv B ((c, d) :: ds) (i + n + 4 + k) m
end
mutual
theorem FitD.ok {B : Nat} (hB : B ≤ 500) : ∀ {d : PyData} {n m : Nat}, FitD B d n m → d.shown.length ≤ n ∧ d.showable = true ∧ d.depth ≤ m
  | _, _, _, .of h => by
    obtain ⟨h1, h2, _, h4⟩ := Fit.ok hB h
    exact ⟨h1, h2, h4⟩
  | _, _, _, .lst h => by
    obtain ⟨h1, h2, h4⟩ := FitDs.ok hB h
    refine ⟨?_, by simpa only [PyData.showable] using h2, by simp only [PyData.depth]; omega⟩
    simp only [PyData.shown]
    exact Nat.le_trans (listText_le _) (by omega)
  | _, _, _, .tup h => by
    obtain ⟨h1, h2, h4⟩ := FitDs.ok hB h
    refine ⟨?_, by simpa only [PyData.showable] using h2, by simp only [PyData.depth]; omega⟩
    simp only [PyData.shown]
    exact Nat.le_trans (fmt_text _) (by omega)
  | _, _, _, .dct h => by
    obtain ⟨h1, h2, h4⟩ := FitKv.ok hB h
    refine ⟨?_, by simpa only [PyData.showable] using h2, by simp only [PyData.depth]; omega⟩
    simp only [PyData.shown]
    exact Nat.le_trans (dictText_len_le _) (by omega)
theorem FitDs.ok {B : Nat} (hB : B ≤ 500) : ∀ {ds : List PyData} {n m : Nat}, FitDs B ds n m → piled (PyData.shownAll ds) ≤ n ∧ PyData.showableAll ds = true ∧ PyData.depthAll ds ≤ m
  | _, _, _, .nil => ⟨by simp only [PyData.shownAll]; exact Nat.le_refl _, by simp only [PyData.showableAll], by simp only [PyData.depthAll]; omega⟩
  | _, _, _, .cons h hj hs => by
    obtain ⟨h1, h2, h4⟩ := FitD.ok hB h
    obtain ⟨g1, g2, g4⟩ := FitDs.ok hB hs
    refine ⟨?_, ?_, ?_⟩
    · simp only [PyData.shownAll, piled_cons]
      omega
    · simp only [PyData.showableAll, h2, g2, Bool.and_self]
    · simp only [PyData.depthAll]
      omega
theorem FitKv.ok {B : Nat} (hB : B ≤ 500) : ∀ {ds : List (PyData × PyData)} {n m : Nat}, FitKv B ds n m → ((PyData.shownKv ds).map (·.length)).sum + 2 * (PyData.shownKv ds).length ≤ n ∧ PyData.showableKv ds = true ∧ PyData.depthKv ds ≤ m
  | _, _, _, .nil => ⟨by simp [PyData.shownKv], by simp only [PyData.showableKv], by simp only [PyData.depthKv]; omega⟩
  | _, _, _, .cons hc hh h hj hs => by
    obtain ⟨c1, c2, c4⟩ := FitD.ok hB hc
    obtain ⟨h1, h2, h4⟩ := FitD.ok hB h
    obtain ⟨g1, g2, g4⟩ := FitKv.ok hB hs
    refine ⟨?_, ?_, ?_⟩
    · have e : (": " : Str).length = 2 := rfl
      simp only [PyData.shownKv, List.map_cons, List.sum_cons, List.length_cons, strLen_append, e]
      omega
    · simp only [PyData.showableKv, c2, h2, g2, Bool.and_self]
    · simp only [PyData.depthKv]
      omega
end
/-- repr(v), v told by d, dicts in it -/
@[irreducible] def rShowD (K : Fg) : List V → Hp → VK → Prop := fun xs H Q => ∃ (v : V) (d : PyData) (B n m : Nat), xs = [v] ∧ ShwD K H v d ∧ FitD B d n m ∧ B ≤ 500 ∧ n ≤ 16777216 ∧ m ≤ 50 ∧ Q (.str d.shown) H
theorem showD_any {K : Fg} {H : Hp} {Q : VK} {v : V} {d : PyData} {B n m : Nat} (hv : ShwD K H v d) (hf : FitD B d n m) (hB : B ≤ 500) (hn : n ≤ 16777216) (hm : m ≤ 50) (q : Q (.str d.shown) H) : rShowD K [v] H Q := by
  unfold rShowD
  exact ⟨v, d, B, n, m, rfl, hv, hf, hB, hn, hm, q⟩
theorem call_showD {X : Cx} {k : Nat} (sm : smB X.K = true) (hG : X.A.guards = some []) (hr : Room k X.A) : CallR X (.builtin "repr") (rShowD X.K) := by
  intro pins s σ H xs us Q I r h
  unfold rShowD at h
  obtain ⟨v, d, B, n, m, rfl, hv, hf, hB, hn, hm, q⟩ := h
  obtain ⟨u, rfl, ru⟩ := vals1 r
  obtain ⟨h1, h2, h4⟩ := hf.ok hB
  have hz : d.shown.length ≤ sizeLine := Nat.le_trans h1 (Nat.le_trans hn (by decide))
  have hu := hr.units
  obtain ⟨as, hR, hno⟩ := hv.reads I sm u ru
  have fin : ∀ {a : Addr}, u = .ref a → wpAny (model X.prog X.w) X.A (call (.builtin "repr") [u]) (EP X pins σ Q) X.xe s := fun {a} e => by
    subst e
    exact repr_of_reads' hR h2 (fun _ => hno) hG (by omega) (fun _ _ e => e) (fun h' t tk hk => ⟨.str _, H, I.kept hk, ⟨t, rfl⟩, q⟩) hz
  cases hv with
  | non =>
    cases ru
    exact PySem.P.repr_of_none ⟨.str _, H, I.tok _, ⟨_, rfl⟩, by simpa only [PyData.shown] using q⟩
  | bl b =>
    cases ru
    exact PySem.P.repr_of_bool ⟨.str _, H, I.tok _, ⟨_, rfl⟩, by simpa only [PyData.shown] using q⟩
  | int i =>
    obtain ⟨t, rfl⟩ := ru
    exact PySem.P.repr_of_int (by simpa only [PyData.showable, decide_eq_true_eq] using h2) ⟨.str _, H, I.tok _, ⟨_, rfl⟩, by simpa only [PyData.shown] using q⟩
  | str x =>
    obtain ⟨t, rfl⟩ := ru
    exact PySem.P.repr_of_str ⟨.str _, H, I.tok _, ⟨_, rfl⟩, by simpa only [PyData.shown] using q⟩ (by simpa only [PyData.shown] using hz)
  | lst _ _ => exact fin ru
  | tup _ _ => exact fin ru
  | dct _ _ => exact fin ru
theorem showD_k {fa : List (Fg → Bool)} {fn : List He5.DefA} {K : Fg} {mg : Str → Option Value} {X : Cx} (T : TxOf fa fn K mg) (sm : smB K = true) {k : Nat} (hG : X.A.guards = some []) (hr : Room k X.A) (hK : X.K = K := by rfl) : CallR X (.builtin "repr") (rShowD K) := by
  subst hK
  exact call_showD sm hG hr
end My

/-! The k-th member from a date on, by steps; bounds. -/
namespace My
section
variable {f : Int → Int} {n : Nat}
/-- the k-th member from x on, or before it; none if there are no members -/
def KthO (f : Int → Int) (n : Nat) (x k : Int) : Option Int → Prop
  | none => ∀ y, f y ≠ 1
  | some y => f y = 1 ∧ ps f n y = ps f n x + (if 0 < k then k - 1 else k)
theorem KthO.uniq (p : Per f n) (n0 : 0 < n) (hb : ∀ x, f x = 0 ∨ f x = 1) {x k : Int} : ∀ {o o' : Option Int}, KthO f n x k o → KthO f n x k o' → o = o'
  | none, none, _, _ => rfl
  | none, some y, h, h' => absurd h'.1 (h y)
  | some y, none, h, h' => absurd h.1 (h' y)
  | some y, some z, h, h' => by rw [num_uniq p n0 hb h.1 h'.1 (h.2.trans h'.2.symm)]
/-- no members between: nothing is counted -/
theorem ps_still (p : Per f n) (n0 : 0 < n) (hb : ∀ x, f x = 0 ∨ f x = 1) {x : Int} : ∀ (k : Nat), (∀ z, x ≤ z → z < x + (k : Int) → f z ≠ 1) → ps f n (x + (k : Int)) = ps f n x
  | 0, _ => by rw [show x + ((0 : Nat) : Int) = x by omega]
  | k + 1, h => by
    have ih := ps_still p n0 hb (x := x) k fun z h1 h2 => h z h1 (by omega)
    have e : x + ((k + 1 : Nat) : Int) = (x + (k : Int)) + 1 := by omega
    rw [e, ps_succ p n0, ih]
    have := hb (x + (k : Int))
    have := h (x + (k : Int)) (by omega) (by omega)
    omega
theorem ps_to (p : Per f n) (n0 : 0 < n) (hb : ∀ x, f x = 0 ∨ f x = 1) {x y : Int} (hxy : x ≤ y) (h : ∀ z, x ≤ z → z < y → f z ≠ 1) : ps f n y = ps f n x := by
  have := ps_still p n0 hb (x := x) (y - x).toNat fun z h1 h2 => h z h1 (by omega)
  rw [show x + (((y - x).toNat : Nat) : Int) = y by omega] at this
  exact this
/-- the next member behind x -/
theorem kth_on (p : Per f n) (n0 : 0 < n) (hb : ∀ x, f x = 0 ∨ f x = 1) {x y : Int} (hxy : x ≤ y) (h : ∀ z, x ≤ z → z < y → f z ≠ 1) : ps f n y = ps f n x := ps_to p n0 hb hxy h
/-- the last member up to x -/
theorem kth_back (p : Per f n) (n0 : 0 < n) (hb : ∀ x, f x = 0 ∨ f x = 1) {x y : Int} (hxy : y ≤ x) (h : ∀ z, y < z → z ≤ x → f z ≠ 1) (hy : f y = 1) : ps f n y = ps f n (x + 1) - 1 := by
  have h1 := ps_to p n0 hb (x := y + 1) (y := x + 1) (by omega) fun z a b => h z (by omega) (by omega)
  rw [ps_succ p n0 y, hy] at h1
  omega
/-- members do not lie further away than their numbers tell -/
theorem kth_bnd (p : Per f n) (n0 : 0 < n) (hb : ∀ x, f x = 0 ∨ f x = 1) (hc : 1 ≤ cI f n) {x y : Int} {j : Nat} (h : (ps f n y - ps f n x).natAbs ≤ j) : (y - x).natAbs ≤ n * (j + 1) := by
  have up : y < x + (n : Int) * ((j : Int) + 1) := by
    refine num_lt p n0 hb ?_
    rw [ps_turn n0]
    have : (j : Int) + 1 ≤ ((j : Int) + 1) * cI f n := by
      have := Int.mul_le_mul_of_nonneg_left hc (show (0 : Int) ≤ (j : Int) + 1 by omega)
      omega
    omega
  have dn : x + (n : Int) * (-((j : Int) + 1)) < y := by
    refine num_lt p n0 hb ?_
    rw [ps_turn n0]
    have : (j : Int) + 1 ≤ ((j : Int) + 1) * cI f n := by
      have := Int.mul_le_mul_of_nonneg_left hc (show (0 : Int) ≤ (j : Int) + 1 by omega)
      omega
    have e : (-((j : Int) + 1)) * cI f n = -(((j : Int) + 1) * cI f n) := Int.neg_mul ..
    omega
  rw [Int.mul_neg] at dn
  have e : (n : Int) * ((j : Int) + 1) = ((n * (j + 1) : Nat) : Int) := by
    rw [Int.natCast_mul]
    rfl
  rw [e] at up dn
  omega
/-- the greatest gap: bound and met -/
def GapO (f : Int → Int) (n : Nat) : Option Int → Prop
  | none => ∀ y, f y ≠ 1
  | some G => (∀ y z, f y = 1 → f z = 1 → ps f n z = ps f n y + 1 → z - y ≤ G) ∧ ∃ y z, f y = 1 ∧ f z = 1 ∧ ps f n z = ps f n y + 1 ∧ z - y = G
theorem GapO.uniq : ∀ {o o' : Option Int}, GapO f n o → GapO f n o' → o = o'
  | none, none, _, _ => rfl
  | none, some y, h, h' => by
    obtain ⟨y, z, h1, _⟩ := h'.2
    exact absurd h1 (h y)
  | some y, none, h, h' => by
    obtain ⟨y, z, h1, _⟩ := h.2
    exact absurd h1 (h' y)
  | some G, some G', h, h' => by
    obtain ⟨y, z, h1, h2, h3, h4⟩ := h.2
    obtain ⟨y', z', h1', h2', h3', h4'⟩ := h'.2
    have := h'.1 y z h1 h2 h3
    have := h.1 y' z' h1' h2' h3'
    congr 1
    omega
/-- the counted numbers do not depend on the period's writing -/
theorem KthO.conv {m : Nat} (pn : Per f n) (n0 : 0 < n) (pm : Per f m) (m0 : 0 < m) {x k : Int} : ∀ {o : Option Int}, KthO f n x k o → KthO f m x k o
  | none, h => h
  | some y, h => ⟨h.1, by have := ps_diff pn n0 pm m0 x y; have := h.2; omega⟩
theorem GapO.conv {m : Nat} (pn : Per f n) (n0 : 0 < n) (pm : Per f m) (m0 : 0 < m) : ∀ {o : Option Int}, GapO f n o → GapO f m o
  | none, h => h
  | some G, h => by
    refine ⟨fun y z h1 h2 h3 => h.1 y z h1 h2 ?_, ?_⟩
    · have := ps_diff pn n0 pm m0 y z
      omega
    · obtain ⟨y, z, h1, h2, h3, h4⟩ := h.2
      refine ⟨y, z, h1, h2, ?_, h4⟩
      have := ps_diff pn n0 pm m0 y z
      omega
end
end My

/-! Plain mathematics: the rings of remainders. -/
namespace My
/-- the remainder behind n steps -/
def rmd (f : Int → Int) (d : Nat) (x : Int) (n : Nat) : Int := it f x n % (d : Int)
section
variable {f : Int → Int} {d : Nat} {x y i : Int} {L e s : Nat}
theorem rmd_lo (d0 : 0 < d) (n : Nat) : 0 ≤ rmd f d x n := Int.emod_nonneg _ (by omega)
theorem rmd_hi (d0 : 0 < d) (n : Nat) : rmd f d x n < (d : Int) := Int.emod_lt_of_pos _ (by omega)
theorem rmd_zero (h0 : 0 ≤ x) (h1 : x < (d : Int)) : rmd f d x 0 = x := by
  unfold rmd
  rw [it_zero]
  exact Int.emod_eq_of_lt h0 h1
theorem it_emod (p : Per f d) (y : Int) (n : Nat) : it f y n = it f (y % (d : Int)) n + (d : Int) * (y / (d : Int)) := by
  rw [← it_per p, Int.emod_add_mul_ediv]
theorem rmd_emod (p : Per f d) (y : Int) (n : Nat) : rmd f d (y % (d : Int)) n = rmd f d y n := by
  unfold rmd
  rw [it_emod p y n, Int.add_mul_emod_self_left]
theorem rmd_add (p : Per f d) (x : Int) (a b : Nat) : rmd f d x (a + b) = rmd f d (rmd f d x a) b := by
  rw [show rmd f d x a = it f x a % (d : Int) from rfl, rmd_emod p]
  unfold rmd
  rw [it_add]
theorem rmd_succ (p : Per f d) (x : Int) (n : Nat) : rmd f d x (n + 1) = (rmd f d x n + f (rmd f d x n)) % (d : Int) := by
  unfold rmd
  rw [it_succ, p.emod, Int.emod_add_emod]
theorem rmd_of_add (p : Per f d) {a b : Nat} (h : rmd f d x a = rmd f d y b) (n : Nat) : rmd f d x (a + n) = rmd f d y (b + n) := by
  rw [rmd_add p, rmd_add p, h]
theorem Trl.back (a : Trl f d x L e) (p : Per f d) (c : Nat) (hc : e ≤ c) : rmd f d x c = rmd f d x (e + (c - e) % (L - e)) := by
  have h := a.at p c hc
  have hd : (d : Int) ∣ it f x L - it f x e := a.dvd
  unfold rmd
  rw [h, Int.add_emod, Int.emod_eq_zero_of_dvd (Int.dvd_trans hd (Int.dvd_mul_left _ _)), Int.add_zero, Int.emod_emod]
theorem mod_step {a s t : Nat} (h0 : 0 < t) (h1 : t < s) : (a + t) % s ≠ a % s := fun e => by
  have s0 : 0 < s := by omega
  have hu := Nat.mod_lt a s0
  rw [Nat.add_mod, Nat.mod_eq_of_lt h1] at e
  rcases Nat.lt_or_ge (a % s + t) s with c | c
  · rw [Nat.mod_eq_of_lt c] at e
    omega
  · rw [Nat.mod_eq_sub_mod c, Nat.mod_eq_of_lt (by omega)] at e
    omega
/-- a remainder on the ring of a trail -/
theorem Trl.onr (a : Trl f d x L e) (p : Per f d) {j : Nat} (hj : e ≤ j) : Trl f d (rmd f d x j) (L - e) 0 := by
  have elt := a.lt
  refine ⟨by omega, ?_, fun u v huv hv => ?_⟩
  · show rmd f d (rmd f d x j) (L - e) = rmd f d (rmd f d x j) 0
    rw [← rmd_add p, ← rmd_add p, a.back p (j + (L - e)) (by omega), a.back p (j + 0) (by omega)]
    congr 2
    rw [show j + (L - e) - e = (j - e) + (L - e) by omega, Nat.add_mod_right, Nat.add_zero]
  · show rmd f d (rmd f d x j) u ≠ rmd f d (rmd f d x j) v
    rw [← rmd_add p, ← rmd_add p, a.back p (j + u) (by omega), a.back p (j + v) (by omega)]
    have m1 := Nat.mod_lt (j + u - e) (show 0 < L - e by omega)
    have m2 := Nat.mod_lt (j + v - e) (show 0 < L - e by omega)
    have ne : (j + v - e) % (L - e) ≠ (j + u - e) % (L - e) := by
      have := mod_step (a := j + u - e) (s := L - e) (t := v - u) (by omega) (by omega)
      rw [show j + u - e + (v - u) = j + v - e by omega] at this
      exact this
    intro h
    rcases Nat.lt_or_gt_of_ne ne with c | c
    · exact a.ne _ _ (show e + (j + v - e) % (L - e) < e + (j + u - e) % (L - e) by omega) (by omega) h.symm
    · exact a.ne _ _ (show e + (j + u - e) % (L - e) < e + (j + v - e) % (L - e) by omega) (by omega) h
theorem Trl.ring_per (a : Trl f d y s 0) (p : Per f d) (n : Nat) : rmd f d y n = rmd f d y (n % s) := by
  have := a.back p n (Nat.zero_le _)
  rw [Nat.zero_add, Nat.sub_zero, Nat.sub_zero] at this
  exact this
theorem Trl.ring_add (a : Trl f d y s 0) (p : Per f d) (n : Nat) : rmd f d y (n + s) = rmd f d y n := by
  rw [a.ring_per p (n + s), a.ring_per p n, Nat.add_mod_right]
/-- from any date of a ring one comes back -/
theorem Trl.ring_back (a : Trl f d y s 0) (p : Per f d) (n m : Nat) : ∃ t, rmd f d (rmd f d y n) t = rmd f d y m := by
  have s0 := a.lt
  have hn := Nat.mod_lt n s0
  refine ⟨m % s + s - n % s, ?_⟩
  rw [← rmd_add p, a.ring_per p (n + _), a.ring_per p m, Nat.add_mod]
  congr 1
  have hm := Nat.mod_lt m s0
  rw [Nat.add_mod_mod, show n % s + (m % s + s - n % s) = m % s + s by omega, Nat.add_mod_right, Nat.mod_mod]
/-- the least remainder of a ring -/
def Lst (f : Int → Int) (d : Nat) (i : Int) : Prop := (0 ≤ i ∧ i < (d : Int)) ∧ (∃ s, Trl f d i s 0) ∧ ∀ n, i ≤ rmd f d i n
/-- a ring, from a remainder on -/
def ring (f : Int → Int) (d : Nat) (i : Int) (s : Nat) : List Int := tab s fun j => rmd f d i j.toNat
theorem ring_len : (ring f d i s).length = s := tab_length
theorem ring_get {n : Nat} (h : n < s) : (ring f d i s)[n]? = some (rmd f d i n) := tab_get (f := fun j => rmd f d i j.toNat) h
theorem mem_ringI {z : Int} : z ∈ ring f d i s ↔ ∃ n, n < s ∧ rmd f d i n = z := by
  constructor
  · intro h
    obtain ⟨n, hn, rfl⟩ := List.mem_map.mp h
    exact ⟨n, List.mem_range.mp hn, (congrArg (rmd f d i) (Int.toNat_natCast n)).symm⟩
  · rintro ⟨n, hn, rfl⟩
    exact List.mem_of_getElem? (ring_get hn)
theorem Trl.mem_ring (a : Trl f d i s 0) (p : Per f d) {z : Int} : z ∈ ring f d i s ↔ ∃ n, rmd f d i n = z := by
  rw [mem_ringI]
  constructor
  · rintro ⟨n, _, h⟩
    exact ⟨n, h⟩
  · rintro ⟨n, h⟩
    exact ⟨n % s, Nat.mod_lt _ a.lt, by rw [← a.ring_per p]; exact h⟩
/-- the ring turned -/
theorem ring_turn (a : Trl f d y s 0) (p : Per f d) {k : Nat} (hk : k < s) : (ring f d y s).drop k ++ (ring f d y s).take k = ring f d (rmd f d y k) s := by
  refine List.ext_getElem? fun n => ?_
  rcases Nat.lt_or_ge n s with c | c
  · rw [ring_get c, ← rmd_add p]
    rcases Nat.lt_or_ge n (s - k) with c2 | c2
    · rw [List.getElem?_append_left (by rw [List.length_drop, ring_len]; omega), List.getElem?_drop, ring_get (by omega)]
    · rw [List.getElem?_append_right (by rw [List.length_drop, ring_len]; omega), List.length_drop, ring_len, List.getElem?_take_of_lt (by omega), ring_get (by omega), show k + n = (n - (s - k)) + s by omega, a.ring_add p]
  · rw [List.getElem?_eq_none (by rw [List.length_append, List.length_drop, List.length_take, ring_len]; omega), List.getElem?_eq_none (by rw [ring_len]; exact c)]
theorem Trl.lst (a : Trl f d y s 0) (p : Per f d) (d0 : 0 < d) {k : Nat} (hm : ∀ n, n < s → rmd f d y k ≤ rmd f d y n) : Lst f d (rmd f d y k) := by
  refine ⟨⟨rmd_lo d0 k, rmd_hi d0 k⟩, ⟨_, a.onr p (Nat.zero_le k)⟩, fun n => ?_⟩
  rw [← rmd_add p, a.ring_per p (k + n)]
  exact hm _ (Nat.mod_lt _ a.lt)
theorem Lst.uniq {j : Int} {n m : Nat} (p : Per f d) (a : Lst f d i) (b : Lst f d j) (h : rmd f d i n = rmd f d j m) : i = j := by
  obtain ⟨⟨i0, i1⟩, ⟨s, ta⟩, la⟩ := a
  obtain ⟨⟨j0, j1⟩, ⟨t, tb⟩, lb⟩ := b
  obtain ⟨u, hu⟩ := ta.ring_back p n 0
  obtain ⟨v, hv⟩ := tb.ring_back p m 0
  rw [rmd_zero i0 i1] at hu
  rw [rmd_zero j0 j1] at hv
  rw [h, ← rmd_add p] at hu
  rw [← h, ← rmd_add p] at hv
  have h1 := la (n + v)
  have h2 := lb (m + u)
  omega
open Classical in
noncomputable def rlen (f : Int → Int) (d : Nat) (i : Int) : Nat := if h : ∃ s, Trl f d i s 0 then h.choose else 0
theorem Trl.rl_eq (a : Trl f d i s 0) : rlen f d i = s := by
  have h : ∃ s, Trl f d i s 0 := ⟨s, a⟩
  unfold rlen
  rw [dif_pos h]
  exact (h.choose_spec.uniq a).1
theorem Lst.trl (a : Lst f d i) : Trl f d i (rlen f d i) 0 := by
  obtain ⟨_, ⟨s, t⟩, _⟩ := a
  rw [t.rl_eq]
  exact t
open Classical in
noncomputable def lsts (f : Int → Int) (d : Nat) : List Int := ((List.range d).map fun n : Nat => (n : Int)).filter fun i => decide (Lst f d i)
open Classical in
theorem mem_lsts : i ∈ lsts f d ↔ Lst f d i := by
  unfold lsts
  rw [List.mem_filter, decide_eq_true_eq]
  refine ⟨fun h => h.2, fun h => ⟨List.mem_map.mpr ⟨i.toNat, List.mem_range.mpr (by have := h.1; omega), by have := h.1; omega⟩, h⟩⟩
theorem lsts_up : (lsts f d).Pairwise (· < ·) := by
  have h : ((List.range d).map fun n : Nat => (n : Int)).Pairwise (· < ·) := by
    rw [List.pairwise_map]
    exact List.pairwise_lt_range.imp fun h => by omega
  unfold lsts
  exact h.filter _
theorem up_nodup {l : List Int} (h : l.Pairwise (· < ·)) : l.Nodup := by
  rw [List.nodup_iff_pairwise_ne]
  exact h.imp fun h => by omega
theorem lsts_nodup : (lsts f d).Nodup := up_nodup lsts_up
theorem lsts_len : (lsts f d).length ≤ d := by
  unfold lsts
  refine Nat.le_trans (List.length_filter_le _ _) ?_
  rw [List.length_map, List.length_range]
  exact Nat.le_refl _
/-- all rings, ascending -/
noncomputable def rgs (f : Int → Int) (d : Nat) : List (List Int) := (lsts f d).map fun i => ring f d i (rlen f d i)
theorem rgs_get {n : Nat} (h : (lsts f d)[n]? = some i) : (rgs f d)[n]? = some (ring f d i (rlen f d i)) := by
  unfold rgs
  rw [List.getElem?_map, h]
  rfl
/-- every date comes to a ring -/
theorem Trl.lands (a : Trl f d x L e) (p : Per f d) (d0 : 0 < d) : ∃ i k, Lst f d i ∧ e ≤ k ∧ k < L ∧ rmd f d x k = i ∧ rlen f d i = L - e := by
  have t := a.onr p (Nat.le_refl e)
  have elt := a.lt
  obtain ⟨k, hk, hm⟩ : ∃ k, k < L - e ∧ ∀ n, n < L - e → rmd f d (rmd f d x e) k ≤ rmd f d (rmd f d x e) n := by
    have : ∀ m, 0 < m → ∃ k, k < m ∧ ∀ n, n < m → rmd f d (rmd f d x e) k ≤ rmd f d (rmd f d x e) n := by
      intro m
      induction m with
      | zero => intro h; omega
      | succ m ih =>
        intro _
        rcases Nat.eq_zero_or_pos m with c | c
        · subst c
          exact ⟨0, by omega, fun n hn => by rw [show n = 0 by omega]; exact Int.le_refl _⟩
        · obtain ⟨k, hk, hm⟩ := ih c
          rcases Int.lt_or_le (rmd f d (rmd f d x e) m) (rmd f d (rmd f d x e) k) with c2 | c2
          · refine ⟨m, by omega, fun n hn => ?_⟩
            rcases Nat.lt_or_ge n m with c3 | c3
            · have := hm n c3
              omega
            · rw [show n = m by omega]
              exact Int.le_refl _
          · refine ⟨k, by omega, fun n hn => ?_⟩
            rcases Nat.lt_or_ge n m with c3 | c3
            · exact hm n c3
            · rw [show n = m by omega]
              exact c2
    exact this _ (by omega)
  refine ⟨_, e + k, t.lst p d0 hm, by omega, by omega, rmd_add p x e k, ?_⟩
  exact (t.onr p (Nat.zero_le k)).rl_eq
/-- a ring's gain -/
theorem Trl.gain (a : Trl f d x L e) (p : Per f d) {c : Nat} (hc : e ≤ c) : it f x (c + (L - e)) - it f x c = it f x L - it f x e := by
  have elt := a.lt
  have h1 := a.at p (c + (L - e)) (by omega)
  have h2 := a.at p c hc
  rw [show c + (L - e) - e = (c - e) + (L - e) by omega, Nat.add_mod_right, Nat.add_div_right _ (by omega)] at h1
  rw [h1, h2, Int.natCast_add, Int.add_mul]
  omega
theorem Trl.gainR (a : Trl f d x L e) (p : Per f d) {c : Nat} (hc : e ≤ c) : it f (rmd f d x c) (L - e) - rmd f d x c = it f x L - it f x e := by
  rw [← a.gain p hc, it_add, it_emod p (it f x c)]
  have := Int.emod_add_mul_ediv (it f x c) (d : Int)
  unfold rmd
  omega
theorem sum_gain (i : Int) : ∀ s : Nat, ((List.range s).map fun n => f (it f i n)).sum = it f i s - i
  | 0 => by
    rw [it_zero, List.range_zero, List.map_nil, List.sum_nil]
    omega
  | s + 1 => by
    rw [List.range_succ, List.map_append, List.sum_append, sum_gain i s, it_succ, List.map_cons, List.map_nil, List.sum_cons, List.sum_nil]
    omega
theorem ring_sum (p : Per f d) (i : Int) (s : Nat) : ((ring f d i s).map f).sum = it f i s - i := by
  rw [← sum_gain i s]
  unfold ring tab
  rw [List.map_map]
  congr 1
  refine List.map_congr_left fun n _ => ?_
  show f (rmd f d i (n : Int).toNat) = _
  rw [Int.toNat_natCast]
  exact p.emod _
end
/-! ### the look for rings -/
/-- behind the starts before st: where one has been, and the least remainders of the rings found -/
structure RgI (f : Int → Int) (d st : Nat) (val : Int → Option Int) (fs : List Int) : Prop where
  nd : fs.Nodup
  lst : ∀ i ∈ fs, Lst f d i ∧ val i ≠ none
  old : ∀ z v, val z = some v → v < (st : Int)
  all : ∀ z : Int, 0 ≤ z → z < (st : Int) → val z ≠ none
  cl : ∀ z v, val z = some v → 0 ≤ z ∧ z < (d : Int) ∧ (∀ n, val (rmd f d z n) ≠ none) ∧ ∃ i ∈ fs, ∃ n, rmd f d z n = i
/-- in the walk from st, behind m steps -/
structure RgW (f : Int → Int) (d st : Nat) (v0 : Int → Option Int) (m : Nat) (val : Int → Option Int) : Prop where
  le : m ≤ d
  ne : ∀ a b : Nat, a < b → b < m → rmd f d st a ≠ rmd f d st b
  out : ∀ a, a < m → v0 (rmd f d st a) = none
  v1 : ∀ a, a < m → val (rmd f d st a) = some (st : Int)
  v2 : ∀ z, (∀ a, a < m → rmd f d st a ≠ z) → val z = v0 z
section
variable {f : Int → Int} {d st m : Nat} {v0 val : Int → Option Int} {fs : List Int}
theorem RgI.start : RgI f d 0 (fun _ => none) [] := ⟨List.nodup_nil, fun i h => (nomatch h), fun z v h => (nomatch h), fun z h0 h1 => by omega, fun z v h => (nomatch h)⟩
theorem RgW.start : RgW f d st v0 0 v0 := ⟨Nat.zero_le _, fun a b _ h => absurd h (Nat.not_lt_zero _), fun a h => absurd h (Nat.not_lt_zero _), fun a h => absurd h (Nat.not_lt_zero _), fun z _ => rfl⟩
theorem RgW.step (d0 : 0 < d) (h : RgW f d st v0 m val) (hv : val (rmd f d st m) = none) : RgW f d st v0 (m + 1) (fun z => if z = rmd f d st m then some (st : Int) else val z) := by
  have nw : ∀ a, a < m → rmd f d st a ≠ rmd f d st m := fun a ha e => by
    rw [← e, h.v1 a ha] at hv
    cases hv
  have ne : ∀ a b : Nat, a < b → b < m + 1 → rmd f d st a ≠ rmd f d st b := fun a b hab hb => by
    rcases Nat.lt_or_ge b m with c | c
    · exact h.ne a b hab c
    · rw [show b = m by omega]
      exact nw a (by omega)
  refine ⟨?_, ne, fun a ha => ?_, fun a ha => ?_, fun z hz => ?_⟩
  · have hp := pigeon d ((List.range (m + 1)).map fun j => (rmd f d st j).toNat) ?_ ?_
    · rw [List.length_map, List.length_range] at hp
      exact hp
    · rw [List.nodup_iff_pairwise_ne, List.pairwise_map]
      refine List.Pairwise.imp_of_mem ?_ (List.pairwise_lt_range (n := m + 1))
      intro i j hi hj hij e
      have hj2 := List.mem_range.mp hj
      have a0 := rmd_lo (f := f) (x := (st : Int)) d0 i
      have b0 := rmd_lo (f := f) (x := (st : Int)) d0 j
      exact ne i j hij hj2 (by omega)
    · intro v hv2
      obtain ⟨j, _, rfl⟩ := List.mem_map.mp hv2
      have a1 := rmd_hi (f := f) (x := (st : Int)) d0 j
      have a0 := rmd_lo (f := f) (x := (st : Int)) d0 j
      omega
  · rcases Nat.lt_or_ge a m with c | c
    · exact h.out a c
    · rw [show a = m by omega, ← h.v2 _ fun b hb => nw b hb]
      exact hv
  · show (if rmd f d st a = rmd f d st m then some (st : Int) else val (rmd f d st a)) = some (st : Int)
    by_cases c : rmd f d st a = rmd f d st m
    · rw [if_pos c]
    · rw [if_neg c]
      refine h.v1 a ?_
      rcases Nat.lt_or_ge a m with c2 | c2
      · exact c2
      · exact absurd (by rw [show a = m by omega]) c
  · show (if z = rmd f d st m then some (st : Int) else val z) = v0 z
    rw [if_neg (fun e => hz m (by omega) e.symm)]
    exact h.v2 z fun a ha => hz a (by omega)
/-- the walk ends -/
theorem RgW.done {v : Int} (p : Per f d) (d0 : 0 < d) (I : RgI f d st v0 fs) (h : RgW f d st v0 m val) (hs : st < d) (hv : val (rmd f d st m) = some v) :
    (v = (st : Int) ∧ ∃ e, Trl f d st m e ∧ (∀ i, Lst f d i → (∃ n, rmd f d (rmd f d st e) n = i) → RgI f d (st + 1) val (fs ++ [i]))) ∨ (v ≠ (st : Int) ∧ RgI f d (st + 1) val fs) := by
  have s0 : rmd f d (st : Int) 0 = (st : Int) := rmd_zero (by omega) (by omega)
  have grow : ∀ z v, v0 z = some v → val z = some v := fun z v hz => by
    rw [← hz]
    refine h.v2 z fun a ha e => ?_
    rw [← e, h.out a ha] at hz
    cases hz
  have old : ∀ z v, val z = some v → v0 z = some v ∨ (v = (st : Int) ∧ ∃ a, a < m ∧ rmd f d st a = z) := fun z v hz => by
    by_cases c : ∃ a, a < m ∧ rmd f d st a = z
    · obtain ⟨a, ha, e⟩ := c
      rw [← e, h.v1 a ha] at hz
      exact .inr ⟨(Option.some.inj hz).symm, a, ha, e⟩
    · rw [h.v2 z fun a ha e => c ⟨a, ha, e⟩] at hz
      exact .inl hz
  have stv : val (st : Int) ≠ none := by
    rcases Nat.eq_zero_or_pos m with c | c
    · subst c
      rw [s0] at hv
      rw [hv]
      exact fun z => nomatch z
    · have := h.v1 0 c
      rw [s0] at this
      rw [this]
      exact fun z => nomatch z
  rcases old _ _ hv with hv0 | ⟨e0, a, ha, ea⟩
  · -- one comes to a place of before
    refine .inr ⟨fun e => by have := I.old _ _ hv0; omega, ?_⟩
    obtain ⟨c0, c1, c2, i, hi, n, hn⟩ := I.cl _ _ hv0
    refine ⟨I.nd, fun i hi => ⟨(I.lst i hi).1, ?_⟩, fun z v hz => ?_, fun z h0 h1 => ?_, fun z v hz => ?_⟩
    · obtain ⟨w, hw⟩ := Option.ne_none_iff_exists'.mp (I.lst i hi).2
      rw [grow _ _ hw]
      exact fun z => nomatch z
    · rcases old _ _ hz with h2 | h2
      · have := I.old _ _ h2
        omega
      · omega
    · rcases Int.lt_or_le z (st : Int) with c | c
      · obtain ⟨w, hw⟩ := Option.ne_none_iff_exists'.mp (I.all z h0 c)
        rw [grow _ _ hw]
        exact fun z => nomatch z
      · rw [show z = (st : Int) by omega]
        exact stv
    · rcases old _ _ hz with h2 | ⟨_, a, ha, rfl⟩
      · obtain ⟨b0, b1, b2, b3⟩ := I.cl _ _ h2
        refine ⟨b0, b1, fun n => ?_, b3⟩
        obtain ⟨w, hw⟩ := Option.ne_none_iff_exists'.mp (b2 n)
        rw [grow _ _ hw]
        exact fun z => nomatch z
      · refine ⟨rmd_lo d0 a, rmd_hi d0 a, fun k => ?_, i, hi, m - a + n, ?_⟩
        · rw [← rmd_add p]
          rcases Nat.lt_or_ge (a + k) m with c | c
          · rw [h.v1 _ c]
            exact fun z => nomatch z
          · rw [show a + k = m + (a + k - m) by omega, rmd_add p]
            obtain ⟨w, hw⟩ := Option.ne_none_iff_exists'.mp (c2 (a + k - m))
            rw [grow _ _ hw]
            exact fun z => nomatch z
        · rw [← rmd_add p, show a + (m - a + n) = m + n by omega, rmd_add p]
          exact hn
  · -- a new ring
    subst e0
    have tr : Trl f d (st : Int) m a := ⟨ha, ea.symm, h.ne⟩
    refine .inl ⟨rfl, a, tr, fun i hi hn => ?_⟩
    obtain ⟨n, hn⟩ := hn
    have inr : ∀ k, ∃ b, b < m ∧ rmd f d (st : Int) (a + k) = rmd f d (st : Int) b := fun k => by
      have := tr.back p (a + k) (by omega)
      have := Nat.mod_lt (a + k - a) (show 0 < m - a by omega)
      exact ⟨a + (a + k - a) % (m - a), by omega, by assumption⟩
    have iv : ∃ b, b < m ∧ rmd f d (st : Int) b = i := by
      obtain ⟨b, hb, e⟩ := inr n
      rw [← rmd_add p, e] at hn
      exact ⟨b, hb, hn⟩
    obtain ⟨b, hb, eb⟩ := iv
    have ivn : val i = some (st : Int) := by
      rw [← eb]
      exact h.v1 b hb
    have i0 : v0 i = none := by
      rw [← eb]
      exact h.out b hb
    refine ⟨?_, fun j hj => ?_, fun z v hz => ?_, fun z h0 h1 => ?_, fun z v hz => ?_⟩
    · rw [List.nodup_append]
      refine ⟨I.nd, by simp, fun x hx y hy e => ?_⟩
      rw [List.mem_singleton] at hy
      subst hy
      subst e
      exact (I.lst _ hx).2 i0
    · rcases List.mem_append.mp hj with hj | hj
      · refine ⟨(I.lst j hj).1, ?_⟩
        obtain ⟨w, hw⟩ := Option.ne_none_iff_exists'.mp (I.lst j hj).2
        rw [grow _ _ hw]
        exact fun z => nomatch z
      · rw [List.mem_singleton] at hj
        subst hj
        rw [ivn]
        exact ⟨hi, fun z => nomatch z⟩
    · rcases old _ _ hz with h2 | h2
      · have := I.old _ _ h2
        omega
      · omega
    · rcases Int.lt_or_le z (st : Int) with c | c
      · obtain ⟨w, hw⟩ := Option.ne_none_iff_exists'.mp (I.all z h0 c)
        rw [grow _ _ hw]
        exact fun z => nomatch z
      · rw [show z = (st : Int) by omega]
        exact stv
    · rcases old _ _ hz with h2 | ⟨_, c, hc, rfl⟩
      · obtain ⟨b0, b1, b2, j, hj, b3⟩ := I.cl _ _ h2
        refine ⟨b0, b1, fun n => ?_, j, List.mem_append_left _ hj, b3⟩
        obtain ⟨w, hw⟩ := Option.ne_none_iff_exists'.mp (b2 n)
        rw [grow _ _ hw]
        exact fun z => nomatch z
      · refine ⟨rmd_lo d0 c, rmd_hi d0 c, fun k => ?_, i, List.mem_append_right _ (List.mem_singleton.mpr rfl), ?_⟩
        · rw [← rmd_add p]
          rcases Nat.lt_or_ge (c + k) m with c2 | c2
          · rw [h.v1 _ c2]
            exact fun z => nomatch z
          · obtain ⟨b2, hb2, e2⟩ := inr (c + k - a)
            rw [show a + (c + k - a) = c + k by omega] at e2
            rw [e2, h.v1 _ hb2]
            exact fun z => nomatch z
        · refine ⟨(m - c) + n, ?_⟩
          rw [← rmd_add p, show c + ((m - c) + n) = m + n by omega, rmd_add p, ← ea]
          exact hn
/-- all rings are found -/
theorem RgI.end_ (p : Per f d) (I : RgI f d d val fs) : fs.Perm (lsts f d) := by
  refine (List.perm_ext_iff_of_nodup I.nd lsts_nodup).mpr fun i => ?_
  rw [mem_lsts]
  refine ⟨fun h => (I.lst i h).1, fun h => ?_⟩
  obtain ⟨v, hv⟩ := Option.ne_none_iff_exists'.mp (I.all i h.1.1 h.1.2)
  obtain ⟨_, _, _, j, hj, n, hn⟩ := I.cl i v hv
  have l := (I.lst j hj).1
  have : i = j := by
    refine Lst.uniq (n := n) (m := 0) p h l ?_
    rw [hn, rmd_zero l.1.1 l.1.2]
  rw [this]
  exact hj
end
end My
namespace My
theorem ring_succ {f : Int → Int} {d s : Nat} {i : Int} : ring f d i (s + 1) = ring f d i s ++ [rmd f d i s] := by
  unfold ring tab
  rw [List.range_succ, List.map_append]
  rfl
/-- a part of a walk that is a ring -/
theorem ring_drop {f : Int → Int} {d m a : Nat} {x : Int} (p : Per f d) (h : a ≤ m) : (ring f d x m).drop a = ring f d (rmd f d x a) (m - a) := by
  refine List.ext_getElem? fun n => ?_
  rw [List.getElem?_drop]
  rcases Nat.lt_or_ge n (m - a) with c | c
  · rw [ring_get (by omega), ring_get c, rmd_add p]
  · rw [List.getElem?_eq_none (by rw [ring_len]; omega), List.getElem?_eq_none (by rw [ring_len]; exact c)]
/-- how many keys there are -/
def Cnt (d : Nat) (val : Int → Option Int) (c : Nat) : Prop := ∃ ks : List Int, ks.Nodup ∧ ks.length = c ∧ ∀ z ∈ ks, 0 ≤ z ∧ z < (d : Int) ∧ val z ≠ none
theorem Cnt.start {d : Nat} : Cnt d (fun _ => none) 0 := ⟨[], List.nodup_nil, rfl, fun z h => (nomatch h)⟩
theorem Cnt.put {d c : Nat} {val : Int → Option Int} {z : Int} {v : Int} (h : Cnt d val c) (hz : val z = none) (h0 : 0 ≤ z) (h1 : z < (d : Int)) : Cnt d (fun y => if y = z then some v else val y) (c + 1) := by
  obtain ⟨ks, nd, l, hk⟩ := h
  refine ⟨z :: ks, List.nodup_cons.mpr ⟨fun m => (hk z m).2.2 hz, nd⟩, by rw [List.length_cons, l], fun y hy => ?_⟩
  show 0 ≤ y ∧ y < (d : Int) ∧ (if y = z then some v else val y) ≠ none
  by_cases e : y = z
  · rw [if_pos e, e]
    exact ⟨h0, h1, fun z => nomatch z⟩
  · rw [if_neg e]
    exact hk y ((List.mem_cons.mp hy).resolve_left e)
theorem Cnt.le {d c : Nat} {val : Int → Option Int} (h : Cnt d val c) : c ≤ d := by
  obtain ⟨ks, nd, l, hk⟩ := h
  have hp := pigeon d (ks.map Int.toNat) ?_ ?_
  · rw [List.length_map, l] at hp
    exact hp
  · rw [List.nodup_iff_pairwise_ne, List.pairwise_map]
    refine List.Pairwise.imp_of_mem ?_ (List.nodup_iff_pairwise_ne.mp nd)
    intro a b ha hb hab e
    have := (hk a ha).1
    have := (hk b hb).1
    exact hab (by omega)
  · intro v hv
    obtain ⟨z, hz, rfl⟩ := List.mem_map.mp hv
    have := hk z hz
    omega
theorem rgs_perm {f : Int → Int} {d : Nat} {fs : List Int} (h : fs.Perm (lsts f d)) : (fs.map fun i => ring f d i (rlen f d i)).Perm (rgs f d) := h.map _
end My
namespace My
section
variable {f : Int → Int} {d : Nat} {x i : Int} {L e : Nat}
/-- every walk comes again -/
theorem trl_ex (d0 : 0 < d) (x : Int) : ∃ L e, Trl f d x L e := by
  have key : ∀ m : Nat, (∃ L e, Trl f d x L e) ∨ ∀ a b : Nat, a < b → b < m → rmd f d x a ≠ rmd f d x b := by
    intro m
    induction m with
    | zero => exact .inr fun a b _ h => absurd h (Nat.not_lt_zero _)
    | succ m ih =>
      rcases ih with h | h
      · exact .inl h
      · by_cases c : ∃ a, a < m ∧ rmd f d x a = rmd f d x m
        · obtain ⟨a, ha, e⟩ := c
          exact .inl ⟨m, a, ha, e.symm, h⟩
        · refine .inr fun a b hab hb => ?_
          rcases Nat.lt_or_ge b m with c2 | c2
          · exact h a b hab c2
          · rw [show b = m by omega]
            exact fun e => c ⟨a, by omega, e⟩
  rcases key (d + 1) with h | h
  · exact h
  · exfalso
    have hp := pigeon d ((List.range (d + 1)).map fun j => (rmd f d x j).toNat) ?_ ?_
    · rw [List.length_map, List.length_range] at hp
      omega
    · rw [List.nodup_iff_pairwise_ne, List.pairwise_map]
      refine List.Pairwise.imp_of_mem ?_ (List.pairwise_lt_range (n := d + 1))
      intro i j hi hj hij e
      have hj2 := List.mem_range.mp hj
      have a0 := rmd_lo (f := f) (x := x) d0 i
      have b0 := rmd_lo (f := f) (x := x) d0 j
      exact h i j hij hj2 (by omega)
    · intro v hv2
      obtain ⟨j, _, rfl⟩ := List.mem_map.mp hv2
      have a1 := rmd_hi (f := f) (x := x) d0 j
      have a0 := rmd_lo (f := f) (x := x) d0 j
      omega
/-- what is on a ring is not ahead of it -/
theorem Trl.onring (a : Trl f d x L e) (p : Per f d) {c q : Nat} (l : Lst f d i) (h : rmd f d x c = rmd f d i q) : e ≤ c := by
  rcases Nat.lt_or_ge c e with h0 | h0
  · exfalso
    obtain ⟨s, t⟩ := l.2.1
    have s0 := t.lt
    have per : ∀ M : Nat, rmd f d x (c + s * M) = rmd f d x c := fun M => by
      rw [rmd_add p, h, ← rmd_add p, t.ring_per p, Nat.add_mul_mod_self_left, ← t.ring_per p]
    have h1 := per e
    have hle : e ≤ s * e := Nat.le_mul_of_pos_left _ s0
    rw [a.back p (c + s * e) (by omega)] at h1
    have := Nat.mod_lt (c + s * e - e) (show 0 < L - e by have := a.lt; omega)
    exact a.ne c (e + (c + s * e - e) % (L - e)) (by omega) (by have := a.lt; omega) h1.symm
  · exact h0
/-- from the early part on the ring is that of i -/
theorem Trl.ring_of (a : Trl f d x L e) (p : Per f d) (d0 : 0 < d) : ∃ i, Lst f d i ∧ rlen f d i = L - e ∧ (∃ n, rmd f d x (e + n) = i) ∧ ∃ q, q < L - e ∧ rmd f d x e = rmd f d i q := by
  obtain ⟨i, k, l, ek, kl, hk, hr⟩ := a.lands p d0
  refine ⟨i, l, hr, ⟨k - e, by rw [show e + (k - e) = k by omega]; exact hk⟩, ?_⟩
  have t := l.trl
  have tx := a.onr p (Nat.le_refl e)
  obtain ⟨u, hu⟩ := tx.ring_back p (k - e) 0
  rw [← rmd_add p x e (k - e), show e + (k - e) = k by omega, hk, ← rmd_add p x e 0] at hu
  have h2 := t.ring_per p u
  rw [hr] at h2
  exact ⟨u % (L - e), Nat.mod_lt _ (by have := a.lt; omega), by rw [← h2]; exact hu.symm⟩
end
/-- behind k rings and m more places of the next one: which remainder has which index -/
structure PlI (f : Int → Int) (d k m : Nat) (val : Int → Option Int) : Prop where
  v1 : ∀ z j, val z = some j → ∃ (n : Nat) (i : Int) (q : Nat), j = (n : Int) ∧ (lsts f d)[n]? = some i ∧ rmd f d i q = z ∧ q < rlen f d i ∧ (n < k ∨ n = k ∧ q < m)
  v2 : ∀ (n q : Nat) (i : Int), (lsts f d)[n]? = some i → q < rlen f d i → (n < k ∨ n = k ∧ q < m) → val (rmd f d i q) ≠ none
section
variable {f : Int → Int} {d k m : Nat} {val : Int → Option Int} {i : Int}
theorem PlI.start : PlI f d 0 0 (fun _ => none) := ⟨fun z j h => (nomatch h), fun n q i _ _ h => by omega⟩
theorem PlI.next (h : PlI f d k m val) (hi : (lsts f d)[k]? = some i) (hm : rlen f d i ≤ m) : PlI f d (k + 1) 0 val := ⟨fun z j e => by
  obtain ⟨n, i2, q, h1, h2, h3, h4, h5⟩ := h.v1 z j e
  exact ⟨n, i2, q, h1, h2, h3, h4, .inl (by omega)⟩, fun n q j hn hq hc => by
  rcases Nat.lt_or_ge n k with c | c
  · exact h.v2 n q j hn hq (.inl c)
  · obtain rfl : n = k := by omega
    rw [hn] at hi
    obtain rfl : j = i := Option.some.inj hi
    exact h.v2 n q j hn hq (.inr ⟨rfl, by omega⟩)⟩
theorem PlI.step (h : PlI f d k m val) (hi : (lsts f d)[k]? = some i) (hm : m < rlen f d i) : PlI f d k (m + 1) (fun z => if z = rmd f d i m then some (k : Int) else val z) := by
  refine ⟨fun z j e => ?_, fun n q j hn hq hc => ?_⟩
  · replace e : (if z = rmd f d i m then some (k : Int) else val z) = some j := e
    by_cases c : z = rmd f d i m
    · rw [if_pos c] at e
      exact ⟨k, i, m, (Option.some.inj e).symm, hi, c.symm, hm, .inr ⟨rfl, by omega⟩⟩
    · rw [if_neg c] at e
      obtain ⟨n, i2, q, h1, h2, h3, h4, h5⟩ := h.v1 z j e
      exact ⟨n, i2, q, h1, h2, h3, h4, by omega⟩
  · show (if rmd f d j q = rmd f d i m then some (k : Int) else val (rmd f d j q)) ≠ none
    by_cases c : rmd f d j q = rmd f d i m
    · rw [if_pos c]
      exact fun z => nomatch z
    · rw [if_neg c]
      refine h.v2 n q j hn hq ?_
      rcases hc with hc | ⟨rfl, hc⟩
      · exact .inl hc
      · refine .inr ⟨rfl, ?_⟩
        rcases Nat.lt_or_ge q m with c2 | c2
        · exact c2
        · rw [hn] at hi
          obtain rfl : j = i := Option.some.inj hi
          exact absurd (by rw [show q = m by omega]) c
theorem PlI.free (h : PlI f d k m val) (p : Per f d) (hi : (lsts f d)[k]? = some i) (hm : m < rlen f d i) : val (rmd f d i m) = none := by
  cases hv : val (rmd f d i m) with
  | none => rfl
  | some j =>
    obtain ⟨n, i2, q, _, h2, h3, h4, h5⟩ := h.v1 _ _ hv
    have li := mem_lsts.mp (List.mem_of_getElem? hi)
    have l2 := mem_lsts.mp (List.mem_of_getElem? h2)
    obtain rfl := Lst.uniq p l2 li h3
    obtain rfl := nodup_get lsts_nodup h2 hi
    exact absurd h3 (li.trl.ne q m (by omega) hm)
/-- the look at a date: none ahead of its ring, the ring's index on it -/
theorem PlI.ahead {x : Int} {L e c : Nat} (h : PlI f d k m val) (p : Per f d) (a : Trl f d x L e) (hc : c < e) : val (rmd f d x c) = none := by
  cases hv : val (rmd f d x c) with
  | none => rfl
  | some j =>
    obtain ⟨n, i, q, _, hi, e2, _⟩ := h.v1 _ _ hv
    have := a.onring p (mem_lsts.mp (List.mem_of_getElem? hi)) e2.symm
    omega
theorem PlI.there {x : Int} {L e n : Nat} (h : PlI f d (lsts f d).length 0 val) (p : Per f d) (d0 : 0 < d) (a : Trl f d x L e) (l : (lsts f d)[n]? = some i) (hr : ∃ n, rmd f d x (e + n) = i) : val (rmd f d x e) = some (n : Int) := by
  obtain ⟨j, lj, lr, _, q, hq, e1⟩ := a.ring_of p d0
  obtain ⟨n2, hn2⟩ : ∃ n2 : Nat, (lsts f d)[n2]? = some j := List.getElem?_of_mem (mem_lsts.mpr lj)
  have hl := (List.getElem?_eq_some_iff.mp hn2).1
  have := h.v2 n2 q j hn2 (by rw [lr]; exact hq) (.inl hl)
  rw [← e1] at this
  obtain ⟨v, hv⟩ := Option.ne_none_iff_exists'.mp this
  obtain ⟨n3, i3, q3, e3, h3, e4, _⟩ := h.v1 _ _ hv
  obtain ⟨t, ht⟩ := hr
  have li := mem_lsts.mp (List.mem_of_getElem? l)
  have l3 := mem_lsts.mp (List.mem_of_getElem? h3)
  have : i = i3 := by
    refine Lst.uniq (n := 0) (m := q3 + t) p li l3 ?_
    rw [rmd_zero li.1.1 li.1.2, rmd_add p, e4, ← rmd_add p]
    exact ht.symm
  subst this
  have := nodup_get lsts_nodup l h3
  subst this
  rw [hv, e3]
end
end My

/-! Plain mathematics: a fraction in lowest terms; the mean of a walk. -/
namespace My
/-- n / s in lowest terms -/
def low (n : Int) (s : Nat) : List Int := [n / ((Nat.gcd n.natAbs s : Nat) : Int), (s : Int) / ((Nat.gcd n.natAbs s : Nat) : Int)]
/-- the terms: n = g a, s = g b, a and b with no divisor in common -/
theorem low_ex {n : Int} {s : Nat} (s0 : 0 < s) : ∃ (a : Int) (b g : Nat), 0 < b ∧ 0 < g ∧ Nat.Coprime a.natAbs b ∧ n = (g : Int) * a ∧ s = g * b ∧ low n s = [a, (b : Int)] := by
  have g0 : 0 < Nat.gcd n.natAbs s := Nat.gcd_pos_of_pos_right _ s0
  obtain ⟨g, hg⟩ : ∃ g, Nat.gcd n.natAbs s = g := ⟨_, rfl⟩
  have d1 : (g : Int) ∣ n := Int.ofNat_dvd_left.mpr (hg ▸ Nat.gcd_dvd_left _ _)
  have d2 : g ∣ s := hg ▸ Nat.gcd_dvd_right _ _
  obtain ⟨a, ha⟩ := d1
  obtain ⟨b, hb⟩ := d2
  have gp : 0 < g := hg ▸ g0
  have b0 : 0 < b := by
    rcases Nat.eq_zero_or_pos b with c | c
    · rw [c, Nat.mul_zero] at hb
      omega
    · exact c
  refine ⟨a, b, g, b0, gp, ?_, ha, hb, ?_⟩
  · have h1 : Nat.gcd (g * a.natAbs) (g * b) = g := by
      rw [← hb, ← hg]
      congr 1
      rw [hg, ha, Int.natAbs_mul, Int.natAbs_natCast]
    rw [Nat.gcd_mul_left] at h1
    exact Nat.eq_of_mul_eq_mul_left gp (by rw [h1, Nat.mul_one])
  · unfold low
    rw [hg, ha, hb, Int.mul_ediv_cancel_left _ (by omega), Int.natCast_mul, Int.mul_ediv_cancel_left _ (by omega)]
theorem low_eq {n n' : Int} {s s' : Nat} (s0 : 0 < s) (s0' : 0 < s') (h : n * (s' : Int) = n' * (s : Int)) : low n s = low n' s' := by
  obtain ⟨a, b, g, b0, g0, cp, rfl, rfl, e⟩ := low_ex (n := n) s0
  obtain ⟨a', b', g', b0', g0', cp', rfl, rfl, e'⟩ := low_ex (n := n') s0'
  rw [e, e']
  have h1 : a * (b' : Int) = a' * (b : Int) := by
    rw [Int.natCast_mul, Int.natCast_mul] at h
    have h2 : ((g * g' : Nat) : Int) * (a * (b' : Int)) = ((g * g' : Nat) : Int) * (a' * (b : Int)) := by
      rw [Int.natCast_mul]
      calc (g : Int) * (g' : Int) * (a * (b' : Int)) = (g : Int) * a * ((g' : Int) * (b' : Int)) := by ac_rfl
        _ = (g' : Int) * a' * ((g : Int) * (b : Int)) := h
        _ = (g : Int) * (g' : Int) * (a' * (b : Int)) := by ac_rfl
    exact Int.eq_of_mul_eq_mul_left (by have := Nat.mul_pos g0 g0'; omega) h2
  have h3 : a.natAbs * b' = a'.natAbs * b := by
    have := congrArg Int.natAbs h1
    rw [Int.natAbs_mul, Int.natAbs_mul, Int.natAbs_natCast, Int.natAbs_natCast] at this
    exact this
  have d1 : b ∣ b' := (Nat.Coprime.symm cp).dvd_of_dvd_mul_left (by rw [h3]; exact Nat.dvd_mul_left _ _)
  have d2 : b' ∣ b := (Nat.Coprime.symm cp').dvd_of_dvd_mul_left (by rw [← h3]; exact Nat.dvd_mul_left _ _)
  have eb : b = b' := Nat.dvd_antisymm d1 d2
  subst eb
  have ea : a = a' := Int.eq_of_mul_eq_mul_right (by omega) h1
  rw [ea]
theorem low_bnd {n : Int} {s B : Nat} (h1 : n.natAbs ≤ B) (h2 : s ≤ B) : ∀ v ∈ low n s, v.natAbs ≤ B := by
  intro v hv
  unfold low at hv
  simp only [List.mem_cons, List.not_mem_nil, or_false] at hv
  rcases hv with rfl | rfl
  · exact Nat.le_trans (Int.natAbs_ediv_le_natAbs _ _) h1
  · exact Nat.le_trans (Int.natAbs_ediv_le_natAbs _ _) (by rw [Int.natAbs_natCast]; exact h2)
theorem low_len {n : Int} {s : Nat} : (low n s).length = 2 := rfl
section
variable {f : Int → Int} {d d' L e L' e' : Nat} {x : Int}
/-- the mean does not depend on the period -/
theorem mean_uniq (t : Trl f d x L e) (p : Per f d) (t' : Trl f d' x L' e') (p' : Per f d') : low (it f x L - it f x e) (L - e) = low (it f x L' - it f x e') (L' - e') := by
  have h0 := t.lt
  have h0' := t'.lt
  refine low_eq (by omega) (by omega) ?_
  have h1 := t.turns p 1 (e + e') (L' - e') (by omega)
  have h2 := t'.turns p' 1 (e + e') (L - e) (by omega)
  rw [Nat.one_mul] at h1 h2
  rw [Nat.mul_comm (L - e), h1] at h2
  rw [Int.natCast_one, Int.one_mul, Int.one_mul] at h2
  rw [Int.mul_comm _ ((L' - e' : Nat) : Int), Int.mul_comm _ ((L - e : Nat) : Int)]
  omega
end
/-- the least date from 0 on that does not lead forward -/
def StopOf (f : Int → Int) : Option Int → Prop
  | none => ∀ z, 0 < f z
  | some m => 0 ≤ m ∧ f m ≤ 0 ∧ ∀ z, 0 ≤ z → z < m → 0 < f z
theorem StopOf.uniq {f : Int → Int} : ∀ {o o' : Option Int}, StopOf f o → StopOf f o' → o = o'
  | none, none, _, _ => rfl
  | none, some m, h, h' => by have := h m; have := h'.2.1; omega
  | some m, none, h, h' => by have := h' m; have := h.2.1; omega
  | some m, some m', h, h' => by
    have a := h.2.2 m' h'.1
    have b := h'.2.2 m h.1
    have c := h.2.1
    have c' := h'.2.1
    have : m = m' := by
      rcases Int.lt_trichotomy m m' with z | z | z
      · have := b z; omega
      · exact z
      · have := a z; omega
    rw [this]
/-- the first stop lies in the first period -/
theorem StopOf.bnd {f : Int → Int} {d : Nat} {o : Option Int} (h : StopOf f o) (p : Per f d) (d0 : 0 < d) : ∀ i, o = some i → 0 ≤ i ∧ i < (d : Int) := fun i e => by
  subst e
  refine ⟨h.1, ?_⟩
  rcases Int.lt_or_le i (d : Int) with c | c
  · exact c
  · have := h.2.2 (i - (d : Int)) (by omega) (by omega)
    rw [p.back] at this
    have := h.2.1
    omega
end My
namespace My
theorem low_cross {n : Int} {s : Nat} (s0 : 0 < s) : ∃ a b : Int, low n s = [a, b] ∧ n * b = a * (s : Int) ∧ b.natAbs ≤ s ∧ 0 < b := by
  obtain ⟨a, b, g, b0, g0, cp, rfl, rfl, e⟩ := low_ex (n := n) s0
  refine ⟨a, (b : Int), e, ?_, ?_, by omega⟩
  · rw [Int.natCast_mul]
    ac_rfl
  · rw [Int.natAbs_natCast]
    exact Nat.le_mul_of_pos_left _ g0
end My

/-! Plain mathematics: rings and means of rising maps. -/
namespace My
section
variable {f g : Int → Int} {d d' L e L' e' : Nat} {x y i : Int}
theorem rising_le (h : Rising f) {x y : Int} (hxy : x ≤ y) : x + f x ≤ y + f y := by
  obtain ⟨n, hn⟩ : ∃ n : Nat, y = x + (n : Int) := ⟨(y - x).toNat, by omega⟩
  subst hn
  induction n with
  | zero => simp
  | succ n ih =>
    have h1 := ih (by omega)
    have h2 := h (x + (n : Int))
    rw [show x + ((n + 1 : Nat) : Int) = x + (n : Int) + 1 by omega]
    omega
theorem it_mono (h : Rising f) (hxy : x ≤ y) : ∀ n, it f x n ≤ it f y n
  | 0 => by rw [it_zero, it_zero]; exact hxy
  | n + 1 => by
    rw [it_succ, it_succ]
    exact rising_le h (it_mono h hxy n)
/-- a smaller map has smaller powers -/
theorem it_below (h : Rising g) (hfg : ∀ z, f z ≤ g z) : ∀ n, it f x n ≤ it g x n
  | 0 => by rw [it_zero, it_zero]; exact Int.le_refl _
  | n + 1 => by
    rw [it_succ, it_succ]
    have h1 := it_below h hfg n
    have h2 := rising_le h h1
    have h3 := hfg (it f x n)
    omega
theorem it_near (h : Rising f) (p : Per f d) (d0 : 0 < d) (x y : Int) : ∃ K : Int, ∀ n, it f x n ≤ it f y n + K := by
  refine ⟨(d : Int) * ((x - y).natAbs : Int), fun n => ?_⟩
  rw [← it_per p]
  refine it_mono h ?_ n
  have h1 : ((x - y).natAbs : Int) ≤ (d : Int) * ((x - y).natAbs : Int) := by
    have := Nat.le_mul_of_pos_left (x - y).natAbs d0
    rw [← Int.natCast_mul]
    omega
  omega
theorem slope_le {u v : Nat → Int} {A B K : Int} {s t c e e' : Nat} (hu : ∀ j q : Nat, e ≤ j → u (j + q * s) = u j + (q : Int) * A) (hv : ∀ j q : Nat, e' ≤ j → v (j + q * t) = v j + (q : Int) * B) (c0 : 0 < c) (h : ∀ n, u (c * n) ≤ v n + K) : ((c * t : Nat) : Int) * A ≤ (s : Int) * B := by
  rcases Int.lt_or_le ((s : Int) * B) (((c * t : Nat) : Int) * A) with hl | hl
  · exfalso
    obtain ⟨D, hD⟩ : ∃ D : Int, v (e + e') + K - u (c * (e + e')) = D := ⟨_, rfl⟩
    have key : ∀ q : Nat, (q : Int) * (((c * t : Nat) : Int) * A) ≤ (q : Int) * ((s : Int) * B) + D := fun q => by
      have h1 := h (e + e' + q * s * t)
      have e0 : e ≤ c * (e + e') := Nat.le_trans (by omega) (Nat.le_mul_of_pos_left _ c0)
      rw [show c * (e + e' + q * s * t) = c * (e + e') + (q * (c * t)) * s by rw [Nat.mul_add]; congr 1; ac_rfl, hu _ _ e0, hv _ _ (by omega)] at h1
      have e1 : ((q * (c * t) : Nat) : Int) * A = (q : Int) * (((c * t : Nat) : Int) * A) := by rw [Int.natCast_mul, Int.mul_assoc]
      have e2 : ((q * s : Nat) : Int) * B = (q : Int) * ((s : Int) * B) := by rw [Int.natCast_mul, Int.mul_assoc]
      omega
    have k1 := key (D.natAbs + 1)
    obtain ⟨X, hX⟩ : ∃ X, ((c * t : Nat) : Int) * A = X := ⟨_, rfl⟩
    obtain ⟨Y, hY⟩ : ∃ Y, (s : Int) * B = Y := ⟨_, rfl⟩
    rw [hX, hY] at hl
    rw [hX, hY] at k1
    have k2 : ((D.natAbs + 1 : Nat) : Int) * (Y + 1) ≤ ((D.natAbs + 1 : Nat) : Int) * X := Int.mul_le_mul_of_nonneg_left (by omega) (by omega)
    rw [Int.mul_add, Int.mul_one] at k2
    omega
  · exact hl
theorem Trl.steps (t : Trl f d x L e) (p : Per f d) : ∀ j q : Nat, e ≤ j → it f x (j + q * (L - e)) = it f x j + (q : Int) * (it f x L - it f x e) := fun j q h => by
  have := t.turns p 1 j q h
  rw [Nat.one_mul, Int.natCast_one, Int.one_mul] at this
  exact this
/-- the mean of a rising map is the same for all dates -/
theorem rot_eq (h : Rising f) (t : Trl f d x L e) (p : Per f d) (d0 : 0 < d) (t' : Trl f d' y L' e') (p' : Per f d') : (it f x L - it f x e) * ((L' - e' : Nat) : Int) = (it f y L' - it f y e') * ((L - e : Nat) : Int) := by
  obtain ⟨K, hK⟩ := it_near h p d0 x y
  obtain ⟨K', hK'⟩ := it_near h p d0 y x
  have h1 := slope_le (c := 1) (t.steps p) (t'.steps p') (by decide) fun n => by rw [Nat.one_mul]; exact hK n
  have h2 := slope_le (c := 1) (t'.steps p') (t.steps p) (by decide) fun n => by rw [Nat.one_mul]; exact hK' n
  rw [Nat.one_mul] at h1 h2
  rw [Int.mul_comm _ ((L' - e' : Nat) : Int), Int.mul_comm _ ((L - e : Nat) : Int)]
  omega
/-- a smaller map has no greater mean -/
theorem rot_le (hg : Rising g) (hfg : ∀ z, f z ≤ g z) (t : Trl f d x L e) (p : Per f d) (t' : Trl g d' x L' e') (p' : Per g d') : (it f x L - it f x e) * ((L' - e' : Nat) : Int) ≤ (it g x L' - it g x e') * ((L - e : Nat) : Int) := by
  have h1 := slope_le (c := 1) (K := 0) (t.steps p) (t'.steps p') (by decide) fun n => by rw [Nat.one_mul, Int.add_zero]; exact it_below hg hfg n
  rw [Nat.one_mul] at h1
  rw [Int.mul_comm _ ((L' - e' : Nat) : Int), Int.mul_comm _ ((L - e : Nat) : Int)]
  exact h1
theorem it_pw (f : Int → Int) (c : Nat) (y : Int) : ∀ n, it (pw f c) y n = it f y (c * n)
  | 0 => by rw [it_zero, Nat.mul_zero, it_zero]
  | n + 1 => by
    rw [it_succ, it_pw f c y n, Nat.mul_succ, it_add]
    rfl
/-- the mean of a power -/
theorem rot_pw (h : Rising f) {c : Nat} (c0 : 0 < c) (t : Trl f d x L e) (p : Per f d) (d0 : 0 < d) (t' : Trl (pw f c) d' y L' e') (p' : Per (pw f c) d') :
    (it (pw f c) y L' - it (pw f c) y e') * ((L - e : Nat) : Int) = (c : Int) * (it f x L - it f x e) * ((L' - e' : Nat) : Int) := by
  obtain ⟨K, hK⟩ := it_near h p d0 x y
  obtain ⟨K', hK'⟩ := it_near h p d0 y x
  have h1 := slope_le (K := K) (t.steps p) (t'.steps p') c0 fun n => by rw [it_pw]; exact hK _
  have h2 : (((c * (L' - e') : Nat) : Int)) * -(it f x L - it f x e) ≤ ((L - e : Nat) : Int) * -(it (pw f c) y L' - it (pw f c) y e') := by
    refine slope_le (u := fun n => -(it f x n)) (v := fun n => -(it (pw f c) y n)) (K := K') (e := e) (e' := e') (fun j q hj => ?_) (fun j q hj => ?_) c0 fun n => ?_
    · show -(it f x (j + q * (L - e))) = -(it f x j) + _
      rw [t.steps p j q hj, Int.mul_neg]
      omega
    · show -(it (pw f c) y (j + q * (L' - e'))) = -(it (pw f c) y j) + _
      rw [t'.steps p' j q hj, Int.mul_neg]
      omega
    · show -(it f x (c * n)) ≤ -(it (pw f c) y n) + K'
      rw [it_pw]
      have := hK' (c * n)
      omega
  rw [Int.mul_neg, Int.mul_neg] at h2
  rw [Int.natCast_mul] at h1 h2
  have e1 : (c : Int) * ((L' - e' : Nat) : Int) * (it f x L - it f x e) = (c : Int) * (it f x L - it f x e) * ((L' - e' : Nat) : Int) := by ac_rfl
  rw [Int.mul_comm _ ((L - e : Nat) : Int)]
  omega
/-- a ring of a rising map: its turns have no divisor in common with its length -/
theorem ring_cop (h : Rising f) (p : Per f d) (d0 : 0 < d) {s : Nat} {k : Int} (t : Trl f d i s 0) (hk : it f i s = i + (d : Int) * k) : Nat.gcd k.natAbs s = 1 := by
  have s0 := t.lt
  obtain ⟨g, hg⟩ : ∃ g, Nat.gcd k.natAbs s = g := ⟨_, rfl⟩
  have g0 : 0 < g := hg ▸ Nat.gcd_pos_of_pos_right _ s0
  obtain ⟨q, hq⟩ : g ∣ s := hg ▸ Nat.gcd_dvd_right _ _
  obtain ⟨m, hm⟩ : (g : Int) ∣ k := Int.ofNat_dvd_left.mpr (hg ▸ Nat.gcd_dvd_left _ _)
  have q0 : 0 < q := by
    rcases Nat.eq_zero_or_pos q with c | c
    · rw [c, Nat.mul_zero] at hq
      omega
    · exact c
  rw [hg]
  -- the map that leads q steps on and m periods back
  have un : ∀ n : Nat, it f i (q * (n + 1)) - (d : Int) * (m * ((n + 1 : Nat) : Int)) = it f (it f i (q * n) - (d : Int) * (m * (n : Int))) q - (d : Int) * m := fun n => by
    have := it_per p (x := it f i (q * n)) (-(m * (n : Int))) q
    rw [show it f i (q * n) + (d : Int) * -(m * (n : Int)) = it f i (q * n) - (d : Int) * (m * (n : Int)) by rw [Int.mul_neg]; omega] at this
    rw [this, ← it_add, Nat.mul_succ, Int.natCast_add, Int.natCast_one, Int.mul_add, Int.mul_one, Int.mul_add, Int.mul_neg]
    omega
  have ug : it f i (q * g) - (d : Int) * (m * (g : Int)) = i := by
    rw [Nat.mul_comm, ← hq, hk, hm, Int.mul_comm (g : Int)]
    omega
  have fix : it f i q = i + (d : Int) * m := by
    rcases Int.lt_trichotomy (it f i q - (d : Int) * m) i with c | c | c
    · exfalso
      have key : ∀ n : Nat, it f i (q * (n + 1)) - (d : Int) * (m * ((n + 1 : Nat) : Int)) ≤ it f i q - (d : Int) * m := by
        intro n
        induction n with
        | zero => simp
        | succ n ih =>
          rw [un (n + 1)]
          have := it_mono h (x := it f i (q * (n + 1)) - (d : Int) * (m * ((n + 1 : Nat) : Int))) (y := i) (by omega) q
          omega
      have := key (g - 1)
      rw [show g - 1 + 1 = g by omega, ug] at this
      omega
    · omega
    · exfalso
      have key : ∀ n : Nat, it f i q - (d : Int) * m ≤ it f i (q * (n + 1)) - (d : Int) * (m * ((n + 1 : Nat) : Int)) := by
        intro n
        induction n with
        | zero => simp
        | succ n ih =>
          rw [un (n + 1)]
          have := it_mono h (x := i) (y := it f i (q * (n + 1)) - (d : Int) * (m * ((n + 1 : Nat) : Int))) (by omega) q
          omega
      have := key (g - 1)
      rw [show g - 1 + 1 = g by omega, ug] at this
      omega
  rcases Nat.lt_or_ge q s with c | c
  · exfalso
    refine t.ne 0 q q0 c ?_
    rw [fix, it_zero, Int.add_mul_emod_self_left]
  · have : g * q ≤ 1 * q := by omega
    have := Nat.le_of_mul_le_mul_right this q0
    omega
/-- all rings of a rising map are equally long -/
theorem ring_same (h : Rising f) (p : Per f d) (d0 : 0 < d) {s s' : Nat} {i j : Int} (t : Trl f d i s 0) (t' : Trl f d j s' 0) : s = s' := by
  have s0 := t.lt
  have s0' := t'.lt
  obtain ⟨k, hk⟩ : (d : Int) ∣ it f i s - it f i 0 := t.dvd
  obtain ⟨k', hk'⟩ : (d : Int) ∣ it f j s' - it f j 0 := t'.dvd
  have r := rot_eq h t p d0 t' p
  rw [hk, hk', Nat.sub_zero, Nat.sub_zero, Int.mul_assoc, Int.mul_assoc] at r
  have r2 : k * (s' : Int) = k' * (s : Int) := Int.eq_of_mul_eq_mul_left (by omega) r
  rw [it_zero] at hk hk'
  have c := ring_cop h p d0 t (by omega : it f i s = i + (d : Int) * k)
  have c' := ring_cop h p d0 t' (by omega : it f j s' = j + (d : Int) * k')
  have r3 : k.natAbs * s' = k'.natAbs * s := by
    have := congrArg Int.natAbs r2
    rw [Int.natAbs_mul, Int.natAbs_mul, Int.natAbs_natCast, Int.natAbs_natCast] at this
    exact this
  have d1 : s ∣ s' := (Nat.Coprime.symm c).dvd_of_dvd_mul_left (by rw [r3]; exact Nat.dvd_mul_left _ _)
  have d2 : s' ∣ s := (Nat.Coprime.symm c').dvd_of_dvd_mul_left (by rw [← r3]; exact Nat.dvd_mul_left _ _)
  exact Nat.dvd_antisymm d1 d2
end
/-- fractions in lowest terms, compared -/
theorem low_le {A A' a b a' b' : Int} {s s' : Nat} (s0 : 0 < s) (s0' : 0 < s') (h : low A s = [a, b]) (h' : low A' s' = [a', b']) (hl : A * (s' : Int) ≤ A' * (s : Int)) : a * b' ≤ a' * b := by
  obtain ⟨u, v, e, c, _, v0⟩ := low_cross (n := A) s0
  obtain ⟨u', v', e', c', _, v0'⟩ := low_cross (n := A') s0'
  rw [e] at h
  rw [e'] at h'
  obtain ⟨rfl, rfl⟩ : u = a ∧ v = b := by
    injection h with h1 h2
    injection h2 with h2 _
    exact ⟨h1, h2⟩
  obtain ⟨rfl, rfl⟩ : u' = a' ∧ v' = b' := by
    injection h' with h1 h2
    injection h2 with h2 _
    exact ⟨h1, h2⟩
  have h1 : A * (s' : Int) * (v * v') ≤ A' * (s : Int) * (v * v') := Int.mul_le_mul_of_nonneg_right hl (Int.le_of_lt (Int.mul_pos v0 v0'))
  have e1 : A * (s' : Int) * (v * v') = (u * v') * ((s : Int) * (s' : Int)) := by
    calc A * (s' : Int) * (v * v') = (A * v) * ((s' : Int) * v') := by ac_rfl
      _ = (u * (s : Int)) * ((s' : Int) * v') := by rw [c]
      _ = _ := by ac_rfl
  have e2 : A' * (s : Int) * (v * v') = (u' * v) * ((s : Int) * (s' : Int)) := by
    calc A' * (s : Int) * (v * v') = (A' * v') * ((s : Int) * v) := by ac_rfl
      _ = (u' * (s' : Int)) * ((s : Int) * v) := by rw [c']
      _ = _ := by ac_rfl
  rw [e1, e2] at h1
  exact Int.le_of_mul_le_mul_right h1 (Int.mul_pos (by omega) (by omega))
theorem low_cmp {A A' a b a' b' c : Int} {s s' : Nat} (s0 : 0 < s) (s0' : 0 < s') (h : low A s = [a, b]) (h' : low A' s' = [a', b']) (hl : A' * (s : Int) = c * A * (s' : Int)) : a' * b = c * a * b' := by
  obtain ⟨u, v, e, k, _, v0⟩ := low_cross (n := A) s0
  obtain ⟨u', v', e', k', _, v0'⟩ := low_cross (n := A') s0'
  rw [e] at h
  rw [e'] at h'
  obtain ⟨rfl, rfl⟩ : u = a ∧ v = b := by
    injection h with h1 h2
    injection h2 with h2 _
    exact ⟨h1, h2⟩
  obtain ⟨rfl, rfl⟩ : u' = a' ∧ v' = b' := by
    injection h' with h1 h2
    injection h2 with h2 _
    exact ⟨h1, h2⟩
  refine Int.eq_of_mul_eq_mul_right (a := (s : Int) * (s' : Int)) (Int.ne_of_gt (Int.mul_pos (by omega) (by omega))) ?_
  calc u' * v * ((s : Int) * (s' : Int)) = (u' * (s' : Int)) * (v * (s : Int)) := by ac_rfl
    _ = (A' * v') * (v * (s : Int)) := by rw [k']
    _ = (A' * (s : Int)) * (v * v') := by ac_rfl
    _ = (c * A * (s' : Int)) * (v * v') := by rw [hl]
    _ = c * (A * v) * (s' : Int) * v' := by ac_rfl
    _ = c * (u * (s : Int)) * (s' : Int) * v' := by rw [k]
    _ = c * u * v' * ((s : Int) * (s' : Int)) := by ac_rfl
end My

/-! Plain mathematics: the dates of a series between two dates add up. -/
namespace My
/-- how many of b, b + n, .. are not greater than t -/
def upt (b n t : Int) : Int := max 0 ((t - b) / n + 1)
theorem ceil_div {n : Int} (hn : 0 < n) (v : Int) : (v - 1) / n + 1 = -((-v) / n) := by
  have h1 := Int.emod_add_mul_ediv (-v) n
  have h2 := Int.emod_nonneg (-v) (show n ≠ 0 by omega)
  have h3 := Int.emod_lt_of_pos (-v) hn
  have h6 : v - 1 = (n - 1 - (-v) % n) + n * (-((-v) / n) - 1) := by
    rw [Int.mul_sub, Int.mul_neg, Int.mul_one]
    omega
  rw [h6, Int.add_mul_ediv_left _ _ (by omega), Int.ediv_eq_zero_of_lt (by omega) (by omega)]
  omega
theorem trm_upt {b n lo hi : Int} (hn : 0 < n) (h : lo - 1 ≤ hi) : trm b n lo hi = upt b n hi - upt b n (lo - 1) := by
  have c := ceil_div hn (lo - b)
  have m := Int.ediv_le_ediv hn (show lo - b - 1 ≤ hi - b by omega)
  rw [show -(lo - b) = b - lo by omega] at c
  unfold trm upt
  rw [show lo - 1 - b = lo - b - 1 by omega]
  omega
theorem tms_add {b n lo mid hi : Int} (hn : n ≠ 0) (h1 : lo - 1 ≤ mid) (h2 : mid ≤ hi) : tms b n lo mid + tms b n (mid + 1) hi = tms b n lo hi := by
  unfold tms
  split
  · rw [trm_upt (by omega) (by omega), trm_upt (by omega) (by omega), trm_upt (by omega) (by omega), show -(mid + 1) = -mid - 1 by omega]
    omega
  · rw [trm_upt (by omega) (by omega), trm_upt (by omega) (by omega), trm_upt (by omega) (by omega), show mid + 1 - 1 = mid by omega]
    omega
theorem upt_step {b n v : Int} (hn : 0 < n) : upt b n v - upt b n (v - 1) = if b ≤ v ∧ (v - b) % n = 0 then 1 else 0 := by
  have h1 := Int.emod_add_mul_ediv (v - b) n
  have h2 := Int.emod_nonneg (v - b) (show n ≠ 0 by omega)
  have h3 := Int.emod_lt_of_pos (v - b) hn
  unfold upt
  obtain ⟨q, hq⟩ : ∃ q, (v - b) / n = q := ⟨_, rfl⟩
  obtain ⟨r, hr⟩ : ∃ r, (v - b) % n = r := ⟨_, rfl⟩
  rw [hq, hr] at h1
  rw [hr] at h2 h3
  rw [hq, hr]
  by_cases c : r = 0
  · have e : (v - 1 - b) / n = q - 1 := by
      rw [show v - 1 - b = (n - 1) + n * (q - 1) by rw [Int.mul_sub, Int.mul_one]; omega, Int.add_mul_ediv_left _ _ (by omega), Int.ediv_eq_zero_of_lt (by omega) (by omega)]
      omega
    rw [e]
    by_cases c2 : b ≤ v
    · have q0 : 0 ≤ q := hq ▸ Int.ediv_nonneg (by omega) (by omega)
      rw [if_pos ⟨c2, c⟩]
      omega
    · have q0 : q < 0 := hq ▸ Int.ediv_neg_of_neg_of_pos (by omega) hn
      rw [if_neg fun z => c2 z.1]
      omega
  · have e : (v - 1 - b) / n = q := by
      rw [show v - 1 - b = (r - 1) + n * q by omega, Int.add_mul_ediv_left _ _ (by omega), Int.ediv_eq_zero_of_lt (by omega) (by omega)]
      omega
    rw [e, if_neg fun z => c z.2]
    omega
/-- one date: 1 if it is among them -/
theorem tms_one {b n v : Int} (hn : n ≠ 0) : (tms b n v v = 1 ∧ ∃ q : Nat, v = b + (q : Int) * n) ∨ (tms b n v v = 0 ∧ ∀ q : Nat, v ≠ b + (q : Int) * n) := by
  have key : ∀ b n v : Int, 0 < n → (trm b n v v = 1 ∧ ∃ q : Nat, v = b + (q : Int) * n) ∨ (trm b n v v = 0 ∧ ∀ q : Nat, v ≠ b + (q : Int) * n) := fun b n v hn => by
    rw [trm_upt hn (by omega), upt_step hn]
    by_cases c : b ≤ v ∧ (v - b) % n = 0
    · rw [if_pos c]
      refine .inl ⟨rfl, ((v - b) / n).toNat, ?_⟩
      have h1 := Int.emod_add_mul_ediv (v - b) n
      have q0 : 0 ≤ (v - b) / n := Int.ediv_nonneg (by omega) (by omega)
      rw [Int.toNat_of_nonneg q0, Int.mul_comm]
      omega
    · rw [if_neg c]
      refine .inr ⟨rfl, fun q e => c ⟨?_, ?_⟩⟩
      · have : 0 ≤ (q : Int) * n := Int.mul_nonneg (by omega) (by omega)
        omega
      · rw [show v - b = (q : Int) * n by omega]
        exact Int.mul_emod_left ..
  unfold tms
  split
  · rename_i c
    rcases key (-b) (-n) (-v) (by omega) with ⟨h, q, e⟩ | ⟨h, e⟩
    · refine .inl ⟨h, q, ?_⟩
      rw [Int.mul_neg] at e
      omega
    · refine .inr ⟨h, fun q z => e q ?_⟩
      rw [Int.mul_neg]
      omega
  · exact key b n v (by omega)
theorem cnt_cons (x : Int) (xs : List Int) (lo hi : Int) : cnt (x :: xs) lo hi = cnt xs lo hi + if lo ≤ x ∧ x ≤ hi then 1 else 0 := by
  unfold cnt
  rw [List.filter_cons]
  by_cases c : lo ≤ x ∧ x ≤ hi
  · rw [if_pos (decide_eq_true c), if_pos c, List.length_cons]
  · rw [if_neg (by rw [decide_eq_true_eq]; exact c), if_neg c, Nat.add_zero]
theorem cnt_add {lo mid hi : Int} (h1 : lo - 1 ≤ mid) (h2 : mid ≤ hi) : ∀ xs, cnt xs lo mid + cnt xs (mid + 1) hi = cnt xs lo hi
  | [] => rfl
  | x :: xs => by
    have ih := cnt_add h1 h2 xs
    rw [cnt_cons, cnt_cons, cnt_cons]
    split <;> split <;> split <;> omega
theorem sum_add {g h u : Int → Int} : ∀ xs : List Int, (∀ v, g v + h v = u v) → (xs.map g).sum + (xs.map h).sum = (xs.map u).sum
  | [], _ => rfl
  | x :: xs, k => by
    have ih := sum_add xs k
    have := k x
    rw [List.map_cons, List.map_cons, List.map_cons, List.sum_cons, List.sum_cons, List.sum_cons]
    omega
theorem btw_add {xs : List Int} {e : Nat} {n lo mid hi : Int} (h1 : lo - 1 ≤ mid) (h2 : mid ≤ hi) : btw xs e n lo mid + btw xs e n (mid + 1) hi = btw xs e n lo hi := by
  unfold btw
  split
  · have := cnt_add h1 h2 xs
    omega
  · rename_i hn
    have a := cnt_add h1 h2 (xs.take e)
    have b := sum_add (xs.drop e) fun v => tms_add (b := v) hn h1 h2
    omega
theorem btw_void {xs : List Int} {e : Nat} {n hi : Int} : btw xs e n (hi + 1) hi = 0 := by
  have := btw_add (xs := xs) (e := e) (n := n) (lo := hi + 1) (mid := hi) (hi := hi) (by omega) (Int.le_refl _)
  omega
theorem sum_zero {g : Int → Int} : ∀ {xs : List Int}, (∀ v ∈ xs, g v = 0) → (xs.map g).sum = 0
  | [], _ => rfl
  | x :: xs, k => by
    rw [List.map_cons, List.sum_cons, k x List.mem_cons_self, sum_zero fun v hv => k v (List.mem_cons_of_mem _ hv)]
    rfl
theorem sum_one {g : Int → Int} : ∀ {xs : List Int} {i : Nat}, (∀ (j : Nat) v, xs[j]? = some v → g v = if j = i then 1 else 0) → i < xs.length → (xs.map g).sum = 1
  | [], i, _, h => absurd h (Nat.not_lt_zero _)
  | x :: xs, 0, k, _ => by
    rw [List.map_cons, List.sum_cons, sum_zero fun v hv => by
      obtain ⟨j, hj⟩ := List.getElem?_of_mem hv
      exact k (j + 1) v (by rw [List.getElem?_cons_succ]; exact hj)]
    have := k 0 x rfl
    rw [if_pos rfl] at this
    omega
  | x :: xs, i + 1, k, h => by
    have := k 0 x rfl
    rw [if_neg (by omega)] at this
    rw [List.map_cons, List.sum_cons, sum_one (i := i) (fun j v e => by
      have := k (j + 1) v (by rw [List.getElem?_cons_succ]; exact e)
      rw [this]
      by_cases c : j = i
      · rw [if_pos c, if_pos (by omega)]
      · rw [if_neg c, if_neg (by omega)]) (by rw [List.length_cons] at h; omega)]
    omega
theorem cnt_sum (lo hi : Int) : ∀ xs, (cnt xs lo hi : Int) = (xs.map fun v => if lo ≤ v ∧ v ≤ hi then 1 else 0).sum
  | [] => rfl
  | x :: xs => by
    have ih := cnt_sum lo hi xs
    rw [cnt_cons, List.map_cons, List.sum_cons]
    split <;> omega
section
variable {f : Int → Int} {d L e : Nat} {x : Int}
theorem Trl.same_place (a : Trl f d x L e) {j j' : Nat} (h : j < L) (h' : j' < L) {q q' : Int} (z : it f x j + q * (it f x L - it f x e) = it f x j' + q' * (it f x L - it f x e)) : j = j' := by
  obtain ⟨m, hm⟩ := a.dvd
  have r : it f x j % (d : Int) = it f x j' % (d : Int) := by
    have e1 : it f x j = it f x j' + (d : Int) * (m * (q' - q)) := by
      rw [hm, Int.mul_comm q, Int.mul_comm q', Int.mul_assoc, Int.mul_assoc] at z
      rw [Int.mul_sub, Int.mul_sub]
      omega
    rw [e1, Int.add_mul_emod_self_left]
  rcases Nat.lt_trichotomy j j' with c | c | c
  · exact absurd r (a.ne j j' c h')
  · exact c
  · exact absurd r.symm (a.ne j' j c h)
/-- a date of the series is counted once -/
theorem btw_one (a : Trl f d x L e) (p : Per f d) (k : Nat) : btw (trs f x L) e (it f x L - it f x e) (it f x k) (it f x k) = 1 := by
  obtain ⟨j, q, jl, rfl, hv, qe⟩ := a.split p k
  obtain ⟨v, ev⟩ : ∃ v, it f x (j + q * (L - e)) = v := ⟨_, rfl⟩
  obtain ⟨n, hn⟩ : ∃ n, it f x L - it f x e = n := ⟨_, rfl⟩
  have sp : ∀ (j' : Nat) (q' : Nat), j' < L → v = it f x j' + (q' : Int) * n → j = j' := fun j' q' h' z => by
    refine a.same_place jl h' (q := (q : Int)) (q' := (q' : Int)) ?_
    rw [← hv, ev, hn]
    exact z
  have sp0 : ∀ j' : Nat, j' < L → v = it f x j' → j = j' := fun j' h' z => sp j' 0 h' (by rw [z]; simp)
  rw [ev, hn] at hv
  rw [ev, hn]
  have elt := a.lt
  unfold btw
  split
  · rename_i n0
    rw [n0, Int.mul_zero, Int.add_zero] at hv
    rw [cnt_sum]
    refine sum_one (i := j) (fun j' u hu => ?_) (by rw [trs_len]; exact jl)
    have hj' := (List.getElem?_eq_some_iff.mp hu).1
    rw [trs_len] at hj'
    rw [trs_get hj'] at hu
    obtain rfl : it f x j' = u := Option.some.inj hu
    by_cases c : j' = j
    · subst c
      rw [if_pos (by omega), if_pos rfl]
    · rw [if_neg (fun z => c (sp0 j' hj' (by omega)).symm), if_neg c]
  · rename_i n0
    rw [cnt_sum]
    have tk : ∀ (j' : Nat) (u : Int), ((trs f x L).take e)[j']? = some u → j' < e ∧ u = it f x j' := fun j' u hu => by
      have hj' := (List.getElem?_eq_some_iff.mp hu).1
      rw [List.length_take, trs_len] at hj'
      rw [List.getElem?_take_of_lt (by omega), trs_get (by omega)] at hu
      exact ⟨by omega, (Option.some.inj hu).symm⟩
    have dr : ∀ (j' : Nat) (u : Int), ((trs f x L).drop e)[j']? = some u → e + j' < L ∧ u = it f x (e + j') := fun j' u hu => by
      have hj' := (List.getElem?_eq_some_iff.mp hu).1
      rw [List.length_drop, trs_len] at hj'
      rw [List.getElem?_drop, trs_get (by omega)] at hu
      exact ⟨by omega, (Option.some.inj hu).symm⟩
    rcases Nat.lt_or_ge j e with c | c
    · have q0 : q = 0 := Nat.eq_zero_of_not_pos fun z => by have := qe (by omega); omega
      rw [q0] at hv
      rw [sum_one (i := j) (fun j' u hu => ?_) (by rw [List.length_take, trs_len]; omega), sum_zero fun u hu => ?_]
      · rfl
      · obtain ⟨j', hj'⟩ := List.getElem?_of_mem hu
        obtain ⟨h1, rfl⟩ := dr j' u hj'
        rcases tms_one (b := it f x (e + j')) (v := v) n0 with ⟨_, q', z⟩ | ⟨z, _⟩
        · have := sp _ q' h1 z
          omega
        · exact z
      · obtain ⟨h1, rfl⟩ := tk j' u hu
        by_cases c2 : j' = j
        · subst c2
          rw [if_pos (by omega), if_pos rfl]
        · rw [if_neg (fun z => c2 (sp0 j' (by omega) (by omega)).symm), if_neg c2]
    · have za : ((List.take e (trs f x L)).map fun u => if v ≤ u ∧ u ≤ v then (1 : Int) else 0).sum = 0 := sum_zero fun u hu => by
        obtain ⟨j', hj'⟩ := List.getElem?_of_mem hu
        obtain ⟨h1, rfl⟩ := tk j' u hj'
        rw [if_neg fun z => ?_]
        have := sp0 j' (by omega) (by omega)
        omega
      have zb : ((List.drop e (trs f x L)).map fun u => tms u n v v).sum = 1 := sum_one (i := j - e) (fun j' u hu => by
        obtain ⟨h1, rfl⟩ := dr j' u hu
        by_cases c2 : j' = j - e
        · subst c2
          rw [if_pos rfl]
          rw [show e + (j - e) = j by omega]
          rcases tms_one (b := it f x j) (v := v) n0 with ⟨z, _⟩ | ⟨_, z⟩
          · exact z
          · exact absurd hv (z q)
        · rw [if_neg c2]
          rcases tms_one (b := it f x (e + j')) (v := v) n0 with ⟨_, q', z⟩ | ⟨z, _⟩
          · have := sp _ q' h1 z
            omega
          · exact z) (by rw [List.length_drop, trs_len]; omega)
      rw [za, zb]
      rfl
/-- what is no date of the series is not counted -/
theorem btw_none (a : Trl f d x L e) (p : Per f d) {v : Int} (h : ∀ k, it f x k ≠ v) : btw (trs f x L) e (it f x L - it f x e) v v = 0 := by
  have elt := a.lt
  unfold btw
  have z0 : ∀ u ∈ trs f x L, (if v ≤ u ∧ u ≤ v then (1 : Int) else 0) = 0 := fun u hu => by
    obtain ⟨j, hj⟩ := List.getElem?_of_mem hu
    have hj' := (List.getElem?_eq_some_iff.mp hj).1
    rw [trs_len] at hj'
    rw [trs_get hj'] at hj
    obtain rfl : it f x j = u := Option.some.inj hj
    rw [if_neg]
    have := h j
    omega
  split
  · rw [cnt_sum]
    exact sum_zero z0
  · rename_i n0
    rw [cnt_sum, sum_zero fun u hu => z0 u (List.mem_of_mem_take hu), sum_zero fun u hu => ?_]
    · rfl
    · obtain ⟨j', hj⟩ := List.getElem?_of_mem hu
      have hj' := (List.getElem?_eq_some_iff.mp hj).1
      rw [List.length_drop, trs_len] at hj'
      rw [List.getElem?_drop, trs_get (by omega)] at hj
      obtain rfl : it f x (e + j') = u := Option.some.inj hj
      rcases tms_one (b := it f x (e + j')) (v := v) n0 with ⟨_, q, z⟩ | ⟨z, _⟩
      · exfalso
        refine h (e + j' + q * (L - e)) ?_
        rw [a.join p q (by omega) (by omega)]
        exact z.symm
      · exact z
theorem btw_gap (a : Trl f d x L e) (p : Per f d) {lo : Int} : ∀ (m : Nat), (∀ v, lo ≤ v → v < lo + (m : Int) → ∀ k, it f x k ≠ v) → btw (trs f x L) e (it f x L - it f x e) lo (lo + (m : Int) - 1) = 0
  | 0, _ => by
    have := btw_void (xs := trs f x L) (e := e) (n := it f x L - it f x e) (hi := lo - 1)
    rw [show lo - 1 + 1 = lo by omega] at this
    rw [show lo + ((0 : Nat) : Int) - 1 = lo - 1 by omega]
    exact this
  | m + 1, h => by
    have ih := btw_gap a p m fun v h1 h2 => h v h1 (by omega)
    have s := btw_add (xs := trs f x L) (e := e) (n := it f x L - it f x e) (lo := lo) (mid := lo + (m : Int) - 1) (hi := lo + (m : Int)) (by omega) (by omega)
    rw [ih, show lo + (m : Int) - 1 + 1 = lo + (m : Int) by omega, btw_none a p (h (lo + (m : Int)) (by omega) (by omega))] at s
    rw [show lo + ((m + 1 : Nat) : Int) - 1 = lo + (m : Int) by omega, ← s]
    rfl
/-- a forward series: from its date i to its date k -/
theorem it_fwd (h : ∀ z, 0 < f z) {i k : Nat} (hik : i < k) : it f x i < it f x k := by
  obtain ⟨m, rfl⟩ : ∃ m, k = i + 1 + m := ⟨k - i - 1, by omega⟩
  clear hik
  induction m with
  | zero =>
    rw [Nat.add_zero, it_succ]
    have := h (it f x i)
    omega
  | succ m ih =>
    rw [show i + 1 + (m + 1) = i + 1 + m + 1 by omega, it_succ]
    have := h (it f x (i + 1 + m))
    omega
theorem btw_fwd (a : Trl f d x L e) (p : Per f d) (h : ∀ z, 0 < f z) (i : Nat) : ∀ m : Nat, btw (trs f x L) e (it f x L - it f x e) (it f x i) (it f x (i + m)) = (m : Int) + 1
  | 0 => by
    rw [Nat.add_zero, btw_one a p]
    rfl
  | m + 1 => by
    have ih := btw_fwd a p h i m
    have s1 := it_fwd (x := x) h (show i + m < i + (m + 1) by omega)
    have s0 : it f x i ≤ it f x (i + m) := by
      rcases Nat.eq_zero_or_pos m with c | c
      · rw [c]
        exact Int.le_refl _
      · exact Int.le_of_lt (it_fwd h (by omega))
    have g := btw_gap a p (lo := it f x (i + m) + 1) ((it f x (i + (m + 1)) - it f x (i + m) - 1).toNat) fun v h1 h2 k hk => by
      rcases Nat.lt_trichotomy k (i + m) with c | c | c
      · have := it_fwd (x := x) h c
        omega
      · subst c
        omega
      · rcases Nat.eq_or_lt_of_le (show i + (m + 1) ≤ k by omega) with c2 | c2
        · subst c2
          omega
        · have := it_fwd (x := x) h c2
          omega
    rw [show it f x (i + m) + 1 + (((it f x (i + (m + 1)) - it f x (i + m) - 1).toNat : Nat) : Int) - 1 = it f x (i + (m + 1)) - 1 by omega] at g
    have s2 := btw_add (xs := trs f x L) (e := e) (n := it f x L - it f x e) (lo := it f x i) (mid := it f x (i + m)) (hi := it f x (i + (m + 1)) - 1) (by omega) (by omega)
    have s3 := btw_add (xs := trs f x L) (e := e) (n := it f x L - it f x e) (lo := it f x i) (mid := it f x (i + (m + 1)) - 1) (hi := it f x (i + (m + 1))) (by omega) (by omega)
    rw [show it f x (i + (m + 1)) - 1 + 1 = it f x (i + (m + 1)) by omega, btw_one a p] at s3
    omega
end
end My

/-! Laws that make lambdas: what the top has left of the code tables, the law's end, defs whose code object is told. -/
namespace My
open PySem PySem.Spec PyProof.Rows L2
/-- an empty table of code objects -/
def tabZ : Obj := { cls := .none, data := .fields #[] }
def isTab : Option Obj → Bool
  | some ⟨.none, none, .fields vs, sl⟩ => vs.isEmpty && sl.isEmpty
  | _ => false
theorem isTab_eq {o : Option Obj} (h : isTab o = true) : o = some tabZ := by
  unfold isTab at h
  split at h
  · rename_i vs sl
    obtain ⟨h1, h2⟩ := He.ba h
    have e1 : vs = #[] := Array.isEmpty_iff.mp h1
    have e2 : sl = #[] := Array.isEmpty_iff.mp h2
    rw [e1, e2]
    rfl
  · cases h
/-- the code object of the def at f, the table of the code object at c -/
def codeOf (K : Fg) (f : Addr) : Addr := match K.lookup f with
  | some ⟨_, _, .func fd, _⟩ => (match fd.code with
    | Value.ref c => c
    | _ => 0)
  | _ => 0
def tabOf (K : Fg) (c : Addr) : Addr := match K.lookup c with
  | some ⟨_, _, .fields vs, _⟩ => (match vs[11]? with
    | some (Value.ref P) => P
    | _ => 0)
  | _ => 0
def headB (K : Fg) (c : Addr) : Bool := match K.lookup c with
  | some ⟨.type "code", _, .fields vs, _⟩ => (match vs[11]?, vs.getD 11 .none, vs.getD 18 .none, vs.getD 7 .none, vs.getD 9 .none, vs.getD 10 .none with
    | some (Value.ref P), Value.ref P', Value.str _ _, Value.int _ _, Value.bool _, Value.int _ _ => P == P' && c != P
    | _, _, _, _, _, _ => false)
  | _ => false
theorem headB_ok {K : Fg} {h : Heap} {c : Addr} (X : K.In h) (q : headB K c = true) : PySem.W.CodeHd h c (tabOf K c) := by
  unfold headB at q
  split at q
  · rename_i dd vs sl ho
    split at q
    · rename_i P P' file tf flags tg inF text tt e1 e2 e3 e4 e5 e6
      obtain ⟨q1, q2⟩ := He.ba q
      obtain rfl : P = P' := beq_iff_eq.mp q1
      have et : tabOf K c = P := by
        unfold tabOf
        rw [ho]
        show (match vs[11]? with
          | some (Value.ref P) => P
          | _ => 0) = P
        rw [e1]
      rw [et]
      exact ⟨_, vs, file, tf, flags, tg, inF, text, tt, X _ _ ho, rfl, rfl, e1, e2, e3, e4, e5, e6, by simpa using q2⟩
    · cases q
  · cases q
/-- what is known of the table of the def at f -/
structure LamAt (K : Fg) (h : Heap) (f : Addr) : Prop where
  hd : PySem.W.CodeHd h (codeOf K f) (tabOf K (codeOf K f))
  tb : h.get? (tabOf K (codeOf K f)) = some tabZ
  no : K.lookup (tabOf K (codeOf K f)) = none
def lamB (g : Addr → Option Obj) (K : Fg) (f : Addr) : Bool := headB K (codeOf K f) && (isTab (g (tabOf K (codeOf K f))) && (K.lookup (tabOf K (codeOf K f))).isNone)
def asT (ns : List Str) (n : Nat) (g : Addr → Option Obj) : List Addr := (asW ns n g).filter fun a => !isTab (g a)
def seeT (ns : List Str) (n : Nat) (fa : List (Fg → Bool)) (fn : List He5.DefA) (ls : List (Fg → Addr)) (g : Addr → Option Obj) : He.AlD :=
  ((seeX fa fn (He.frG g (asT ns n g))).1 && ls.all (fun f => lamB g (He.frG g (asT ns n g)) (f (He.frG g (asT ns n g)))), (seeX fa fn (He.frG g (asT ns n g))).2)
def hookT (ns : List Str) (n : Nat) (fa : List (Fg → Bool)) (fn : List He5.DefA) (ls : List (Fg → Addr)) : PySem.W.Hook where
  α := He.AlD
  obs := fun s => seeT ns n fa fn ls s.heap.get?
  val := fun _ => dueX fn
  says := fun _ h => ∃ K : Fg, K.In h ∧ seeX fa fn K = dueX fn ∧ ∀ f ∈ ls, LamAt K h (f K)
  of := fun _ s e => by
    have e1 := congrArg (fun z : He.AlD => z.1) e
    have e2 := congrArg (fun z : He.AlD => z.2) e
    obtain ⟨a1, a2⟩ := He.ba (show ((seeX fa fn (He.frG s.heap.get? (asT ns n s.heap.get?))).1 && ls.all (fun f => lamB s.heap.get? (He.frG s.heap.get? (asT ns n s.heap.get?)) (f (He.frG s.heap.get? (asT ns n s.heap.get?))))) = true from e1)
    refine ⟨He.frG s.heap.get? (asT ns n s.heap.get?), He.frG_in, Prod.ext a1 e2, fun f hf => ?_⟩
    obtain ⟨b1, b⟩ := He.ba (List.all_eq_true.mp a2 f hf)
    obtain ⟨b2, b3⟩ := He.ba b
    exact ⟨headB_ok He.frG_in b1, isTab_eq b2, by simpa using b3⟩
  keeps := fun _ _ _ z k => by
    obtain ⟨K, q1, q2, q3⟩ := z
    exact ⟨K, PySem.W.Frag.In.keeps q1 k, q2, fun f hf => ⟨(q3 f hf).hd.keeps k, k _ _ (q3 f hf).tb, (q3 f hf).no⟩⟩
theorem seeT_eq {ns : List Str} {n : Nat} {fa : List (Fg → Bool)} {fn : List He5.DefA} {ls : List (Fg → Addr)} {g : Addr → Option Obj} {s : Shared} (h : ∀ a, g a = s.heap.get? a) : seeT ns n fa fn ls g = (hookT ns n fa fn ls).obs s := by
  obtain rfl : g = s.heap.get? := funext h
  rfl
/-- the abstract heap of such a law's start: the script, frozen, and the tables -/
def scriptT (a : Addr) (vs : List Value) (ns : List Int) (own : Bool) (ts : List Addr) : Hp := fun b => if b ∈ ts then some (.tbl #[]) else if b = a ∧ own = true then some (.frz { cls := .type "list", data := .seq vs.toArray } (.lst (ns.map V.int))) else none
/-- the law's promise, the tables told -/
def spLawT (K : Fg) (fs : List Addr) : Sp := fun vs H Q _ => ∃ (a : Addr) (ns : List Int), vs = [.ref a] ∧ SqL K H a (ns.map V.int) ∧ ns.length ≤ 63 ∧ (∀ f ∈ fs, H (tabOf K (codeOf K f)) = some (.tbl #[])) ∧ ∀ H' : Hp, Q (.bl true) H'
theorem lawGT {P : Program} {w : World} {K : Fg} {mg mb : Str → Option Value} {k : Nat} {fa a : Addr} {sp : Sp} {s₁ : Shared} {vs : List Value} {ns : List Int} {fs : List Addr}
    (kin : K.In s₁.heap) (hg : s₁.heap.Ns mainGlobals mg) (hb : s₁.heap.Ns builtinsNs mb) (hbb : ∀ x : Str, x ≠ "__name__" → mb x = bootBuiltins x) (nl : s₁.heap.NoLimit) (ge : s₁.gens = #[])
    (hl : ∀ f ∈ fs, LamAt K s₁.heap f)
    (hbm : ∃ (bm : Addr) (ob : Obj), mg "__builtins__" = some (.ref bm) ∧ bm ≠ builtinsNs ∧ s₁.heap.get? bm = some ob ∧ ob.cls = .type "module" ∧ ob.dict = some builtinsNs ∧ ob.data = .plain)
    (ga : s₁.heap.get? a = some { cls := .type "list", data := .seq vs.toArray }) (hi : IntsAre vs ns) (hz : ns.length ≤ sizeLine) (hr : Room k callerA)
    (F : ∀ base : Heap, (∀ f ∈ fs, LamX.TabB base mg (codeOf K f) (tabOf K (codeOf K f))) → FnG P w K mg base k fa sp)
    (hsp : ∀ H : Hp, SqL K H a (ns.map V.int) → (∀ f ∈ fs, H (tabOf K (codeOf K f)) = some (.tbl #[])) → sp [.ref a] H (fun v _ => v = .bl true) fun _ _ _ => False) :
    codeAny (model P w) callerA (.call (.ref fa) ⟨[.ref a], []⟩) (fun r s' => r = .ok (.ret (.bool true)) ∧ OldK s₁.heap s'.heap ∧ s'.os = s₁.os ∧ AllBare s'.gens) s₁ := by
  obtain ⟨ts, hts⟩ : ∃ ts, fs.map (fun f => tabOf K (codeOf K f)) = ts := ⟨_, rfl⟩
  have tin : ∀ f ∈ fs, tabOf K (codeOf K f) ∈ ts := fun f hf => hts ▸ List.mem_map.mpr ⟨f, hf, rfl⟩
  have tof : ∀ b ∈ ts, ∃ f ∈ fs, b = tabOf K (codeOf K f) := fun b hb => by
    rw [← hts] at hb
    obtain ⟨f, hf, e⟩ := List.mem_map.mp hb
    exact ⟨f, hf, e.symm⟩
  have tat : ∀ b ∈ ts, s₁.heap.get? b = some tabZ := fun b hb => by
    obtain ⟨f, hf, rfl⟩ := tof b hb
    exact (hl f hf).tb
  have tno : ∀ b ∈ ts, K.lookup b = none := fun b hb => by
    obtain ⟨f, hf, rfl⟩ := tof b hb
    exact (hl f hf).no
  have ant : a ∉ ts := fun z => by
    have e := (tat a z).symm.trans ga
    cases e
  obtain ⟨H, hS, hok, hA, hT⟩ : ∃ H : Hp, SqL K H a (ns.map V.int) ∧ HOk P w H s₁.heap ∧ (∀ b u, H b = some u → K.lookup b = none ∧ ((b ∈ ts ∧ u = .tbl #[]) ∨ (b = a ∧ ∃ o v, u = .frz o v))) ∧ ∀ b ∈ ts, H b = some (.tbl #[]) := by
    have lv := hi.length
    have rv := vals_ints hi
    have at_ : ∀ own b u, scriptT a vs ns own ts b = some u → (b ∈ ts ∧ u = .tbl #[]) ∨ (b = a ∧ own = true ∧ u = .frz { cls := .type "list", data := .seq vs.toArray } (.lst (ns.map V.int))) := fun own b u z => by
      unfold scriptT at z
      split at z
      · next h => exact .inl ⟨h, (Option.some.inj z).symm⟩
      · split at z
        · next h => exact .inr ⟨h.1, h.2, (Option.some.inj z).symm⟩
        · cases z
    have tb : ∀ own, ∀ b ∈ ts, scriptT a vs ns own ts b = some (.tbl #[]) := fun own b hb => if_pos hb
    cases hk : K.lookup a with
    | some o =>
      have e := (kin a o hk).symm.trans ga
      cases e
      refine ⟨scriptT a vs ns false ts, .inr ⟨_, _, _, hk, rfl, rfl, rfl, by rw [List.size_toArray, lv]; exact hz, by simpa using rv⟩, fun b u z => ?_, fun b u z => ?_, tb false⟩
      · rcases at_ _ b u z with ⟨hb, rfl⟩ | ⟨_, h2, _⟩
        · exact tat b hb
        · cases h2
      · rcases at_ _ b u z with ⟨hb, rfl⟩ | ⟨_, h2, _⟩
        · exact ⟨tno b hb, .inl ⟨hb, rfl⟩⟩
        · cases h2
    | none =>
      refine ⟨scriptT a vs ns true ts, .inl (.inr ⟨_, (if_neg ant).trans (if_pos ⟨rfl, rfl⟩)⟩), fun b u z => ?_, fun b u z => ?_, tb true⟩
      · rcases at_ _ b u z with ⟨hb, rfl⟩ | ⟨rfl, _, rfl⟩
        · exact tat b hb
        · exact ⟨ga, by rw [List.length_map]; exact hz, vs, _, rv, ga⟩
      · rcases at_ _ b u z with ⟨hb, rfl⟩ | ⟨rfl, _, rfl⟩
        · exact ⟨tno b hb, .inl ⟨hb, rfl⟩⟩
        · exact ⟨hk, .inr ⟨rfl, _, _, rfl⟩⟩
  have off : ∀ {b : Addr} {o : Obj}, s₁.heap.get? b = some o → (∀ ys n, o.data ≠ .seq ys n) → o.data ≠ .fields #[] → H b = none := fun {b o} e d d2 => by
    cases q : H b with
    | none => rfl
    | some u =>
      rcases (hA b u q).2 with ⟨hb, _⟩ | ⟨rfl, _⟩
      · rw [tat b hb] at e
        cases e
        exact absurd rfl d2
      · rw [ga] at e
        cases e
        exact absurd rfl (d vs.toArray _)
  have ns' : ∀ {b : Addr} {m : Str → Option Value}, s₁.heap.Ns b m → (hidT s₁.heap H).Ns b m := fun z => by
    obtain ⟨o, es, ep, e, d, r⟩ := z
    exact ⟨o, es, ep, hidT_get e (off e (fun ys n h => by rw [d] at h; cases h) (fun h => by rw [d] at h; cases h)), d, r⟩
  have kb : K.In (hidT s₁.heap H) := fun b o e => hidT_get (kin b o e) (by
    cases q : H b with
    | none => rfl
    | some u => rw [(hA b u q).1] at e; cases e)
  obtain ⟨mc, n1, n2⟩ := nl
  have TB : ∀ f ∈ fs, LamX.TabB (hidT s₁.heap H) mg (codeOf K f) (tabOf K (codeOf K f)) := fun f hf => by
    have ht := (hl f hf).tb
    constructor
    · obtain ⟨o, us, file, tf, flags, tg, inF, text, tt, c1, c2, c3, c4, c⟩ := (hl f hf).hd
      refine ⟨o, us, file, tf, flags, tg, inF, text, tt, hidT_get c1 (off c1 (fun ys n z => by rw [c3] at z; cases z) fun z => ?_), c2, c3, c4, c⟩
      rw [c3] at z
      obtain rfl : us = #[] := Data.fields.inj z
      simp at c4
    · obtain ⟨bm, ob, b1, b2, b3, b4, b5, b6⟩ := hbm
      have x1 : bm ≠ mainGlobals := fun z => by
        obtain ⟨o, es, ep, e, d, _⟩ := hg
        rw [z, e] at b3
        cases b3
        rw [d] at b6
        cases b6
      have x2 : bm ≠ tabOf K (codeOf K f) := fun z => by
        rw [z, ht] at b3
        cases b3
        cases b6
      exact ⟨bm, ob, b1, b2, x1, x2, hidT_get b3 (off b3 (fun ys n z => by rw [b6] at z; cases z) fun z => by rw [b6] at z; cases z), b4, b5, b6⟩
    · intro z
      obtain ⟨o, es, ep, e, d, _⟩ := hg
      rw [← z, e] at ht
      cases ht
      cases d
  have e0 : Env0 P w K mg (hidT s₁.heap H) callerA [] s₁ H := ⟨rfl, ⟨kb, ns' hg, ⟨mb, ns' hb, hbb⟩, ⟨mc, ns' n1, n2⟩⟩, fun _ _ e => of_hidT e, Nat.le_of_eq (hidT_size _ _), trivial, fun b z => in_nil z, hok, .of_eq ge⟩
  refine codeAny_mono (F _ TB callerA [] s₁ H [.ref a] [.ref a] _ _ rfl hr e0 (.cons rfl .nil) (hsp H hS fun f hf => hT _ (tin f hf))) fun r s' h => ?_
  match r, h with
  | .error e, h => exact False.elim h
  | .ok (.ret u), ⟨v, H', h1, h2, un, hok', rv, q⟩ =>
    obtain rfl : v = .bl true := q
    obtain rfl : u = Value.bool true := rv
    have stays : ∀ b o, b ∉ ts → s₁.heap.get? b = some o → s'.heap.get? b = some o := fun b o nb e => by
      cases q : H b with
      | none => exact un.keep b o e q (fun z => in_nil z) (by simp)
      | some u =>
        rcases (hA b u q).2 with ⟨hb, _⟩ | ⟨_, o2, u2, rfl⟩
        · exact absurd hb nb
        · have g1 := (hok b _ q).1
          have g2 := (hok' b _ (un.frzs b o2 u2 q)).1
          rw [g1] at e
          cases e
          exact g2
    have grows : ∀ b ∈ ts, ∃ more : Array Value, s'.heap.get? b = some { cls := .none, data := .fields more } := fun b hb => by
      obtain ⟨more, z⟩ := un.tbls b #[] (hT b hb)
      exact ⟨_, hok' b _ z⟩
    refine ⟨rfl, ⟨fun b o e => ?_, fun b o e => ?_⟩, h1, h2⟩
    · by_cases hb : b ∈ ts
      · obtain ⟨more, hm⟩ := grows b hb
        obtain ⟨f, hf, eb⟩ := tof b hb
        have ht := tat b hb
        rw [ht] at e
        obtain rfl := Option.some.inj e
        rw [eb] at ht hm ⊢
        exact .inr (.inl ⟨((hl f hf).hd.tab ht).isCodeTable, rfl, #[], more, rfl, by rw [Array.empty_append]; exact hm⟩)
      · exact .inl (stays b o hb e)
    · by_cases hb : b ∈ ts
      · obtain ⟨more, hm⟩ := grows b hb
        exact ⟨_, hm⟩
      · exact ⟨o, stays b o hb e⟩
theorem walkGT {l : PySem.W.OpenLaw} {n k : Nat} {q : Program} {loose : List Str} {XP : (Str → Option Value) → Heap → Prop} {YP : World → Heap → Prop} {d : DefRec} (hn : l.most = some n) (hn2 : n ≤ 63) (hdf : d.params.defaults = []) (hr : Room k callerA)
    (F : ∀ (w : World) (mg : Str → Option Value) (fa : Addr) (h : Heap), YP w h → h.Ns mainGlobals mg → mg d.name = some (.ref fa) → ∃ (K : Fg) (fs : List Addr), K.In h ∧ (∀ f ∈ fs, LamAt K h f) ∧
      ∀ base : Heap, (∀ f ∈ fs, LamX.TabB base mg (codeOf K f) (tabOf K (codeOf K f))) → FnG l.prog w K mg base k fa (spLawT K fs)) :
    PySem.W.WalkO q loose XP YP l.row.toRowW d [] (fun f vs => PySem.call f vs) := by
  refine Att.attach_call hn hdf fun w s₀ s₁ mg mb fa o pm cd doc a vs ns G Y ho hd hcd hmg hobj hints hlen hg => ?_
  obtain ⟨K, fs, kin, lam, f⟩ := F w mg fa _ Y G.T.g hmg
  have h63 : ns.length ≤ 63 := Nat.le_trans hlen hn2
  exact lawGT kin G.T.g G.T.b G.T.builtins G.T.nolimit hg lam G.T.bmain hobj hints (Nat.le_trans h63 (by decide)) hr f fun H hS hT => ⟨a, ns, rfl, hS, h63, hT, fun _ => rfl⟩
end My

/-! Defs that make lambdas, lambdas handed to a def. -/
namespace My
open PySem PySem.Spec PyProof.Rows L2
section
variable {fa : List (Fg → Bool)} {fn : List He5.DefA} {K : Fg} {mg : Str → Option Value} {P : Program} {w : World}
theorem code_at {f : Addr} {cdv : Value} {qual : Str} (h : ∃ oc od fd osl, K.lookup f = some ⟨oc, od, .func fd, osl⟩ ∧ fd.code = cdv ∧ PySem.W.codeIn K cdv qual = true) : cdv = .ref (codeOf K f) := by
  obtain ⟨oc, od, fd, osl, e, e2, hc⟩ := h
  unfold PySem.W.codeIn at hc
  split at hc
  · rename_i c
    unfold codeOf
    rw [e]
    show Value.ref c = Value.ref (match fd.code with
      | Value.ref c => c
      | _ => 0)
    rw [e2]
  · cases hc
/-- a def that makes lambdas: its code object is told -/
theorem TxOf.fnGL {base : Heap} (T : TxOf fa fn K mg) (i : Nat) {x qual : Str} {st : Stmt} {at_ : Fg → Addr} {N ps : List Str} {k : Nat} {sp : Sp}
    (hi : fn[i]? = some ⟨at_, x, qual, defArgs st, defBody st, defScope st, [], []⟩) (S : FnScope N ps (defScope st))
    (hb : ∀ (kV doc pm : Value) (an : Option Addr) (cdv ct : Value) (us : List Value), us.length = ps.length →
      bindArgs (PySem.W.fnOf x qual (defArgs st) (defBody st) (defScope st) .none kV doc pm an cdv ct) ⟨us, []⟩ = pure (ps.zip us))
    (len : ∀ vs H Q E, sp vs H Q E → vs.length = ps.length)
    (hbody : ∀ (A : Around) (outer : List Env) (s : Shared) (H : Hp) (vs : List V) (Q : VK) (E : XK), (A.deeper (envOfC qual (defScope st) s.heap.objs.size (at_ K) (.ref (codeOf K (at_ K))))).guards = some [] →
      Room k (A.deeper (envOfC qual (defScope st) s.heap.objs.size (at_ K) (.ref (codeOf K (at_ K))))) → sp vs H Q E →
      ∃ t, PSs (cxOf CX0 P w K mg base N qual (defScope st) (at_ K) (.ref (codeOf K (at_ K))) A outer s H E).nox (defBody st) t ∧ t { nx := fun _ H' => Q .non H', rt := Q } (start N vs) H) :
    FnG P w K mg base (k + 1) (at_ K) sp := T.fnGc i hi S hb len fun cdv A outer s H vs Q E hc hG hr h => by
  obtain rfl := code_at hc
  exact hbody A outer s H vs Q E hG hr h
/-- a law that makes lambdas, or whose defs fs do -/
def LawGT (P : Program) (w : World) (K : Fg) (mg : Str → Option Value) (k : Nat) (at_ : Addr) (fs : List Addr) : Prop := ∀ base : Heap, (∀ f ∈ fs, LamX.TabB base mg (codeOf K f) (tabOf K (codeOf K f))) → FnG P w K mg base k at_ (spLawT K fs)
theorem TxOf.lawGT (T : TxOf fa fn K mg) (i : Nat) {x qual y : Str} {st : Stmt} {at_ : Fg → Addr} {N : List Str} {k : Nat} {fs : List Addr}
    (hi : fn[i]? = some ⟨at_, x, qual, defArgs st, defBody st, defScope st, [], []⟩) (S : FnScope N [y] (defScope st))
    (hb : ∀ (kV doc pm : Value) (an : Option Addr) (cdv ct : Value) (us : List Value), us.length = [y].length →
      bindArgs (PySem.W.fnOf x qual (defArgs st) (defBody st) (defScope st) .none kV doc pm an cdv ct) ⟨us, []⟩ = pure ([y].zip us))
    (hbody : ∀ (base : Heap) (TB : ∀ f ∈ fs, LamX.TabB base mg (codeOf K f) (tabOf K (codeOf K f))) (A : Around) (outer : List Env) (s : Shared) (H : Hp) (a : Addr) (ns : List Int) (Q : VK) (E : XK), (A.deeper (envOfC qual (defScope st) s.heap.objs.size (at_ K) (.ref (codeOf K (at_ K))))).guards = some [] →
      Room k (A.deeper (envOfC qual (defScope st) s.heap.objs.size (at_ K) (.ref (codeOf K (at_ K))))) → SqL K H a (ns.map V.int) → ns.length ≤ 63 → (∀ f ∈ fs, H (tabOf K (codeOf K f)) = some (.tbl #[])) → (∀ H' : Hp, Q (.bl true) H') →
      ∃ t, PSs (cxOf CX0 P w K mg base N qual (defScope st) (at_ K) (.ref (codeOf K (at_ K))) A outer s H E).nox (defBody st) t ∧ t { nx := fun _ H' => Q .non H', rt := Q } (start N [.ref a]) H) :
    LawGT P w K mg (k + 1) (at_ K) fs := fun base TB => by
  refine T.fnGL i hi S hb (fun vs H Q E h => ?_) fun A outer s H vs Q E hG hr h => ?_
  · obtain ⟨a, ns, rfl, _⟩ := h
    rfl
  · obtain ⟨a, ns, rfl, hS, hl, ht, k⟩ := h
    exact hbody base TB A outer s H a ns Q E hG hr hS hl ht k
/-- x(lambda: body), x a def of the module that calls it -/
theorem pe_lamR {X : Cx} {TT : (XK → Hp → VK → Prop) → Hp → VK → Prop} {x a : Str} {c P : Addr} {k : Nat} {st : Stmt} {at_ : Fg → Addr} {Ng : List Str} {params : Arguments} {body : Expr} {scope : Scope} {t : XK → TE} {p lpos pos : Pos}
    (T : TxOf fa fn K mg) (j : Nat) (hj : fn[j]? = some ⟨at_, x, x, defArgs st, defBody st, defScope st, [], []⟩) (S : FnScope Ng [a] (defScope st))
    (hbg : ∀ (kV doc pm : Value) (an : Option Addr) (cdv ct : Value) (us : List Value), us.length = [a].length → bindArgs (PySem.W.fnOf x x (defArgs st) (defBody st) (defScope st) .none kV doc pm an cdv ct) ⟨us, []⟩ = pure ([a].zip us))
    (hm : mg x = some (.ref (at_ K))) (hNg : Ng[0]? = some a) (hva : Vis (defScope st) a) (hK : X.K = K) (hmg : X.mg = mg)
    (hG : ∀ cdg, LamX.GivesTo X Ng x (defScope st) (at_ K) cdg (defBody st) a (X.env.qual ++ "<lambda>") TT)
    (TB : LamX.TabB X.base mg c P) (hcode : X.env.code = .ref c) (hr : Room (k + 2) X.A) (L : LamX.LamS X.env.scope scope)
    (hbody : ∀ (A : Around) (outer : List Env) (s : Shared) (H : Hp) (E : XK) (f c' : Addr), Room k (A.deeper (LamX.lamEnv X scope s.heap.objs.size f c')) → PE (LamX.lamCx X A outer s H E scope f c') body (t E))
    (hg : Gl X x := by rfl) (hdef : defaultsOf params X.env = ([], []) := by rfl)
    (hbind : ∀ (q : Str) (cl : List (Str × Addr)) (pm cv ctv : Value), bindArgs (PySem.W.kla_fn "<lambda>" q params body scope cl pm cv ctv) ⟨[], []⟩ = pure [] := by intros; rfl)
    (hdb : (x == ("__debug__" : Str)) = false := by decide) (hd : (a == ("__debug__" : Str)) = false := by decide) (hcd : (a == ("__classdict__" : Str)) = false := by decide) :
    PE X (.Call (.Name x p) [.Lambda params body scope lpos] [] pos) (LamX.tLam [(P, X.env.qual ++ "<lambda>")] TT t) := by
  subst hK
  subst hmg
  obtain ⟨fd, F⟩ := T.fund j hj
  have F0 : FunD X.K x x (defArgs st) (defBody st) (defScope st) [] [] (at_ X.K) fd := F
  have B : Binds X.K fd [a] [] := F0.bindsN hbg
  have kp := F0.kp
  obtain ⟨oc, od, dV, kV, doc, pm, an, cdv, ct, osl, efd, lk, hcg, _, _⟩ := F0.ex
  subst efd
  exact LamX.pe_lamcall (T := [(P, X.env.qual ++ "<lambda>")]) hg hm kp lk hcg B S hNg hva (hG cdv) TB hcode (List.mem_singleton.mpr rfl) (fun q hq _ => by rw [List.mem_singleton.mp hq]) hr L hdef hbind hbody hdb hd hcd
end
/-- within a lambda -/
theorem passL {X : Cx} {A : Around} {outer : List Env} {s : Shared} {H : Hp} {E : XK} {scope : Scope} {f c' : Addr} : Passes (L2.CX (LamX.lamCx X A outer s H E scope f c').prog (LamX.lamCx X A outer s H E scope f c').w) (LamX.lamCx X A outer s H E scope f c') E :=
  passes_call (X := LamX.lamCx X A outer s H E scope f c') (takes_of rfl rfl rfl rfl) fun _ _ _ _ h => h
theorem eqd {fa : List (Fg → Bool)} {fn : List He5.DefA} {K : Fg} {mg : Str → Option Value} {X : Cx} (T : TxOf fa fn K mg) (hu : X.A.units + 64 < cLine) (hK : X.K = K := by rfl) : OpR X (compareOp .Eq) (rEqD K) := by subst hK; exact op_eqD hu
theorem ned {fa : List (Fg → Bool)} {fn : List He5.DefA} {K : Fg} {mg : Str → Option Value} {X : Cx} (T : TxOf fa fn K mg) (hu : X.A.units + 64 < cLine) (hK : X.K = K := by rfl) : OpR X (compareOp .NotEq) (rNeD K) := by subst hK; exact op_neD hu
/-- heaps of which all but the tables stay -/
theorem ext_same {H H' : Hp} (s : Same H H') : LamX.ExtN H H' := fun b o h _ => s b o h
end My

/-! Defs with defaults of parameters by name alone that may raise, and their calls. -/
namespace My
open PySem PySem.Spec PyProof.Rows L2
/-- a def called with parameters by name, that may raise -/
def FnKwX (P : Program) (w : World) (K : Fg) (mg : Str → Option Value) (base : Heap) (k : Nat) (f : Addr) (n : Nat) (ks : List Str) (pm : List Nat) (sp : Sp) : Prop :=
  ∀ (A : Around) (outer : List Env) (st : Shared) (H : Hp) (us ws : List Value) (vs zs : List V) (Q : VK) (E : XK), Room k A → Env0 P w K mg base A outer st H → Vals vs us → Vals zs ws → vs.length = n → zs.length = ks.length → sp (pick pm (vs ++ zs)) H Q E →
    codeAny (model P w) A (.call (.ref f) ⟨us, ks.zip ws⟩) (CR (L2.CX P w) outer P w H st Q E) st
structure FnDX (P : Program) (w : World) (K : Fg) (mg : Str → Option Value) (base : Heap) (k : Nat) (f : Addr) (x qual : Str) (st : Stmt) (kws : List (Str × V)) (ps : List Str) (sp : Sp) : Prop where
  o : ∃ fd, FunD K x qual (defArgs st) (defBody st) (defScope st) [] kws f fd ∧ FnOk P w K mg base (L2.CX P w) k f fd ps sp
section
variable {fa : List (Fg → Bool)} {fn : List He5.DefA} {K : Fg} {mg : Str → Option Value} {P : Program} {w : World} {base : Heap}
theorem TxOf.fnDX (T : TxOf fa fn K mg) (i : Nat) {x qual : Str} {st : Stmt} {at_ : Fg → Addr} {N ps : List Str} {k : Nat} {sp : Sp} {kwd : List (Str × He.Dv)}
    (hi : fn[i]? = some ⟨at_, x, qual, defArgs st, defBody st, defScope st, [], kwd⟩) (S : FnScope N ps (defScope st))
    (len : ∀ vs H Q E, sp vs H Q E → vs.length = ps.length)
    (hbody : ∀ (cdv : Value) (A : Around) (outer : List Env) (s : Shared) (H : Hp) (vs : List V) (Q : VK) (E : XK), Room k (A.deeper (envOfC qual (defScope st) s.heap.objs.size (at_ K) cdv)) → sp vs H Q E →
      ∃ t, PSs (cxX P w K mg base N qual (defScope st) (at_ K) cdv A outer s H E) (defBody st) t ∧ t { nx := fun _ H' => Q .non H', rt := Q } (start N vs) H) :
    FnDX P w K mg base (k + 1) (at_ K) x qual st (kwd.map fun q => (q.1, q.2.v K)) ps sp := by
  obtain ⟨fd, F⟩ := T.fund i hi
  have F0 : FunD K x qual (defArgs st) (defBody st) (defScope st) [] (kwd.map fun q => (q.1, q.2.v K)) (at_ K) fd := F
  exact ⟨fd, F0, F0.ok S len hbody⟩
variable {k j n : Nat} {f : Addr} {x qual : Str} {st : Stmt} {ps : List Str} {sp sp1 sp2 : Sp} {kws : List (Str × V)} {ks : List Str} {pm : List Nat}
/-- called without them -/
theorem FnDX.plain (F : FnDX P w K mg base k f x qual st kws ps sp) (n : Nat) (hk : kws ≠ []) (hn : n + kws.length = ps.length)
    (h : ∀ (D : Addr) (doc pm : Value) (an : Option Addr) (cdv ct : Value) (us ks : List Value), us.length = n → ks.length = kws.length →
      KwChain D ((kws.map (·.1)).zip ks) (bindArgs (PySem.W.fnOf x qual (defArgs st) (defBody st) (defScope st) .none (.ref D) doc pm an cdv ct) ⟨us, []⟩) (ps.zip (us ++ ks))) :
    FnR P w K mg base (L2.CX P w) k f (fun vs H Q E => sp (vs ++ kws.map (·.2)) H Q E) := by
  obtain ⟨fd, F0, G⟩ := F.o
  obtain ⟨ds, rd, B⟩ := F0.binds0 n hk hn h
  exact G.raw B rd
/-- called with all of them -/
theorem FnDX.kw (F : FnDX P w K mg base k f x qual st kws ps sp) (n : Nat) (ks : List Str) (pm : List Nat)
    (hb : ∀ (kV doc pmv : Value) (an : Option Addr) (cdv ct : Value) (us ws : List Value), us.length = n → ws.length = ks.length →
      bindArgs (PySem.W.fnOf x qual (defArgs st) (defBody st) (defScope st) .none kV doc pmv an cdv ct) ⟨us, ks.zip ws⟩ = pure (ps.zip (pick pm (us ++ ws)))) : FnKwX P w K mg base k f n ks pm sp := by
  intro A outer s H us ws vs zs Q E hr e0 rv rz l1 l2 h
  obtain ⟨fd, F0, G⟩ := F.o
  refine G.run A outer s H ⟨us, ks.zip ws⟩ (pick pm (us ++ ws)) (pick pm (vs ++ zs)) Q E hr e0 ?_ (pick_vals (rv.append rz) pm) h
  obtain ⟨oc, od, dV, kV, doc, pmv, an, cdv, ct, osl, rfl, lk, hcd, hD, hK⟩ := F0.ex
  rcases hD with ⟨_, rfl⟩ | ⟨e, _⟩
  · exact .of_eq (hb kV doc pmv an cdv ct us ws (rv.length.symm.trans l1) (rz.length.symm.trans l2))
  · exact absurd rfl e
theorem fnkw_both (F1 : FnKw P w K mg base k f n ks pm sp1) (F2 : FnKwX P w K mg base j f n ks pm sp2) (h : j ≤ k) : FnKwX P w K mg base k f n ks pm (fun vs H Q E => sp1 vs H Q E0 ∨ sp2 vs H Q E) := fun A outer s H us ws vs zs Q E hr e0 rv rz l1 l2 z =>
  z.elim (fun z => codeAny_mono (F1 A outer s H us ws vs zs Q E0 hr e0 rv rz l1 l2 z) fun r s' z => by
    cases r with
    | error e => exact False.elim z
    | ok fl =>
      cases fl with
      | ret v => exact z
      | next => exact False.elim z
      | brk => exact False.elim z
      | cont => exact False.elim z) fun z => F2 A outer s H us ws vs zs Q E (hr.mono h) e0 rv rz l1 l2 z
end
section
variable {X : Cx} {k n : Nat} {C f : Addr} {ks : List Str} {pm : List Nat} {sp : Sp} {E : XK} {m : Str} {e o : Expr} {es : List Expr} {kws : List Keyword} {ta : TE} {t tk : TA} {pos apos : Pos} {pl : Sem Bool}
theorem run_fnKX {pins : List (Addr × Obj)} {σ : L2.St} {H : Hp} {s : Shared} {Q : VK} {us ws : List Value} {vs zs : List V} (F : FnKwX X.prog X.w X.K X.mg X.base k f n ks pm sp) (hr : Room k X.A) (hx : Passes (L2.CX X.prog X.w) X E)
    (I : Inv X pins σ H s) (r : Vals vs us) (rz : Vals zs ws) (l1 : vs.length = n) (l2 : zs.length = ks.length) (h : sp (pick pm (vs ++ zs)) H Q E) :
    codeAny (model X.prog X.w) X.A (.call (.ref f) ⟨us, ks.zip ws⟩) (fun r s' => match r with | .ok (.ret v) => EP X pins σ Q v s' | .ok _ => False | .error e => X.xe e s') s := by
  refine codeAny_mono (F X.A X.stack s H us ws vs zs Q E hr I.env0 r rz l1 l2 h) fun r s' hq => ?_
  cases r with
  | error e => exact hx pins σ H s e s' I hq
  | ok fl =>
    cases fl with
    | ret u => exact I.after hq
    | next => exact False.elim hq
    | brk => exact False.elim hq
    | cont => exact False.elim hq
theorem pe_mKX (he : PE X o ta) (c : Cls X.K C) (hm : Meth X.K C m f) (F : FnKwX X.prog X.w X.K X.mg X.base k f (n + 1) ks pm sp) (hr : Room k X.A) (hx : Passes (L2.CX X.prog X.w) X E) (ha : PA X (e :: es) t) (hkw : PK X kws tk)
    (hall : (backToKw pos (keywordEach kws X.env)).all (·.1.isSome) = true := by rfl) (hks : (backToKw pos (keywordEach kws X.env)).filterMap (·.1) = ks := by rfl)
    (hst : starEach (e :: es) X.env = (false, eval e X.env) :: starEach es X.env := by rfl)
    (hpl : ((backTo pos (starEach (e :: es) X.env)).any (·.1) || (backToKw pos (keywordEach kws X.env)).any (·.1.isNone)) = false := by rfl)
    (ht : eval (.Call (.Attribute o m apos) (e :: es) kws pos) X.env = (do
      let ov ← eval o X.env
      standAt apos.atName
      let (f, first) ← holding [ov] (getMethod ov m pl)
      callWith pos f first (backTo pos (starEach (e :: es) X.env)) (backToKw pos (keywordEach kws X.env))) := by rfl) : PE X (.Call (.Attribute o m apos) (e :: es) kws pos) (tMK C m n ks.length pm sp E ta t tk) := by
  refine ⟨fun pins s σ H Q I h => PySem.W.methodCall_KW (pl := pl) (thn (he.run pins s σ H _ I h) fun u s1 z => ?_) ht⟩
  obtain ⟨x, H1, I1, rx, a, dx, fs, ex, ea, l, q⟩ := z
  subst ex
  obtain rfl : u = Value.ref a := rx
  refine getmeth_ok I1 ea c hm l ?_
  refine PySem.W.callWith_KW (first := [.ref a]) (h₀ := X.base) I.ok.mod.kin hm.kp hall (thn (ha.run pos pins s1 σ H1 _ I1 q) fun us s2 z => ?_) hpl hst
  obtain ⟨vs, H2, I2, rv, q2⟩ := z
  refine thn (hkw.run pos pins s2 σ H2 _ I2 q2) fun ws s3 z => ?_
  obtain ⟨zs, H3, I3, rz, l1, l2, q3⟩ := z
  refine ⟨I3.kIn, ?_⟩
  rw [hks]
  exact wpAny_call (run_fnKX (us := .ref a :: us) (vs := .ref a :: vs) F hr hx I3 (.cons rfl rv) rz (by rw [List.length_cons, l1]) l2 q3)
end
end My

/-! sorted of lists of ints. -/
namespace My
open PySem PySem.Spec PyProof.Rows L2 PySem.SeqAt
theorem firstLt_map {e r : Nat → Bool} {fin : Bool} : ∀ l : List Nat, firstLt e r fin (l.map Nat.succ) = firstLt (fun j => e (j + 1)) (fun j => r (j + 1)) fin l
  | [] => rfl
  | j :: t => by
    rw [List.map_cons]
    show (if e (j + 1) = true then _ else r (j + 1)) = (if e (j + 1) = true then _ else r (j + 1))
    rw [firstLt_map t]
theorem firstLt_ints : ∀ (ns ms : List Int), firstLt (fun j => decide (ns.getD j 0 = ms.getD j 0)) (fun j => decide (ns.getD j 0 < ms.getD j 0)) (decide (ns.length < ms.length)) (List.range (min ns.length ms.length)) = HT.lexLt ns ms
  | [], [] => rfl
  | [], y :: ys => by
    rw [HT.lexLt_nil_cons, List.length_nil, Nat.zero_min]
    show decide (0 < (y :: ys).length) = true
    exact decide_eq_true (by simp)
  | x :: xs, [] => by
    rw [HT.lexLt_cons_nil, List.length_nil, Nat.min_zero]
    show decide ((x :: xs).length < 0) = false
    exact decide_eq_false (by omega)
  | x :: xs, y :: ys => by
    rw [HT.lexLt_cons, List.length_cons, List.length_cons, Nat.succ_min_succ, List.range_succ_eq_map]
    show (if decide (x = y) = true then _ else decide (x < y)) = _
    by_cases c : x = y
    · rw [if_pos c, if_pos (decide_eq_true c), firstLt_map, ← firstLt_ints xs ys, show decide (xs.length + 1 < ys.length + 1) = decide (xs.length < ys.length) by congr 1; simp]
      rfl
    · rw [if_neg c, if_neg (by simpa using c)]
theorem ints_at : ∀ {vs : List Value} {ns : List Int}, IntsAre vs ns → ∀ (j : Nat) (h : j < vs.length), ∃ t, vs[j] = .int (ns.getD j 0) t
  | _, _, .nil, j, h => absurd h (Nat.not_lt_zero _)
  | _, _, .cons n t r, 0, _ => ⟨t, rfl⟩
  | _, _, .cons n t r, j + 1, h => ints_at r j (Nat.lt_of_succ_lt_succ h)
/-- v is a list of these ints -/
def IsLi (h : Heap) (v : Value) (ns : List Int) : Prop := ∃ (a : Addr) (its : List Value) (n : Nat), v = .ref a ∧ h.get? a = some (seqObj "list" its.toArray n) ∧ IntsAre its ns
theorem IsLi.keeps {h h' : Heap} {v : Value} {ns : List Int} (x : IsLi h v ns) (k : ∀ b o, v = .ref b → h.get? b = some o → h'.get? b = some o) : IsLi h' v ns := by
  obtain ⟨a, its, n, e, g, i⟩ := x
  exact ⟨a, its, n, e, k _ _ e g, i⟩
theorem IsLi.type {M : Model} {h : Heap} {v : Value} {ns : List Int} (x : IsLi h v ns) : PySem.W.Looks M h (typeOf v) (.type "list") := by
  obtain ⟨a, its, n, rfl, g, i⟩ := x
  exact (PySem.W.Looks.ld g).andThen .now
section
variable {prog : Program} {w : World} {A : Around} {E : Value → Shared → Prop} {s : Shared}
theorem lt_li {v u : Value} {ns ms : List Int} {Q : Bool → Shared → Prop} (hu : A.units + 1 < cLine) (hv : IsLi s.heap v ns) (hw : IsLi s.heap u ms) (h : Q (HT.lexLt ns ms) s) : wpAny (model prog w) A (keyLt' oneType' v u) Q E s := by
  obtain ⟨a, xs, n, rfl, ga, ia⟩ := hv
  obtain ⟨b, ys, m, rfl, gb, ib⟩ := hw
  have l1 : xs.toArray.size = ns.length := by rw [List.size_toArray, ia.length]
  have l2 : ys.toArray.size = ms.length := by rw [List.size_toArray, ib.length]
  rw [keyLt'_oneType, oneLt'_eq]
  simp only [if_true]
  refine wpAny_bind (wpAny_cRoomFor (by omega) ?_)
  refine wpAny_bind (wpAny_callSpecialIfBound?_slot (T := "list") ⟨_, ga, rfl⟩ F.slot_list_lt (call_list_lt (e := fun j => decide (ns.getD j 0 = ms.getD j 0)) (r := fun j => decide (ns.getD j 0 < ms.getD j 0)) ⟨_, ga, rfl, _, rfl⟩ ⟨_, gb, rfl, _, rfl⟩ (fun j j1 j2 => ?_) (fun j j1 j2 hj => ?_) ?_))
  · obtain ⟨t1, e1⟩ := ints_at ia j (by rw [List.size_toArray] at j1; exact j1)
    obtain ⟨t2, e2⟩ := ints_at ib j (by rw [List.size_toArray] at j2; exact j2)
    rw [List.getElem_toArray, List.getElem_toArray, e1, e2]
    obtain ⟨e, he, hi⟩ := HT.eqAt_int A.in1 s (ns.getD j 0) t1 (ms.getD j 0) t2
    have : decide (ns.getD j 0 = ms.getD j 0) = e := by
      cases e with
      | true => exact decide_eq_true (hi.mp rfl)
      | false => exact decide_eq_false fun z => absurd (hi.mpr z) Bool.false_ne_true
    show EqAt _ _ _ _ (decide (ns.getD j 0 = ms.getD j 0))
    rw [this]
    exact he
  · obtain ⟨t1, e1⟩ := ints_at ia j (by rw [List.size_toArray] at j1; exact j1)
    obtain ⟨t2, e2⟩ := ints_at ib j (by rw [List.size_toArray] at j2; exact j2)
    rw [List.getElem_toArray, List.getElem_toArray, e1, e2]
    intro pg w E' Q' hq
    exact HT.rcLt_int A.in1 s _ t1 _ t2 pg w E' Q' hq
  · rw [l1, l2, firstLt_ints]
    exact wpAny_truthy_bool h
theorem li_cmp {vs : List Value} {k : Value → List Int} (hu : A.units + 1 < cLine) (hv : ∀ v ∈ vs, IsLi s.heap v (k v)) : SrtO.Cmp prog w A s oneType' (fun p => p.1 ∈ vs) (SrtO.lt2 fun v u => HT.lexLt (k v) (k u)) := by
  intro p q hp hq
  exact lt_li (Q := fun r s' => s' = s ∧ r = HT.lexLt (k p.1) (k q.1)) (E := fun _ _ => False) hu (hv p.1 hp) (hv q.1 hq) ⟨rfl, rfl⟩
theorem li_sortable {a : Addr} {vs : List Value} {k : Value → List Int} (h2 : 2 ≤ vs.length) (hu : A.units + 1 < cLine) (hv : ∀ v ∈ vs, IsLi s.heap v (k v)) (ha : ∀ v ∈ vs, v ≠ .ref a) :
    SrtO.SortableO prog w A s a vs fun v u => HT.lexLt (k v) (k u) := by
  intro h' keep
  have hv' : ∀ v ∈ vs, IsLi h' v (k v) := fun v hm => (hv v hm).keeps fun b o e g => keep b o (fun z => ha v hm (by rw [e, z])) g
  refine ⟨oneType', fun Q E hq => ?_, li_cmp (s := { s with heap := h' }) hu hv'⟩
  exact PySem.W.kas_kind (s := { s with heap := h' }) (T := .type "list") h2 (fun v hm => (hv' v hm).type) (by rfl) (by rfl) hq
end
/-- sorted(xs), xs lists of ints -/
def rSortLL (K : Fg) : List V → Hp → VK → Prop := fun vs H Q => ∃ (a : Addr) (ts : List Addr) (k : Addr → List Int), vs = [.ref a] ∧ SqL K H a (ts.map V.ref) ∧ (∀ t ∈ ts, H t = some (.lst ((k t).map V.int))) ∧
  ∀ (ts' : List Addr) (p : Addr), ts'.Perm ts → ts'.Pairwise (fun p q => HT.lexLt (k q) (k p) = false) → H p = none → Q (.ref p) (upd H p (.lst (ts'.map V.ref)))
section
variable {X : Cx}
theorem cr_sortLL (hu : X.A.units + 64 < cLine) : CallR X (.builtin "sorted") (rSortLL X.K) := by
  intro pins s σ H vs us Q I r h
  obtain ⟨a, ts, k, rfl, hs, hL, q⟩ := h
  obtain ⟨its, rv, hl, hz⟩ := I.list hs
  rw [Vals.ref1 r]
  have ei := nts_of rv
  have hv : ∀ u ∈ its, IsLi s.heap u (k (adO u)) := fun u hm => by
    rw [ei] at hm
    obtain ⟨t, ht, rfl⟩ := List.mem_map.mp hm
    obtain ⟨hz2, its2, n2, rv2, hob2⟩ := I.hok t _ (hL t ht)
    exact ⟨t, its2, n2, rfl, hob2, rv2.ints⟩
  refine SrtO.sorted_ord (NtL.swo_lexL fun u => k (adO u)) hl.isList (by rw [← rv.length]; exact hz) (fun h2 h₁ a' ha' keep => li_sortable (s := { s with heap := h₁ }) h2 (by show X.A.units + 1 + 1 + 1 < cLine; omega) (fun v hm => (hv v hm).keeps fun b o e g => (keep b o g).2) (fun v hm z => ?_)) fun out h1 h2 => ?_
  · obtain ⟨b, its2, n2, e, g, _⟩ := hv v hm
    rw [e] at z
    exact (keep b _ g).1 (Value.ref.inj z)
  obtain ⟨ep, he'⟩ := PyProof.Rows.sortedAll_at s.heap its out.toArray
  have eo : out = (out.map adO).map Value.ref := ref_map fun u hm => by
    have hm' : u ∈ its := h2.perm.mem_iff.mp hm
    rw [ei] at hm'
    obtain ⟨t, _, e⟩ := List.mem_map.mp hm'
    exact ⟨t, e.symm⟩
  have hp : (out.map adO).Perm ts := by
    have p1 := h2.perm.map adO
    rw [ei, ad_map] at p1
    exact p1
  have hso : (out.map adO).Pairwise (fun p q => HT.lexLt (k q) (k p) = false) := List.pairwise_map.mpr (h1.imp fun {x y} z => z)
  have hlen : ((out.map adO).map V.ref).length ≤ sizeLine := by
    rw [List.length_map, hp.length_eq]
    rw [List.length_map] at hz
    exact hz
  have rvo : Vals ((out.map adO).map V.ref) out := by
    have z := of_nts (out.map adO)
    rw [← eo] at z
    exact z
  exact ⟨.ref _, upd H (s.heap.objs.size + 1) (.lst ((out.map adO).map V.ref)), I.laid (t' := s.toks) (fun _ _ => PyProof.Rows.sortedAll_old) (Nat.le_succ _) ⟨hlen, out, ep, rvo, he'⟩, rfl, q _ _ hp hso (I.hok.fresh (Nat.le_succ _))⟩
theorem srtLL_k {fa : List (Fg → Bool)} {fn : List He5.DefA} {K : Fg} {mg : Str → Option Value} (T : TxOf fa fn K mg) (hu : X.A.units + 64 < cLine) (hK : X.K = K := by rfl) : CallR X (.builtin "sorted") (rSortLL K) := by subst hK; exact cr_sortLL hu
end
/-! ### the order of rings -/
theorem lex_anti : ∀ xs ys : List Int, HT.lexLt xs ys = false → HT.lexLt ys xs = false → xs = ys
  | [], [], _, _ => rfl
  | [], y :: ys, h, _ => by rw [HT.lexLt_nil_cons] at h; cases h
  | x :: xs, [], _, h => by rw [HT.lexLt_nil_cons] at h; cases h
  | x :: xs, y :: ys, h1, h2 => by
    rw [HT.lexLt_cons] at h1 h2
    by_cases e : x = y
    · rw [if_pos e] at h1
      rw [if_pos e.symm] at h2
      rw [e, lex_anti xs ys h1 h2]
    · rw [if_neg e] at h1
      rw [if_neg (Ne.symm e)] at h2
      have a := of_decide_eq_false h1
      have b := of_decide_eq_false h2
      exact absurd (show x = y by omega) e
theorem rgs_up {f : Int → Int} {d : Nat} : (rgs f d).Pairwise (fun p q => HT.lexLt q p = false) := by
  unfold rgs
  rw [List.pairwise_map]
  refine List.Pairwise.imp_of_mem ?_ lsts_up
  intro i j hi hj hij
  have li := mem_lsts.mp hi
  have lj := mem_lsts.mp hj
  have ai := li.trl.lt
  have aj := lj.trl.lt
  have e1 : ∀ {z : Int} {s : Nat}, 0 < s → Lst f d z → ∃ t, ring f d z s = z :: t := fun {z s} h0 lz => by
    have := ring_get (f := f) (d := d) (i := z) h0
    rw [rmd_zero lz.1.1 lz.1.2] at this
    cases e : ring f d z s with
    | nil => rw [e] at this; cases this
    | cons a t =>
      rw [e] at this
      exact ⟨t, by rw [show a = z from Option.some.inj this]⟩
  obtain ⟨t, ht⟩ := e1 ai li
  obtain ⟨u, hu⟩ := e1 aj lj
  rw [ht, hu, HT.lexLt_cons, if_neg (by omega)]
  exact decide_eq_false (by omega)
theorem sort_rgs {f : Int → Int} {d : Nat} {cs : List (List Int)} (h : cs.Perm (rgs f d)) (hp : cs.Pairwise (fun p q => HT.lexLt q p = false)) : cs = rgs f d :=
  h.eq_of_pairwise (fun a b _ _ h1 h2 => lex_anti a b h2 h1) hp rgs_up
end My

/-! a def whose only parameter takes all positional values: def f(*xs). -/
namespace My
open PySem PySem.Spec PyProof.Rows L2
section
variable {K : Fg} {mg : Str → Option Value} {P : Program} {w : World} {base : Heap}
/-- the tuple of the values -/
abbrev starObj (us : List Value) : Obj := { cls := .type "tuple", data := .seq us.toArray }
/-- the state with the tuple of the values -/
abbrev starSt (s : Shared) (us : List Value) : Shared := { s with heap := s.heap.push (starObj us) }
theorem star_keeps {s : Shared} {us : List Value} {b : Addr} {o : Obj} (e : s.heap.get? b = some o) : (starSt s us).heap.get? b = some o := Heap.get?_push_of_some _ e
theorem star_env {A : Around} {outer : List Env} {s : Shared} {H : Hp} {us : List Value} {vs : List V} (e : Env0 P w K mg base A outer s H) (r : Vals vs us) (hz : vs.length ≤ sizeLine) :
    Env0 P w K mg base A outer (starSt s us) (upd H s.heap.objs.size (.tup vs)) where
  frames := e.frames
  mod := e.mod
  bs b o h := ⟨star_keeps (e.bs b o h).1, by rw [upd_ne (Nat.ne_of_lt (Heap.lt_size (e.bs b o h).1))]; exact (e.bs b o h).2⟩
  bsz := by
    have := e.bsz
    show base.objs.size ≤ (s.heap.push (starObj us)).objs.size
    rw [Heap.size_push]
    omega
  funs := Heap.FunFrames.of_keeps (fun b o h _ => ⟨o, star_keeps h, rfl⟩) e.funs
  frf b hb := by
    obtain ⟨_, o, ho, _⟩ := e.funs.mem hb
    rw [upd_ne (Nat.ne_of_lt (Heap.lt_size ho))]
    exact e.frf b hb
  hok := e.hok.laid (fun _ _ h => star_keeps h) (Nat.le_refl _) ⟨hz, us, r, _, Heap.get?_push_size _ rfl, rfl, _, rfl⟩
  bare := e.bare
theorem CE.star {outer : List Env} {s s' : Shared} {H : Hp} {us : List Value} {vs : List V} {Q : VK} {u : Value} (hn : H s.heap.objs.size = none)
    (c : CE outer P w (upd H s.heap.objs.size (.tup vs)) (starSt s us) Q u s') : CE outer P w H s Q u s' := by
  obtain ⟨v, H', a, b, un, d⟩ := c
  exact ⟨v, H', a, b, Un.trans (Un.laid (fun _ _ h => star_keeps (us := us) h) (Nat.le_refl _) hn) un, d⟩
/-- such a def by its body -/
theorem fn_star {CX : CXT} {k : Nat} {f : Addr} {name qual : Str} {params : Arguments} {body : List Stmt} {scope : Scope} {dV kV doc pm cdv ct oc : Value} {an od : Option Addr} {osl : Array (Option Value)} {N : List Str} {pv : Str} {m : Nat} {sp : Sp}
    (lk : K.lookup f = some ⟨oc, od, .func (PySem.W.fnOf name qual params body scope dV kV doc pm an cdv ct), osl⟩) (hcd : PySem.W.codeIn K cdv qual = true) (S : FnScope N [pv] scope) (hm : m ≤ sizeLine)
    (hb : ∀ us : List Value, us.length ≤ m → bindArgs (PySem.W.fnOf name qual params body scope dV kV doc pm an cdv ct) ⟨us, []⟩ = (newTuple us >>= fun t => pure [(pv, t)])) (hCX : CXNew CX)
    (hbody : ∀ (A : Around) (outer : List Env) (s : Shared) (H : Hp) (vs : List V) (Q : VK) (E : XK), Room k (A.deeper (envOfC qual scope s.heap.objs.size f cdv)) → sp vs H Q E →
      ∃ t, PSs (cxOf CX P w K mg base N qual scope f cdv A outer s H E) body t ∧ t { nx := fun _ H' => Q .non H', rt := Q } (start N vs) H) :
    FnR P w K mg base CX (k + 1) f (fun vs H Q E => vs.length ≤ m ∧ ∀ p, H p = none → sp [.ref p] (upd H p (.tup vs)) Q E) := by
  rintro A outer s H us vs Q E hr e0 r ⟨hl, hsp⟩
  have hn := e0.hok.fresh (Nat.le_refl s.heap.objs.size)
  have lu : us.length ≤ m := by have := r.length; omega
  have e1 := star_env e0 r (Nat.le_trans hl hm)
  have KX : K.In s.heap := e0.mod.kin.keeps fun b o e => (e0.bs b o e).1
  have lim : (starSt s us).heap.NoLimit := e0.mod.nolimit.keeps fun b o e => (e1.bs b o e).1
  refine codeAny_call_function hr.depth (KX _ _ lk) rfl S.co S.gen rfl (PySem.W.codeRec_of KX hcd) ?_
  rw [hb us lu]
  refine wpAny_bind (wpAny_newTuple (wpAny_pure ?_) (Nat.le_trans lu hm))
  refine wpAny_newFunctionEnv_cells (s := starSt s us) S.kind (fun y hy => ?_) fun env he s1 x => ?_
  · obtain rfl := List.mem_singleton.mp hy
    exact (S.par pv (List.mem_singleton.mpr rfl)).imp id fun q => ⟨q, PySem.W.cellsFrom_some _ _ _ (.inl q)⟩
  subst he
  refine ⟨lim.keeps x.toInCall.keep, codeAny_func ?_⟩
  obtain ⟨t, ht, hq⟩ := hbody A outer (starSt s us) _ _ Q E (hr.deeper _) (hsp _ hn)
  have r1 : Vals [V.ref s.heap.objs.size] [Value.ref s.heap.objs.size] := .cons rfl .nil
  refine wpAny_mono (ht.run [] s1 _ _ _ (inv_start S hr.hd e1 rfl r1 x) hq) (fun fl s' hs => ?_) fun e s' hs => wpAny_mono hs (fun _ s2 z => ?_) fun e' s2 z => ?_
  · have out : ∀ {σ' : L2.St} {H' : Hp} {v : V} {u : Value}, Inv (cxOf CX P w K mg base N qual scope f cdv A outer (starSt s us) (upd H s.heap.objs.size (.tup vs)) E) [] σ' H' s' → RelV v u → Q v H' → CE outer P w H s Q u s' :=
      fun {σ' H' v u} J rv q => CE.star (us := us) hn ⟨v, H', J.os, J.bare, J.base, J.hok, rv, q⟩
    cases fl with
    | ret u => exact hs.elim fun v h => h.elim fun σ' h => h.elim fun H' h => out h.1 h.2.1 h.2.2
    | next => exact hs.elim fun σ' h => h.elim fun H' h => out (v := V.non) (u := Value.none) h.1 rfl h.2
    | brk => exact (hs.elim fun _ h => h.elim fun _ h => h.2).elim
    | cont => exact (hs.elim fun _ h => h.elim fun _ h => h.2).elim
  · exact hCX outer s H _ _ vs E e s2 (fun _ _ h => star_keeps (us := us) h) (Nat.le_refl _) hn z
  · exact hCX outer s H _ _ vs E e' s2 (fun _ _ h => star_keeps (us := us) h) (Nat.le_refl _) hn z
theorem cx0_new : CXNew CX0 := fun _ _ _ _ _ _ _ _ _ _ _ _ h => h
end
/-- such a def keeps its promise, nothing raised -/
theorem TxOf.fnStar {fa : List (Fg → Bool)} {fn : List He5.DefA} {K : Fg} {mg : Str → Option Value} {P : Program} {w : World} {base : Heap} (T : TxOf fa fn K mg) (i : Nat) {x qual : Str} {st : Stmt} {at_ : Fg → Addr} {N : List Str} {pv : Str} {m k : Nat} {sp : Sp}
    (hi : fn[i]? = some ⟨at_, x, qual, defArgs st, defBody st, defScope st, [], []⟩) (S : FnScope N [pv] (defScope st)) (hm : m ≤ sizeLine)
    (hb : ∀ (kV doc pm : Value) (an : Option Addr) (cdv ct : Value) (us : List Value), us.length ≤ m →
      bindArgs (PySem.W.fnOf x qual (defArgs st) (defBody st) (defScope st) .none kV doc pm an cdv ct) ⟨us, []⟩ = (newTuple us >>= fun t => pure [(pv, t)]))
    (hbody : ∀ (cdv : Value) (A : Around) (outer : List Env) (s : Shared) (H : Hp) (vs : List V) (Q : VK) (E : XK), Room k (A.deeper (envOfC qual (defScope st) s.heap.objs.size (at_ K) cdv)) → sp vs H Q E →
      ∃ t, PSs (cxOf CX0 P w K mg base N qual (defScope st) (at_ K) cdv A outer s H E).nox (defBody st) t ∧ t { nx := fun _ H' => Q .non H', rt := Q } (start N vs) H) :
    FnR P w K mg base CX0 (k + 1) (at_ K) (fun vs H Q E => vs.length ≤ m ∧ ∀ p, H p = none → sp [.ref p] (upd H p (.tup vs)) Q E) := by
  obtain ⟨fd, F⟩ := T.fund i hi
  have F0 : FunD K x qual (defArgs st) (defBody st) (defScope st) [] [] (at_ K) fd := F
  obtain ⟨oc, od, dV, kV, doc, pm, an, cdv, ct, osl, rfl, lk, hcd, hD, hK⟩ := F0.ex
  obtain rfl : dV = .none := hD.elim (fun h => h.2) fun h => absurd rfl h.1
  refine fn_star lk hcd S hm (hb kV doc pm an cdv ct) cx0_new fun A outer s H vs Q E hr h => ?_
  obtain ⟨t, h1, h2⟩ := hbody cdv A outer s H vs Q E hr h
  exact ⟨t, h1.nox, h2⟩
end My

/-! max of three ints. -/
namespace My
open PySem PySem.Spec PyProof.Rows L2
section
variable {X : Cx}
theorem call_max3 (hc : X.calm = true) : CallR X (.builtin "max") (fun xs H Q => ∃ i j k, xs = [.int i, .int j, .int k] ∧ Q (.int (max (max i j) k)) H) := by
  intro pins s σ H xs us Q I r h
  obtain ⟨i, j, k, rfl, q⟩ := h
  cases r with
  | cons r1 r =>
    cases r with
    | cons r2 r =>
      cases r with
      | cons r3 r =>
        cases r
        obtain ⟨t1, rfl⟩ := r1
        obtain ⟨t2, rfl⟩ := r2
        obtain ⟨t3, rfl⟩ := r3
        refine max_three_ints (I.ok.hd hc) fun h' tk kk => ⟨_, H, I.kept kk, ?_, q⟩
        by_cases h1 : j > i
        · rw [if_pos h1]
          by_cases h2 : k > j
          · rw [if_pos h2]
            exact ⟨t3, by rw [show max (max i j) k = k by omega]⟩
          · rw [if_neg h2]
            exact ⟨t2, by rw [show max (max i j) k = j by omega]⟩
        · rw [if_neg h1]
          by_cases h2 : k > i
          · rw [if_pos h2]
            exact ⟨t3, by rw [show max (max i j) k = k by omega]⟩
          · rw [if_neg h2]
            exact ⟨t1, by rw [show max (max i j) k = i by omega]⟩
end
end My

/-! values of any kind: what stands in the heap, told by data. -/
namespace My
open PySem PySem.Spec PyProof.Rows L2
mutual
/-- v stands in H as d tells -/
inductive DV (H : Hp) : V → PyData → Prop
  | non : DV H .non .none
  | bl (b : Bool) : DV H (.bl b) (.bool b)
  | int (i : Int) : DV H (.int i) (.int i)
  | str (x : Str) : DV H (.str x) (.str x)
  | lst {a : Addr} {xs : List V} {ds : List PyData} : H a = some (.lst xs) → DVs H xs ds → DV H (.ref a) (.list ds)
  | tup {a : Addr} {xs : List V} {ds : List PyData} : H a = some (.tup xs) → DVs H xs ds → DV H (.ref a) (.tuple ds)
  | dct {a : Addr} {kvs : List (Key × V)} {ds : List (PyData × PyData)} : H a = some (.dK kvs) → DVk H kvs ds → DV H (.ref a) (.dict ds)
inductive DVs (H : Hp) : List V → List PyData → Prop
  | nil : DVs H [] []
  | cons {v : V} {vs : List V} {d : PyData} {ds : List PyData} : DV H v d → DVs H vs ds → DVs H (v :: vs) (d :: ds)
inductive DVk (H : Hp) : List (Key × V) → List (PyData × PyData) → Prop
  | nil : DVk H [] []
  | cons {k : Key} {v : V} {vs : List (Key × V)} {d : PyData} {ds : List (PyData × PyData)} : DV H v d → DVk H vs ds → DVk H ((k, v) :: vs) ((kD k, d) :: ds)
end
section
variable {K : Fg} {H H' : Hp}
mutual
theorem DV.same (s : Same H H') : ∀ {v : V} {d : PyData}, DV H v d → DV H' v d
  | _, _, .non => .non
  | _, _, .bl b => .bl b
  | _, _, .int i => .int i
  | _, _, .str x => .str x
  | _, _, .lst h hs => .lst (s _ _ h) (DVs.same s hs)
  | _, _, .tup h hs => .tup (s _ _ h) (DVs.same s hs)
  | _, _, .dct h hs => .dct (s _ _ h) (DVk.same s hs)
theorem DVs.same (s : Same H H') : ∀ {vs : List V} {ds : List PyData}, DVs H vs ds → DVs H' vs ds
  | _, _, .nil => .nil
  | _, _, .cons h hs => .cons (DV.same s h) (DVs.same s hs)
theorem DVk.same (s : Same H H') : ∀ {vs : List (Key × V)} {ds : List (PyData × PyData)}, DVk H vs ds → DVk H' vs ds
  | _, _, .nil => .nil
  | _, _, .cons h hs => .cons (DV.same s h) (DVk.same s hs)
end
mutual
theorem DV.shw : ∀ {v : V} {d : PyData}, DV H v d → ShwD K H v d
  | _, _, .non => .non
  | _, _, .bl b => .bl b
  | _, _, .int i => .int i
  | _, _, .str x => .str x
  | _, _, .lst h hs => .lst (SqL.of h) (DVs.shw hs)
  | _, _, .tup h hs => .tup (SqT.of h) (DVs.shw hs)
  | _, _, .dct h hs => .dct h (DVk.shw hs)
theorem DVs.shw : ∀ {vs : List V} {ds : List PyData}, DVs H vs ds → ShwDs K H vs ds
  | _, _, .nil => .nil
  | _, _, .cons h hs => .cons (DV.shw h) (DVs.shw hs)
theorem DVk.shw : ∀ {vs : List (Key × V)} {ds : List (PyData × PyData)}, DVk H vs ds → ShwKv K H vs ds
  | _, _, .nil => .nil
  | _, _, .cons h hs => .cons (DV.shw h) (DVk.shw hs)
end
/-- the name of the type -/
def tyD : PyData → String
  | .none => "NoneType"
  | .bool _ => "bool"
  | .int _ => "int"
  | .str _ => "str"
  | .list _ => "list"
  | .tuple _ => "tuple"
  | .dict _ => "dict"
theorem tyD_in : ∀ d : PyData, tyD d ∈ tys
  | .none => by simp [tyD, tys]
  | .bool _ => by simp [tyD, tys]
  | .int _ => by simp [tyD, tys]
  | .str _ => by simp [tyD, tys]
  | .list _ => by simp [tyD, tys]
  | .tuple _ => by simp [tyD, tys]
  | .dict _ => by simp [tyD, tys]
theorem DV.ty {v : V} {d : PyData} (h : DV H v d) : TyX K H v (.type (tyD d)) := by
  cases h with
  | non => exact .base .non
  | bl b => exact .base (.bl b)
  | int i => exact .base (.int i)
  | str x => exact .base (.str x)
  | lst h _ => exact .base (.lst h)
  | tup h _ => exact .base (.tup h)
  | dct h _ => exact .base (.dK h)
theorem DV.ni {v : V} {d : PyData} (h : DV H v d) (n : tyD d ≠ "int") : NotInt K H v := ⟨_, tyD_in d, n, h.ty⟩
theorem DV.odd {v : V} {d : PyData} (h : DV H v d) : Odd K H v := ⟨_, tyD_in d, h.ty⟩
theorem DVs.len : ∀ {vs : List V} {ds : List PyData}, DVs H vs ds → vs.length = ds.length
  | _, _, .nil => rfl
  | _, _, .cons _ hs => congrArg (· + 1) hs.len
theorem DVs.at : ∀ {vs : List V} {ds : List PyData} {i : Nat} {v : V}, DVs H vs ds → vs[i]? = some v → ∃ d, ds[i]? = some d ∧ DV H v d
  | _, _, 0, _, .cons h _, e => ⟨_, rfl, Option.some.inj e ▸ h⟩
  | _, _, _ + 1, _, .cons _ hs, e => hs.at e
  | _, _, _, _, .nil, e => nomatch e
theorem DVs.ints {is : List Int} : DVs H (is.map V.int) (is.map PyData.int) := by
  induction is with
  | nil => exact .nil
  | cons i is ih => exact .cons (.int i) ih
/-- is the data an int -/
def isI : PyData → Bool
  | .int _ => true
  | _ => false
theorem DV.int_of {v : V} {d : PyData} (h : DV H v d) (z : isI d = true) : ∃ i, d = .int i ∧ v = .int i := by
  cases h with
  | int i => exact ⟨i, rfl, rfl⟩
  | _ => cases z
theorem DV.ni_of {v : V} {d : PyData} (h : DV H v d) (z : ¬ isI d = true) : NotInt K H v := h.ni (by
  cases d with
  | int i => exact absurd rfl z
  | _ => simp [tyD])
/-- what data are as a certificate: nothing, or two ints -/
def crtD : PyData → Option (Int × Int)
  | .tuple [.int a, .int b] => some (a, b)
  | _ => none
/-- a tuple of some length, or no tuple -/
def tupD : PyData → Option (List PyData)
  | .tuple ds => some ds
  | _ => none
theorem tupD_some {d : PyData} {ds : List PyData} (h : tupD d = some ds) : d = .tuple ds := by
  cases d with
  | tuple xs => exact congrArg PyData.tuple (Option.some.inj h)
  | _ => cases h
theorem tupD_none {d : PyData} (h : tupD d = none) : tyD d ≠ "tuple" := by
  cases d with
  | tuple xs => cases h
  | _ => simp [tyD]
theorem DV.tup_of {v : V} {ds : List PyData} (h : DV H v (.tuple ds)) : ∃ (a : Addr) (xs : List V), v = .ref a ∧ H a = some (.tup xs) ∧ DVs H xs ds := by
  cases h with
  | tup h hs => exact ⟨_, _, rfl, h, hs⟩
theorem DVs.two {xs : List V} {ds : List PyData} (h : DVs H xs ds) (l : ds.length = 2) : ∃ u v d e, xs = [u, v] ∧ ds = [d, e] ∧ DV H u d ∧ DV H v e := by
  cases h with
  | nil => cases l
  | cons h hs =>
    cases hs with
    | nil => cases l
    | cons h' hs' =>
      cases hs' with
      | nil => exact ⟨_, _, _, _, rfl, rfl, h, h'⟩
      | cons h2 hs2 => simp at l
/-- an atom: nothing stands within -/
def atomD : PyData → Bool
  | .none => true
  | .bool _ => true
  | .int _ => true
  | .str x => SeqAt.shaped (.str x)
  | _ => false
theorem atom_shape {d : PyData} (h : atomD d = true) : d.canLay0 = true ∧ d.depth ≤ 0 := by
  cases d with
  | none => exact ⟨by simp [PyData.canLay0], by simp [PyData.depth]⟩
  | bool b => exact ⟨by simp [PyData.canLay0], by simp [PyData.depth]⟩
  | int i => exact ⟨by simp [PyData.canLay0], by simp [PyData.depth]⟩
  | str x => exact ⟨SeqAt.canLay_of_shaped h, by simp [PyData.depth]⟩
  | _ => cases h
theorem DV.dp {v : V} {d : PyData} (h : DV H v d) (z : atomD d = true) : Dp K H v d := by
  cases h with
  | non => exact .non
  | bl b => exact .bl b
  | int i => exact .int i
  | str x => exact .str x
  | _ => cases z
theorem DVs.dp : ∀ {vs : List V} {ds : List PyData}, DVs H vs ds → ds.all atomD = true → DpAll K H vs ds
  | _, _, .nil, _ => .nil
  | _, _, .cons h hs, z => by
    rw [List.all_cons, Bool.and_eq_true] at z
    exact .cons (h.dp z.1) (hs.dp z.2)
theorem atoms_lay : ∀ {ds : List PyData}, ds.all atomD = true → PyData.canLayAll0 ds = true ∧ PyData.depthAll ds ≤ 1
  | [], _ => ⟨by simp [PyData.canLayAll0], by simp [PyData.depthAll]⟩
  | d :: ds, z => by
    rw [List.all_cons, Bool.and_eq_true] at z
    obtain ⟨h1, h2⟩ := atoms_lay z.2
    obtain ⟨h3, h4⟩ := atom_shape z.1
    refine ⟨by simp [PyData.canLayAll0, h1, h3], ?_⟩
    rw [PyData.depthAll]
    omega
theorem atoms_shaped {ds : List PyData} (z : ds.all atomD = true) : SeqAt.shaped (.list ds) = true := by
  obtain ⟨h1, h2⟩ := atoms_lay z
  unfold SeqAt.shaped
  rw [PyData.canLay0, h1, PyData.depth]
  exact decide_eq_true (by omega)
theorem eqv_none {ds : List PyData} : PyData.eqv (.list ds) (.list []) = ds.isEmpty := by
  cases ds <;> simp [PyData.eqv, PyData.eqvAll]
theorem int_text {i : Int} {B : Nat} (hB : B ≤ 500) (h : i.natAbs < 10 ^ B) : SeqAt.shaped (.str (toString i)) = true ∧ (reprText (toString i)).length ≤ 10 * (B + 1) + 2 := by
  have hs := PySem.PyData.shown_int i
  have f : ∀ c ∈ ((toString i : Str)).cps.toList, c < 256 := fun c hc => by
    have := sg_int_fig i c (by unfold sg; rw [hs]; exact hc)
    rcases this with rfl | h
    · decide
    · omega
  have ln := (Fit.ok hB (Fit.int h)).1
  rw [hs] at ln
  refine ⟨?_, ?_⟩
  · unfold SeqAt.shaped
    rw [PyData.canLay0, PyData.depth]
    have z : PyData.strOk (toString i : Str) = true := by
      unfold PyData.strOk
      rw [Array.all_eq_true_iff_forall_mem]
      intro c hc
      have := f c (Array.mem_toList_iff.mpr hc)
      exact decide_eq_true (by omega)
    rw [z]
    rfl
  · exact Nat.le_trans (StrLaws.reprText_len _ fun c hc => Nat.lt_trans (f c hc) (by decide)) (by omega)
theorem DV.atomH {v : V} {d : PyData} (h : DV H v d) (z : atomD d = true) : DV H' v d := by
  cases h with
  | non => exact .non
  | bl b => exact .bl b
  | int i => exact .int i
  | str x => exact .str x
  | _ => cases z
theorem DVs.atomH : ∀ {vs : List V} {ds : List PyData}, DVs H vs ds → ds.all atomD = true → DVs H' vs ds
  | _, _, .nil, _ => .nil
  | _, _, .cons h hs, z => by
    rw [List.all_cons, Bool.and_eq_true] at z
    exact .cons (h.atomH z.1) (hs.atomH z.2)
theorem DVs.snoc : ∀ {vs : List V} {ds : List PyData} {v : V} {d : PyData}, DVs H vs ds → DV H v d → DVs H (vs ++ [v]) (ds ++ [d])
  | _, _, _, _, .nil, h => .cons h .nil
  | _, _, _, _, .cons h hs, h' => .cons h (hs.snoc h')
/-! a heap without one address -/
def wo (H : Hp) (q : Addr) : Hp := fun b => if b = q then none else H b
theorem wo_at {a q : Addr} {o : HO} (h : H a = some o) (ne : a ≠ q) : wo H q a = some o := by
  unfold wo
  rw [if_neg ne, h]
theorem wo_same {q : Addr} : Same (wo H q) H := fun b u e => by
  unfold wo at e
  split at e
  · cases e
  · exact e
theorem kx_wo {p : Addr} (k : Kx p H H') : Same (wo H p) (wo H' p) := fun b u e => by
  unfold wo at e
  split at e
  · cases e
  · rename_i ne
    exact wo_at (k b u e ne) ne
theorem same_wo {p : Addr} (s : Same H H') : Same (wo H p) (wo H' p) := kx_wo (kx_same s)
/-- the values that every law takes for any ones -/
def anyD : List PyData := [.none, .bool true, .bool false, .int 0, .int 1, .int (-1), .int 7, .int (10 ^ 40), .str "", .str "0", .str "a", .str "days 1", .tuple [], .tuple [.int 0], .list [], .list [.int 0], .list [.int 1, .int 0], .dict [], .dict [(.int 0, .int 1)],
  .list [.bool true], .list [.none], .list [.str "0"], .tuple [.list [.int 0]], .tuple [.int 0, .int 1], .list [.list [.int 0]], .int (-(10 ^ 40)), .int (10 ^ 64), .tuple [.int 1, .int (-1)], .str "None"]
end
end My

/-! len(set(xs)), xs a list or a tuple of ints, different or not. -/
namespace My
open PySem PySem.Spec PyProof.Rows L2
theorem take_nodup_succ {ns : List Int} {i : Nat} (hi : i < ns.length) : (ns.take (i + 1)).Nodup ↔ (ns.take i).Nodup ∧ ns.getD i 0 ∉ ns.take i := by
  rw [List.take_succ, List.getElem?_eq_getElem hi, List.nodup_append]
  rw [List.getD_eq_getElem?_getD, List.getElem?_eq_getElem hi]
  constructor
  · rintro ⟨h1, _, h3⟩
    exact ⟨h1, fun z => h3 _ z _ (by simp) rfl⟩
  · rintro ⟨h1, h2⟩
    refine ⟨h1, by simp, fun a ha b hb e => ?_⟩
    have : b = ns[i] := by simpa using hb
    subst this
    subst e
    exact h2 ha
theorem range_getD {ns : List Int} : ∀ i, i ≤ ns.length → (List.range i).map (fun j => ns.getD j 0) = ns.take i
  | 0, _ => rfl
  | i + 1, h => by
    rw [List.range_succ, List.map_append, range_getD (ns := ns) i (by omega), List.take_succ, List.getElem?_eq_getElem (show i < ns.length by omega)]
    simp [List.getD_eq_getElem?_getD, List.getElem?_eq_getElem (show i < ns.length by omega)]
theorem firstMet_len {ns : List Int} : ∀ i, i ≤ ns.length → ((PyProof.Rows.firstMet (fun j => ns.getD j 0) i).length = i ↔ (ns.take i).Nodup)
  | 0, _ => by simp [PyProof.Rows.firstMet_zero]
  | i + 1, h => by
    have ih := firstMet_len (ns := ns) i (by omega)
    have le := PyProof.Rows.firstMet_length_le (fun j => ns.getD j 0) i
    have an := PyProof.Rows.firstMet_any (fun j => ns.getD j 0) i (ns.getD i 0)
    rw [range_getD (ns := ns) i (by omega)] at an
    rw [take_nodup_succ (ns := ns) (by omega), PyProof.Rows.firstMet_succ, ← ih]
    show (PyProof.Rows.step_dedup _ (ns.getD i 0)).length = _ ↔ _
    unfold PyProof.Rows.step_dedup
    rw [an]
    by_cases z : ns.getD i 0 ∈ ns.take i
    · rw [if_pos (by rw [List.any_eq_true]; exact ⟨_, z, by simp⟩)]
      constructor
      · intro e
        omega
      · rintro ⟨_, h2⟩
        exact absurd z h2
    · rw [if_neg (by rw [List.any_eq_true]; rintro ⟨x, hx, e⟩; exact z (by rw [← beq_iff_eq.mp e]; exact hx)), List.length_append, List.length_singleton]
      constructor
      · intro e
        exact ⟨by omega, z⟩
      · rintro ⟨h1, _⟩
        omega
theorem less_of_dup : ∀ {ns : List Int}, ¬ ns.Nodup → ∃ ms : List Int, ms.length + 1 = ns.length ∧ ∀ x ∈ ns, x ∈ ms
  | [], h => absurd .nil h
  | a :: t, h => by
    by_cases z : a ∈ t
    · exact ⟨t, rfl, fun x hx => (List.mem_cons.mp hx).elim (fun e => e ▸ z) id⟩
    · obtain ⟨ms, h1, h2⟩ := less_of_dup (ns := t) fun n => h (List.nodup_cons.mpr ⟨z, n⟩)
      refine ⟨a :: ms, by rw [List.length_cons, List.length_cons, h1], fun x hx => ?_⟩
      rcases List.mem_cons.mp hx with rfl | hx
      · exact List.mem_cons_self ..
      · exact List.mem_cons_of_mem _ (h2 x hx)
def tLenSetA (K : Fg) (ta : TE) : TE := fun σ H Q => ta σ H fun x H1 => ∃ (l : Addr) (ns : List Int), x = .ref l ∧ (SqL K H1 l (ns.map V.int) ∨ SqT K H1 l (ns.map V.int)) ∧ ns.length ≤ 4000 ∧ ∀ m : Nat, (m = ns.length ↔ ns.Nodup) → Q (.int (m : Nat)) H1
theorem pe_lenSetA {X : Cx} {a : Expr} {ta : TE} {p p2 q pos : Pos} (hg : Gl X "len") (hm : X.mg "len" = none) (hg2 : Gl X "set") (hm2 : X.mg "set" = none) (ha : PE X a ta) (hc : X.calm = true := by rfl)
    (na : starEach [a] X.env = (false, eval a X.env) :: starEach [] X.env := by rfl) : PE X (.Call (.Name "len" p) [.Call (.Name "set" p2) [a] [] q] [] pos) (tLenSetA X.K ta) := by
  refine ⟨fun pins s σ H Q I h => ?_⟩
  refine Call_ (ld_blt I hg hm boot_len ?_)
  refine PyProof.Rows.callWith_builtin1 (PyProof.Rows.args_cons ?_ rfl) rfl rfl
  refine Call_ (ld_blt I hg2 hm2 boot_set ?_)
  refine PyProof.Rows.callWith_type1 (PyProof.Rows.args_cons (thn (ha.run pins s σ H _ I h) fun v s1 ⟨x, H1, I1, r1, q1⟩ => PyProof.Rows.args_nil ?_) na) na rfl
  obtain ⟨l, ns, rfl, hq, hl, q1⟩ := q1
  cases r1
  rcases hq with hq | hq
  · obtain ⟨its, r, pl, hz⟩ := I1.list hq
    have hlen : its.toArray.size = ns.length := by rw [List.size_toArray, ← r.length, List.length_map]
    refine call_set_list (I1.ok.hd hc) pl.isList (by simpa using RZ.intsAre_vals r) (by rw [hlen]; unfold scanBound; omega) fun h' tk hS hk => ?_
    refine PyProof.Rows.args_nil ?_
    rw [hlen] at hS
    have fl := firstMet_len (ns := ns) ns.length (Nat.le_refl _)
    have le := PyProof.Rows.firstMet_length_le (fun j => ns.getD j 0) ns.length
    rw [List.take_length] at fl
    generalize (PyProof.Rows.firstMet (fun i => ns.getD i 0) ns.length).length = m at hS fl le
    obtain ⟨o, es, ep, t, ho, hex, hd, _, _, _, hf, hn⟩ := hS
    have I2 : Inv X pins σ H1 { s1 with heap := h', toks := tk } := I1.kept fun b o e => hk b o (Heap.lt_size e) e
    exact call_len_set ho hex hd hf (by rw [hn] <;> omega) ⟨.int m, H1, I2.tok _, ⟨_, by rw [hn]⟩, q1 m fl⟩
  · obtain ⟨its, r, pl, hz⟩ := I1.tuple hq
    refine call_set_tupI ns (I1.ok.hd hc) (show s1.heap.IsTuple l its.toArray from pl) (by simpa using RZ.intsAre_vals r) (by unfold scanBound; omega) fun h' tk c R hcn hk => ?_
    refine PyProof.Rows.args_nil ?_
    obtain ⟨o, es, ep, t, ho, hex, hd, _, nd, hmem, _, hf, hn, _⟩ := R
    have h2 : (es.toList.map keyOf).length = es.size := by simp
    have le : es.size ≤ ns.length := by
      have := nd_le (es.toList.map keyOf) ns nd fun x hx => of_decide_eq_true ((hmem x).mpr hx)
      omega
    have fl : es.size = ns.length ↔ ns.Nodup := by
      constructor
      · intro e
        refine Classical.byContradiction fun z => ?_
        obtain ⟨ms, h3, h4⟩ := less_of_dup z
        have := nd_le (es.toList.map keyOf) ms nd fun x hx => h4 x (of_decide_eq_true ((hmem x).mpr hx))
        omega
      · intro hnd
        have h1 := nd_le ns (es.toList.map keyOf) hnd fun x hx => (hmem x).mp (decide_eq_true hx)
        omega
    have I2 : Inv X pins σ H1 { s1 with heap := h', toks := tk } := I1.kept hk
    exact call_len_set ho hex hd hf (by omega) ⟨.int es.size, H1, I2.tok _, ⟨_, rfl⟩, q1 es.size fl⟩
end My

/-! periods and days of any kind. -/
namespace My
open PySem PySem.Spec PyProof.Rows L2
def intO : PyData → Int
  | .int i => i
  | _ => 0
/-- the data of a list or a tuple -/
def seqD : PyData → Option (List PyData)
  | .list ds => some ds
  | .tuple ds => some ds
  | _ => none
def inD (n : Int) : PyData → Bool
  | .int i => decide (0 ≤ i) && decide (i < n)
  | _ => false
def perD : PyData → Bool
  | .int i => decide (1 ≤ i) && decide (i ≤ 200000)
  | _ => false
def daysD (n : Int) (d : PyData) : Bool := match seqD d with
  | some ds => ds.all (inD n) && decide (ds.map intO).Nodup
  | none => false
def dueS (p d : PyData) : Option Str := if perD p = true then (if daysD (intO p) d = true then none else some "days") else some "period"
def strV : Option Str → V
  | some x => .str x
  | none => .non
/-- how many stand in a list or a tuple -/
def szD (d : PyData) : Nat := match seqD d with
  | some ds => ds.length
  | none => 0
section
variable {K : Fg} {H H' : Hp}
theorem inD_int {n : Int} {d : PyData} (h : inD n d = true) : isI d = true ∧ 0 ≤ intO d ∧ intO d < n := by
  cases d with
  | int i =>
    have := Bool.and_eq_true_iff.mp h
    exact ⟨rfl, of_decide_eq_true this.1, of_decide_eq_true this.2⟩
  | _ => cases h
theorem perD_int {d : PyData} (h : perD d = true) : isI d = true ∧ 0 < intO d ∧ intO d ≤ 200000 := by
  cases d with
  | int i =>
    have := Bool.and_eq_true_iff.mp h
    exact ⟨rfl, of_decide_eq_true this.1, of_decide_eq_true this.2⟩
  | _ => cases h
theorem perD_ni {d : PyData} (h : ¬ isI d = true) : perD d = false := by
  cases d with
  | int i => exact absurd rfl h
  | _ => rfl
theorem inD_ni {n : Int} {d : PyData} (h : ¬ isI d = true) : inD n d = false := by
  cases d with
  | int i => exact absurd rfl h
  | _ => rfl
theorem DV.int_is {v : V} {d : PyData} (h : DV H v d) (z : isI d = true) : v = .int (intO d) ∧ d = .int (intO d) := by
  obtain ⟨i, rfl, rfl⟩ := h.int_of z
  exact ⟨rfl, rfl⟩
theorem DV.seq_of {v : V} {d : PyData} {ds : List PyData} (h : DV H v d) (z : seqD d = some ds) : ∃ (a : Addr) (xs : List V), v = .ref a ∧ (H a = some (.lst xs) ∨ H a = some (.tup xs)) ∧ DVs H xs ds := by
  cases h with
  | lst h hs =>
    obtain rfl := Option.some.inj z
    exact ⟨_, _, rfl, .inl h, hs⟩
  | tup h hs =>
    obtain rfl := Option.some.inj z
    exact ⟨_, _, rfl, .inr h, hs⟩
  | _ => cases z
theorem DVs.all_in {n : Int} : ∀ {xs : List V} {ds : List PyData}, DVs H xs ds → ds.all (inD n) = true → xs = (ds.map intO).map V.int ∧ ∀ i ∈ ds.map intO, 0 ≤ i ∧ i < n
  | _, _, .nil, _ => ⟨rfl, fun i h => by cases h⟩
  | _, _, .cons (d := d) h hs, z => by
    rw [List.all_cons, Bool.and_eq_true] at z
    obtain ⟨h1, h2⟩ := hs.all_in z.2
    obtain ⟨h3, h4⟩ := inD_int z.1
    obtain ⟨h5, _⟩ := h.int_is h3
    refine ⟨by rw [h1, h5]; rfl, fun i hi => ?_⟩
    rcases List.mem_cons.mp hi with rfl | hi
    · exact h4
    · exact h2 i hi
theorem DVs.get : ∀ {xs : List V} {ds : List PyData} {i : Nat} {v : V}, DVs H xs ds → xs[i]? = some v → DV H v (ds.getD i .none)
  | _, _, 0, _, .cons h _, e => by
    rw [← Option.some.inj e]
    exact h
  | _, _, i + 1, _, .cons _ hs, e => hs.get (i := i) e
  | _, _, _, _, .nil, e => nomatch e
theorem range_getD2 {α : Type} {z : α} {ds : List α} : ∀ i, i ≤ ds.length → (List.range i).map (fun j => ds.getD j z) = ds.take i
  | 0, _ => rfl
  | i + 1, h => by
    rw [List.range_succ, List.map_append, range_getD2 (ds := ds) i (by omega), List.take_succ, List.getElem?_eq_getElem (show i < ds.length by omega)]
    simp [List.getD_eq_getElem?_getD, List.getElem?_eq_getElem (show i < ds.length by omega)]
theorem all_range {α : Type} {z : α} {ds : List α} {f : α → Bool} : ((List.range ds.length).map fun j => f (ds.getD j z)).all id = ds.all f := by
  have h := range_getD2 (z := z) (ds := ds) ds.length (Nat.le_refl _)
  rw [List.take_length] at h
  rw [show (fun j => f (ds.getD j z)) = f ∘ fun j => ds.getD j z from rfl, ← List.map_map, h, List.all_map]
  rfl
/-! xs != [] for a list of anything -/
def rNeNil (K : Fg) : R2 := fun x y H Q => ∃ (a b : Addr) (xs : List V), x = .ref a ∧ y = .ref b ∧ SqL K H a xs ∧ SqL K H b [] ∧ Q (.bl (!xs.isEmpty)) H
theorem op_neNil {X : Cx} (hu : X.A.units + 64 < cLine) : OpR X (compareOp .NotEq) (rNeNil X.K) := by
  intro pins s σ H x y v u Q I rx ry h
  obtain ⟨a, b, xs, rfl, rfl, ha, hb, q⟩ := h
  cases rx
  cases ry
  obtain ⟨its, r1, p1, _⟩ := I.list ha
  obtain ⟨its2, r2, p2, _⟩ := I.list hb
  cases r2
  have l1 : its.toArray.size = xs.length := by rw [List.size_toArray, ← r1.length]
  have hu2 : X.A.units < cLine := by omega
  cases xs with
  | nil =>
    cases r1
    exact SeqAt.RcNeAt.lists (e := fun _ => true) p1.isList p2.isList rfl hu2 (fun j h1 _ => absurd h1 (Nat.not_lt_zero _)) _ _ _ _ ⟨.bl false, H, I, rfl, q⟩
  | cons z xs => exact SeqAt.RcNeAt.lists_lengths p1.isList p2.isList (by rw [l1]; rfl) hu2 _ _ _ _ ⟨.bl true, H, I, rfl, q⟩
/-! how many keys a dict of pairs has -/
theorem putK_old {kvs : List (Key × V)} {k : Key} {v y : V} (h : valV kvs k = some y) : (putK kvs k v).length = kvs.length := by
  unfold putK
  rw [valV_any, h, if_pos (by rfl), List.length_map]
theorem merge_len {f : Int → V} : ∀ {is : List Int} {acc : List (Key × V)}, (mergeK acc (is.map fun i => ((Sum.inl i : Key), f i))).length = acc.length + is.length ↔ is.Nodup ∧ ∀ i ∈ is, valV acc (Sum.inl i) = none
  | [], acc => by
    refine ⟨fun _ => ⟨.nil, fun i h => by cases h⟩, fun _ => rfl⟩
  | a :: t, acc => by
    have ih := merge_len (f := f) (is := t) (acc := putK acc (Sum.inl a) (f a))
    have le := length_mergeK (t.map fun i => ((Sum.inl i : Key), f i)) (putK acc (Sum.inl a) (f a))
    rw [List.length_map] at le
    show (mergeK (putK acc (Sum.inl a) (f a)) (t.map fun i => ((Sum.inl i : Key), f i))).length = _ ↔ _
    rw [List.length_cons, List.nodup_cons]
    cases h : valV acc (Sum.inl a) with
    | some y =>
      rw [putK_old h] at le
      constructor
      · intro e
        omega
      · rintro ⟨_, h2⟩
        have := h2 a (List.mem_cons_self ..)
        rw [h] at this
        cases this
    | none =>
      have pl : (putK acc (Sum.inl a) (f a)).length = acc.length + 1 := by rw [putK_new _ h, List.length_append]; rfl
      rw [pl] at ih le
      rw [show acc.length + (t.length + 1) = acc.length + 1 + t.length by omega, ih]
      constructor
      · rintro ⟨h1, h2⟩
        refine ⟨⟨fun z => ?_, h1⟩, fun i hi => ?_⟩
        · have := h2 a z
          rw [valV_put, if_pos rfl] at this
          cases this
        · rcases List.mem_cons.mp hi with rfl | hi
          · exact h
          · have := h2 i hi
            rw [valV_put] at this
            split at this
            · cases this
            · exact this
      · rintro ⟨⟨h1, h2⟩, h3⟩
        refine ⟨h2, fun i hi => ?_⟩
        rw [valV_put, if_neg fun e => h1 (by rw [← Sum.inl.inj e]; exact hi)]
        exact h3 i (List.mem_cons_of_mem _ hi)
theorem merge_nodup {f : Int → V} {is : List Int} : (mergeK [] (is.map fun i => ((Sum.inl i : Key), f i))).length = is.length ↔ is.Nodup := by
  have h := merge_len (f := f) (is := is) (acc := [])
  rw [List.length_nil, Nat.zero_add] at h
  exact h.trans ⟨fun z => z.1, fun z => ⟨z, fun i _ => rfl⟩⟩
/-! pairs of a key and a value, tuples in the heap -/
def PrAt (H : Hp) (ps : List Addr) (kvs : List (Key × V)) : Prop := Paired (fun p kv => H p = some (.tup [kV kv.1, kv.2])) ps kvs
theorem paired_imp {α β : Type} {F G : α → β → Prop} (f : ∀ a b, F a b → G a b) : ∀ {as : List α} {bs : List β}, Paired F as bs → Paired G as bs
  | _, _, .nil => .nil
  | _, _, .cons h t => .cons (f _ _ h) (paired_imp f t)
theorem PrAt.same {ps : List Addr} {kvs : List (Key × V)} (s : Same H H') (h : PrAt H ps kvs) : PrAt H' ps kvs := paired_imp (fun _ _ e => s _ _ e) h
theorem PrAt.upd {ps : List Addr} {kvs : List (Key × V)} {D : Addr} {xs : List V} {o : HO} (hD : H D = some (.lst xs)) (h : PrAt H ps kvs) : PrAt (L2.upd H D o) ps kvs := paired_imp (fun p _ e => by
  rw [upd_ne fun z : p = D => by rw [z, hD] at e; cases e]
  exact e) h
theorem PrAt.sq {ps : List Addr} {kvs : List (Key × V)} (h : PrAt H ps kvs) : Paired (fun p kv => SqT K H p [kV kv.1, kv.2]) ps kvs := paired_imp (fun _ _ e => SqT.of e) h
/-! small dicts of days -/
def KVg (kvs : List (Key × V)) : Prop := ∀ kv ∈ kvs, ∃ i : Int, i.natAbs ≤ 100 ∧ kv = ((Sum.inl i : Key), V.int 1)
theorem KVg.put {kvs : List (Key × V)} {i : Int} (h : KVg kvs) (hi : i.natAbs ≤ 100) : KVg (putK kvs (Sum.inl i) (.int 1)) := by
  unfold putK
  split
  · intro kv hk
    obtain ⟨kv', h1, rfl⟩ := List.mem_map.mp hk
    obtain ⟨j, hj, rfl⟩ := h kv' h1
    dsimp only
    split
    · exact ⟨j, hj, rfl⟩
    · exact ⟨j, hj, rfl⟩
  · intro kv hk
    rcases List.mem_append.mp hk with hk | hk
    · exact h kv hk
    · exact ⟨i, hi, List.mem_singleton.mp hk⟩
theorem KVg.merge : ∀ {is : List Int} {acc : List (Key × V)}, KVg acc → (∀ i ∈ is, i.natAbs ≤ 100) → KVg (mergeK acc (is.map fun i => ((Sum.inl i : Key), V.int 1)))
  | [], _, h, _ => h
  | a :: t, _, h, hi => KVg.merge (is := t) (h.put (hi a (List.mem_cons_self ..))) fun i hi' => hi i (List.mem_cons_of_mem _ hi')
theorem KVg.dvk : ∀ {kvs : List (Key × V)}, KVg kvs → ∃ (ds : List (PyData × PyData)) (n : Nat), DVk H kvs ds ∧ FitKv 200 ds n 0 ∧ n ≤ kvs.length * 406
  | [], _ => ⟨[], 0, .nil, .nil, by simp⟩
  | kv :: kvs, h => by
    obtain ⟨i, hi, rfl⟩ := h kv (List.mem_cons_self ..)
    obtain ⟨ds, n, h1, h2, h3⟩ := KVg.dvk (kvs := kvs) fun kv' hk => h kv' (List.mem_cons_of_mem _ hk)
    exact ⟨_, _, .cons (.int 1) h1, .cons (.of (.int (Nat.lt_of_le_of_lt hi (by decide)))) (Nat.le_refl _) (.of (.int (by decide))) (Nat.le_refl _) h2, by rw [List.length_cons]; omega⟩
end
end My

/-! pieces of any kind. -/
namespace My
open PySem PySem.Spec PyProof.Rows L2
def isS : PyData → Bool
  | .str _ => true
  | _ => false
def pieceD : PyData → Option Pc
  | .tuple [.int f, .int l, .str w, .int n] => if 0 ≤ f ∧ 0 ≤ l ∧ (w = "by" ∨ w = "to") then some ⟨f.toNat, l.toNat, decide (w = "to"), n⟩ else none
  | _ => none
/-- is it a piece that begins at s, of a period n -/
def isPc (s n : Nat) (d : PyData) : Bool := match pieceD d with
  | some c => decide (c.fst = s) && decide (s ≤ c.last) && decide (c.last < n)
  | none => false
theorem isPc_some {s n : Nat} {d : PyData} (h : isPc s n d = true) : ∃ (c : Pc) (w : Str), pieceD d = some c ∧ c.fst = s ∧ s ≤ c.last ∧ c.last < n ∧ w = (if c.to = true then ("to" : Str) else ("by" : Str)) ∧ d = .tuple [.int (c.fst : Int), .int (c.last : Int), .str w, .int c.num] := by
  unfold isPc at h
  split at h
  · rename_i c hc
    rw [Bool.and_eq_true, Bool.and_eq_true] at h
    obtain ⟨⟨h1, h2⟩, h3⟩ := h
    refine ⟨c, _, hc, of_decide_eq_true h1, of_decide_eq_true h2, of_decide_eq_true h3, rfl, ?_⟩
    unfold pieceD at hc
    split at hc
    · rename_i f l w m
      split at hc
      · rename_i hw
        obtain ⟨w1, w2, w3⟩ := hw
        obtain rfl := Option.some.inj hc
        show PyData.tuple [.int f, .int l, .str w, .int m] = PyData.tuple [.int ((f.toNat : Nat) : Int), .int ((l.toNat : Nat) : Int), .str (if decide (w = "to") = true then ("to" : Str) else ("by" : Str)), .int m]
        rw [Int.toNat_of_nonneg w1, Int.toNat_of_nonneg w2]
        rcases w3 with rfl | rfl
        · rfl
        · rfl
      · cases hc
    · cases hc
  · cases h
theorem isPc_tup {s n : Nat} {f l m : Int} {w : Str} : isPc s n (.tuple [.int f, .int l, .str w, .int m]) = (decide (f = (s : Int)) && (decide ((s : Int) ≤ l) && (decide (l < (n : Int)) && decide (w = "by" ∨ w = "to")))) := by
  unfold isPc pieceD
  dsimp only
  by_cases c : 0 ≤ f ∧ 0 ≤ l ∧ (w = "by" ∨ w = "to")
  · rw [if_pos c]
    dsimp only
    rw [decide_eq_true c.2.2, Bool.and_true]
    have e1 : decide (f.toNat = s) = decide (f = (s : Int)) := decide_eq_decide.mpr (by omega)
    have e2 : decide (s ≤ l.toNat) = decide ((s : Int) ≤ l) := decide_eq_decide.mpr (by omega)
    have e3 : decide (l.toNat < n) = decide (l < (n : Int)) := decide_eq_decide.mpr (by omega)
    rw [e1, e2, e3, Bool.and_assoc]
  · rw [if_neg c]
    dsimp only
    symm
    by_cases c1 : f = (s : Int)
    · by_cases c2 : (s : Int) ≤ l
      · have c3 : ¬ (w = "by" ∨ w = "to") := fun z => c ⟨by omega, by omega, z⟩
        rw [decide_eq_false c3, Bool.and_false, Bool.and_false, Bool.and_false]
      · rw [decide_eq_false c2, Bool.false_and, Bool.and_false]
    · rw [decide_eq_false c1, Bool.false_and]
/-- do they cover the days from i on -/
def okP (n : Nat) : List PyData → Nat → Bool
  | [], i => decide (i = n)
  | d :: ds, i => isPc i n d && match pieceD d with
    | some c => okP n ds (c.last + 1)
    | none => false
def pcs (ds : List PyData) : List Pc := ds.filterMap pieceD
theorem okP_cov {n : Nat} : ∀ {ds : List PyData} {i : Nat}, okP n ds i = true → Cov (pcs ds) i n ∧ ∀ d ∈ ds, ∃ (c : Pc) (w : Str), pieceD d = some c ∧ w = (if c.to = true then ("to" : Str) else ("by" : Str)) ∧ d = .tuple [.int (c.fst : Int), .int (c.last : Int), .str w, .int c.num]
  | [], i, h => ⟨(of_decide_eq_true h : i = n), fun d hd => by cases hd⟩
  | d :: ds, i, h => by
    obtain ⟨h1, h2⟩ := Bool.and_eq_true_iff.mp h
    obtain ⟨c, w, e1, e2, e3, e4, e5, e6⟩ := isPc_some h1
    rw [e1] at h2
    obtain ⟨h3, h4⟩ := okP_cov h2
    refine ⟨?_, fun d' hd => ?_⟩
    · unfold pcs
      rw [List.filterMap_cons_some e1]
      exact ⟨e2, e3, e4, h3⟩
    · rcases List.mem_cons.mp hd with rfl | hd
      · exact ⟨c, w, e1, e5, e6⟩
      · exact h4 d' hd
theorem okP_step {n i : Nat} {d : PyData} {ds : List PyData} {c : Pc} (h : isPc i n d = true) (hc : pieceD d = some c) : okP n (d :: ds) i = okP n ds (c.last + 1) := by
  show (isPc i n d && _) = _
  rw [h, Bool.true_and, hc]
theorem okP_bad {n i : Nat} {d : PyData} {ds : List PyData} (h : isPc i n d = false) : okP n (d :: ds) i = false := by
  show (isPc i n d && _) = _
  rw [h, Bool.false_and]
/-- a period and pieces -/
def okD (n : Nat) (d : PyData) : Bool := match seqD d with
  | some ds => okP n ds 0
  | none => false
theorem okD_some {n : Nat} {d : PyData} {ds : List PyData} (h : seqD d = some ds) : okD n d = okP n ds 0 := by
  unfold okD
  rw [h]
theorem okD_none {n : Nat} {d : PyData} (h : seqD d = none) : okD n d = false := by
  unfold okD
  rw [h]
def okF (p d : PyData) : Bool := perD p && okD (intO p).toNat d
def wordP (p : PyData) : Str := if perD p = true then "pieces" else "period"
theorem drop_getD {ds : List PyData} {i : Nat} (hi : i < ds.length) : ds.drop i = ds.getD i .none :: ds.drop (i + 1) := by
  rw [List.drop_eq_getElem_cons hi, List.getD_eq_getElem?_getD, List.getElem?_eq_getElem hi]
  rfl
theorem take_getD {ds : List PyData} {i : Nat} (hi : i < ds.length) : ds.take (i + 1) = ds.take i ++ [ds.getD i .none] := by
  rw [List.take_succ, List.getElem?_eq_getElem hi, List.getD_eq_getElem?_getD, List.getElem?_eq_getElem hi]
  rfl
end My

/-! a if t else b, as a test. -/
namespace My
open PySem PySem.Spec PyProof.Rows L2
def tIfT (t ta tb : TT) : TT := fun σ H Q => t σ H fun c H1 => if c = true then ta σ H1 Q else tb σ H1 Q
theorem pt_if {X : Cx} {c a b : Expr} {pos : Pos} {tt ta tb : TT} (hc : PT X c tt) (ha : PT X a ta) (hb : PT X b tb) : PT X (.IfExp c a b pos) (tIfT tt ta tb) := by
  refine ⟨fun pins s σ H Q I h => ?_⟩
  refine isTrue_IfExp (wpAny_mono (hc.run pins s σ H _ I h) (fun d s1 h1 => ?_) fun _ _ x => x)
  obtain ⟨H1, I1, q1⟩ := h1
  cases d with
  | true => exact ha.run pins s1 σ H1 Q I1 q1
  | false => exact hb.run pins s1 σ H1 Q I1 q1
section
variable {H H' : Hp}
mutual
theorem DV.ext (e : LamX.ExtN H H') : ∀ {v : V} {d : PyData}, DV H v d → DV H' v d
  | _, _, .non => .non
  | _, _, .bl b => .bl b
  | _, _, .int i => .int i
  | _, _, .str x => .str x
  | _, _, .lst h hs => .lst (e _ _ h (fun _ z => by cases z)) (DVs.ext e hs)
  | _, _, .tup h hs => .tup (e _ _ h (fun _ z => by cases z)) (DVs.ext e hs)
  | _, _, .dct h hs => .dct (e _ _ h (fun _ z => by cases z)) (DVk.ext e hs)
theorem DVs.ext (e : LamX.ExtN H H') : ∀ {vs : List V} {ds : List PyData}, DVs H vs ds → DVs H' vs ds
  | _, _, .nil => .nil
  | _, _, .cons h hs => .cons (DV.ext e h) (DVs.ext e hs)
theorem DVk.ext (e : LamX.ExtN H H') : ∀ {vs : List (Key × V)} {ds : List (PyData × PyData)}, DVk H vs ds → DVk H' vs ds
  | _, _, .nil => .nil
  | _, _, .cons h hs => .cons (DV.ext e h) (DVk.ext e hs)
end
theorem ext_wo {p : Addr} (e : LamX.ExtN H H') : LamX.ExtN (wo H p) (wo H' p) := fun b o h n => by
  unfold wo at h ⊢
  split at h
  · cases h
  · rename_i ne
    rw [if_neg ne]
    exact e b o h n
end
end My

/-! try .. except (C1, C2, C3) as e: .., where what was caught is kept beyond the suite. -/
namespace My
open PySem PySem.Spec PyProof.Rows L2
theorem fly_push {B h h' : Heap} {l : List Env} {a : Addr} {Z : Obj → Prop} (k : ∀ b o, h.get? b = some o → h'.get? b = some o) (fl : HandSPX.FlyingZ B l a Z h) : HandSPX.FlyingZ B l a Z h' := by
  obtain ⟨f1, f2, f3, oe, vs, T, oT, ts, he, hz, hd, h1, hnT, hTe, hT, hdT, h3⟩ := fl
  exact ⟨fun b o z => k b o (f1 b o z), f2, f3.of_keeps fun b o hb _ => ⟨o, k b o hb, rfl⟩, oe, vs, T, oT, ts, k _ _ he, hz, hd, h1, hnT, hTe, k _ _ hT, hdT, h3⟩
/-- what the clause wishes of an exception of the body: as wKp, of three classes -/
def wKp3 (K : PySem.W.Frag) (cs : List Value) (i : Nat) (ts : Addr → Value → Option Addr → TS) (Wo : WX) (D : Ends) : WX := fun cls d σ H =>
  ∃ b, PySem.W.exmAny K cls cs = some b ∧ (b = false → Wo cls d σ H) ∧ (b = true → ∀ a, H a = none → ts a cls d
    { nx := fun τ G => D.nx (τ.set i none) (upd G a (ExK cls d a)), rt := fun v G => D.rt v (upd G a (ExK cls d a)), bk := fun τ G => D.bk (τ.set i none) (upd G a (ExK cls d a)), ct := fun τ G => D.ct (τ.set i none) (upd G a (ExK cls d a)) } (σ.set i (some (.ref a))) H)
theorem exm_any3 {K : PySem.W.Frag} {cls c1 c2 c3 : Value} {b1 b2 b3 : Bool} (h1 : PySem.W.exmOne K cls c1 = some b1) (h2 : PySem.W.exmOne K cls c2 = some b2) (h3 : PySem.W.exmOne K cls c3 = some b3) : PySem.W.exmAny K cls [c1, c2, c3] = some (b1 || (b2 || (b3 || false))) := by
  simp only [PySem.W.exmAny, h1, h2, h3]
section
variable {X : Cx} {x1 x2 x3 n : Str} {c1 c2 c3 : Value} {i kk : Nat} {body rest : List Stmt} {st : Stmt} {np1 np2 np3 tp pos pq : Pos} {tb : WX → TS} {ts : Addr → Value → Option Addr → TS} {Wo : WX} {pins : List (Addr × Obj)} {D : Ends}
/-- the exception of the body meets the clause -/
theorem kept_clause3 {σ : L2.St} {H : Hp} {sI t : Shared} {a : Addr} {B : Heap} {cls : Value} {d : Option Addr}
    (hs : X.stack = X.env :: X.outer) (hf : X.env.frame = some X.env.locals) (hx : X.ex = []) (hN : X.N.Nodup) (hi : X.N[i]? = some n) (hln : X.env.kindOf n = some .local) (hc1 : Names X x1 c1) (hc2 : Names X x2 c2) (hc3 : Names X x3 c3) (tk : Takes X Wo)
    (hsu : ∀ (a : Addr) (oe : Obj) (cls : Value) (d : Option Addr) (pn : List (Addr × Obj)), Zc cls d oe → (∃ fv, oe.data = .fields fv) → PSs (X.suite a ((a, oe) :: pn)) (st :: rest) (ts a cls d))
    (J : Inv X pins σ H sI) (nb : ∀ b o, sI.heap.get? b = some o → b ∉ frs X.stack → B.get? b = some o) (up : sI.heap.UpToSlots t.heap) (fl : HandSPX.FlyingZ B (X.env :: X.outer) a (Zc cls d) t.heap) (na : H a = none) (os : t.os = sI.os) (ag : AllBare t.gens)
    (hw : wKp3 X.K [c1, c2, c3] i ts Wo D cls d σ H) :
    wpAny (model X.prog X.w) X.A (handleBy (.ref a) X.env [.ExceptHandler (some (.Tuple [.Name x1 np1, .Name x2 np2, .Name x3 np3] kk tp)) (some n) (st :: rest) pq]) (SP X pins D) X.xe t := by
  have ok := J.ok
  have J1 : Inv X pins σ H t := J.landed nb fl.1 up os ag
  obtain ⟨o1, fv1, e1, z1, d1⟩ := fl.there
  have nfr : a ∉ frs (X.env :: X.outer) := fun hm => by
    obtain ⟨_, o2, e2, h2⟩ := fl.2.2.1.mem hm
    have : o1 = o2 := Option.some.inj (e1.symm.trans e2)
    exact h2 fv1 (this ▸ d1)
  have nL : a ≠ X.env.locals := fun z => nfr (List.mem_filterMap.mpr ⟨X.env, .head _, hf.trans (congrArg some z.symm)⟩)
  have nF : a ∉ X.fs := fun hm => by
    obtain ⟨en, h1, h2⟩ := List.mem_filterMap.mp hm
    exact nfr (List.mem_filterMap.mpr ⟨en, .tail _ h1, h2⟩)
  obtain ⟨n0, npn⟩ := caught_new J hx nb fl.2.1 (hs ▸ nfr)
  have S1 := J1.suite e1 d1 na nL nF
  obtain ⟨b, hb, hno, hyes⟩ := hw
  refine wpAny_handleBy_cons (codeAny_handlers_test ?_) (fun q => nomatch q)
  have look : ∀ {x : Str} {c : Value} {np : Pos} {Q : Value → Shared → Prop} {E : Value → Shared → Prop}, Names X x c → Q c t → wpAny (model X.prog X.w) (X.A.mark (some (.ref a))) (eval (.Name x np) X.env) Q E t := fun {x c np Q E} hc q =>
    match hc with
    | ⟨hg, hdb, .inl h⟩ => ld_glob (X := X.suite a ((a, o1) :: (X.pn ++ pins))) S1 hg h q hdb
    | ⟨hg, hdb, .inr ⟨h, hv, hn⟩⟩ => ld_blt (X := X.suite a ((a, o1) :: (X.pn ++ pins))) S1 hg h hv q hn hdb
  refine wpAny_Tuple ?_
  refine wpAny_items_cons (look hc1 ?_)
  refine wpAny_items_cons (look hc2 ?_)
  refine wpAny_items_cons (look hc3 ?_)
  refine wpAny_items_nil ⟨by size_fits, ?_⟩
  have kp : ∀ b o, t.heap.get? b = some o → (t.heap.push { cls := .type "tuple", data := .seq [c1, c2, c3].toArray }).get? b = some o := fun _ _ z => Heap.get?_push_of_some _ z
  have hm := PySem.W.exm_tup3 (M := model X.prog X.w) (J1.kIn.keeps kp) (fun A Q E s k q => wpAny_typeOf_ref (k _ _ (kp _ _ e1)) (by rw [z1.1]; exact q)) (Heap.get?_push_size t.heap rfl) hb
  refine hm.here ?_
  replace up : sI.heap.UpToSlots (t.heap.push { cls := .type "tuple", data := .seq [c1, c2, c3].toArray }) := up.trans fun b o ho _ => ⟨o.slots, kp b o ho⟩
  replace fl := fly_push kp fl
  generalize t.heap.push { cls := .type "tuple", data := .seq [c1, c2, c3].toArray } = hh at up fl
  match b with
  | true =>
    refine codeAny_handlers_suite_as (HandSPX.lands_againZ fl fun h2 fl2 up2 => ?_)
    have J2 : Inv X pins σ H { t with heap := h2 } := J.landed nb fl2.1 (up.trans up2) os ag
    obtain ⟨o2, fv2, e2, z2, d2⟩ := fl2.there
    exact kept_suite hN hi hln ok (J2.suite e2 d2 na nL nF) z2 d2 n0 npn (hsu a o2 cls d _ z2 ⟨_, d2⟩) (hyes rfl a na)
  | false =>
    show wpAny _ X.A (handleBy (.ref a) X.env []) _ _ _
    refine wpAny_handleBy_nil ?_
    obtain ⟨_, _, _, o3, fv3, tb3, _, _, e3, _, d3, g3, _⟩ := id fl
    have fly : wpAny (model X.prog X.w) X.A (setFlight (.ref a) X.env.frame) (fun _ s4 => wpAny (model X.prog X.w) X.A (throw (.ref a) : Sem Flow) (SP X pins D) X.xe s4) X.xe { t with heap := hh } := by
      rw [hf]
      refine HandSPX.setFlight_upZ fl fun h2 hq up2 => wpAny_throw (tk _ _ ⟨a, B, sI, pins, σ, H, cls, d, rfl, J, nb, up.trans up2, .inr (.inr (by rw [hs]; exact hq)), na, os, ag, hno rfl⟩)
    unfold PySem.passOn
    refine wpAny_bind (wpAny_field e3 d3 g3 ?_)
    rw [if_neg (by simp : ¬ ((Value.ref tb3 == Value.none) = true))]
    first
      | exact wpAny_bind fly
      | exact wpAny_bind (wpAny_pure (wpAny_bind fly))
/-- try: body / except x as n: suite; the exception is kept -/
theorem ps_try_keep3 (hs : X.stack = X.env :: X.outer) (hf : X.env.frame = some X.env.locals) (hx : X.ex = []) (hN : X.N.Nodup) (hi : X.N[i]? = some n) (hln : X.env.kindOf n = some .local) (hc1 : Names X x1 c1) (hc2 : Names X x2 c2) (hc3 : Names X x3 c3) (tk : Takes X Wo)
    (hb : ∀ (W : WX) (pn : List (Addr × Obj)) (xe : Value → Shared → Prop), Takes (X.tr pn xe) W → PassesOwn (model X.prog X.w) X.A X.env xe → PSs (X.tr pn xe) body (tb W))
    (hsu : ∀ (a : Addr) (oe : Obj) (cls : Value) (d : Option Addr) (pn : List (Addr × Obj)), Zc cls d oe → (∃ fv, oe.data = .fields fv) → PSs (X.suite a ((a, oe) :: pn)) (st :: rest) (ts a cls d)) :
    PS X (.Try body [.ExceptHandler (some (.Tuple [.Name x1 np1, .Name x2 np2, .Name x3 np3] kk tp)) (some n) (st :: rest) pq] [] [] pos) (fun D σ H => tb (wKp3 X.K [c1, c2, c3] i ts Wo D) D σ H) := by
  refine ⟨fun pins s σ H D I h => wpAny_Try_except ?_⟩
  have ok := I.ok
  have tkB : Takes (X.tr (X.pn ++ pins) (fun e t => wpAny (model X.prog X.w) X.A (noteFrame e X.env) (fun _ t2 => wpAny (model X.prog X.w) X.A (setFlight e none)
      (fun _ t3 => wpAny (model X.prog X.w) X.A (handleBy e X.env [.ExceptHandler (some (.Tuple [.Name x1 np1, .Name x2 np2, .Name x3 np3] kk tp)) (some n) (st :: rest) pq]) (SP X pins D) X.xe t3) X.xe t2) X.xe t)) (wKp3 X.K [c1, c2, c3] i ts Wo D) := by
    rintro u t ⟨a, B, sI, pins', τ, G, cls, d, rfl, J', nb, up, sky, na, os, ag, hw⟩
    have J : Inv X pins τ G sI := J'.ofTry ok
    refine Sky.land Zc.steady (by rw [ok.frames, hs]) hf (by rw [← hs]; exact sky) fun h2 fl up2 => ?_
    exact kept_clause3 hs hf hx hN hi hln hc1 hc2 hc3 tk hsu J nb (up.trans up2) fl na os ag hw
  refine wpAny_mono ((hb _ (X.pn ++ pins) _ tkB PassesOwn.looking).run [] s σ H D (I.toTry _) h) (fun f t q => ?_) fun _ _ q => q
  match f, q with
  | .next, ⟨τ, G, J, q⟩ => exact wpAny_execs_nil ⟨τ, G, J.ofTry ok, q⟩
  | .brk, ⟨τ, G, J, q⟩ => exact ⟨τ, G, J.ofTry ok, q⟩
  | .cont, ⟨τ, G, J, q⟩ => exact ⟨τ, G, J.ofTry ok, q⟩
  | .ret u, ⟨v, τ, G, J, r, q⟩ => exact ⟨v, τ, G, J.ofTry ok, r, q⟩
end
end My

/-! xs.count(x), flat items. -/
namespace My
open PySem PySem.Spec PyProof.Rows L2
/-- how many of ys are equal to y -/
def cntV (y : V) (ys : List V) : Nat := (ys.filter fun z => eqV z y).length
def rCountL (K : PySem.W.Frag) : V → List V → Hp → VK → Prop := fun x xs H Q => ∃ (a : Addr) (ys : List V) (y : V), x = V.ref a ∧ xs = [y] ∧ SqL K H a ys ∧ flatV y = true ∧ ys.all flatV = true ∧ Q (.int (cntV y ys : Int)) H
theorem cnt_vals {y : V} : ∀ {ys : List V} {its : List Value}, Vals ys its → ys.all flatV = true → its.countP (eqU y) = cntV y ys
  | _, _, .nil, _ => rfl
  | _, _, .cons (a := z) r rs, f => by
    rw [List.all_cons, Bool.and_eq_true] at f
    have ih := cnt_vals (y := y) rs f.2
    unfold cntV at ih ⊢
    rw [List.countP_cons, ih, eqU_of r f.1, List.filter_cons]
    by_cases c : eqV z y = true
    · rw [if_pos c, if_pos c]
      rfl
    · rw [if_neg c, if_neg c]
      rfl
theorem mt_count {X : Cx} : MtR X "list.count" (rCountL X.K) := by
  intro pins s σ H x xs v us Q I rx rxs h
  obtain ⟨a, ys, y, rfl, rfl, hs, fy, fys, q⟩ := h
  cases rx
  cases rxs with
  | cons ry rt =>
    rename_i uy ut
    cases rt
    obtain ⟨its, rv, ⟨⟨cls, dd, data, sl⟩, n, ho, hc, hdn, hd⟩, hlen⟩ := I.list hs
    simp only at hc hd
    subst hc hd
    refine call_meets PySem.F.slot_list_count ⟨_, ho, rfl⟩ PySem.F.entry_list_count (PySem.F.args_list_count_2 _ _)
      (SeqAt.list_countAt a its.toArray n dd sl uy (eqU y)) ⟨ho, fun u' hu' => mem_eqAt ry fy rv fys u' (by simpa using hu'), ?_⟩
    refine ⟨.int (cntV y ys : Int), H, I.tok _, ?_, q⟩
    rw [show its.toArray.toList.countP (eqU y) = cntV y ys from cnt_vals rv fys]
    exact ⟨_, rfl⟩
/-! xs == [] for a list of anything -/
def rEqNil (K : Fg) : R2 := fun x y H Q => ∃ (a b : Addr) (xs : List V), x = .ref a ∧ y = .ref b ∧ SqL K H a xs ∧ SqL K H b [] ∧ Q (.bl xs.isEmpty) H
theorem op_eqNil {X : Cx} (hu : X.A.units + 64 < cLine) : OpR X (compareOp .Eq) (rEqNil X.K) := by
  intro pins s σ H x y v u Q I rx ry h
  obtain ⟨a, b, xs, rfl, rfl, ha, hb, q⟩ := h
  cases rx
  cases ry
  obtain ⟨its, r1, p1, _⟩ := I.list ha
  obtain ⟨its2, r2, p2, _⟩ := I.list hb
  cases r2
  have l1 : its.toArray.size = xs.length := by rw [List.size_toArray, ← r1.length]
  have hu2 : X.A.units < cLine := by omega
  cases xs with
  | nil =>
    cases r1
    exact SeqAt.RcAt.lists (e := fun _ => true) p1.isList p2.isList rfl hu2 (fun j h1 _ => absurd h1 (Nat.not_lt_zero _)) _ _ _ _ ⟨.bl true, H, I, rfl, q⟩
  | cons z xs => exact SeqAt.RcAt.lists_lengths p1.isList p2.isList (by rw [l1]; rfl) hu2 _ _ _ _ ⟨.bl false, H, I, rfl, q⟩
theorem mt_countT {fa : List (Fg → Bool)} {fn : List He5.DefA} {K : Fg} {mg : Str → Option Value} {X : Cx} (T : TxOf fa fn K mg) (hK : X.K = K := by rfl) : MtR X "list.count" (rCountL K) := by subst hK; exact mt_count
end My

/-! Cycles of months. -/
namespace My
/-- the days of the first k months -/
def pre (ls : List Nat) (k : Nat) : Nat := (ls.take k).sum
section
variable {ls : List Nat}
theorem pre_zero : pre ls 0 = 0 := rfl
theorem pre_cons {l k : Nat} : pre (l :: ls) (k + 1) = l + pre ls k := by
  unfold pre
  rw [List.take_succ_cons, List.sum_cons]
theorem pre_succ : ∀ {ls : List Nat} {k : Nat}, k < ls.length → pre ls (k + 1) = pre ls k + ls.getD k 0
  | [], _, h => absurd h (Nat.not_lt_zero _)
  | l :: ls, 0, _ => by
    rw [pre_cons, pre_zero, pre_zero]
    show l + 0 = 0 + l
    omega
  | l :: ls, k + 1, h => by
    rw [pre_cons, pre_cons, pre_succ (Nat.lt_of_succ_lt_succ h), List.getD_cons_succ, Nat.add_assoc]
theorem pre_all : pre ls ls.length = ls.sum := by
  unfold pre
  rw [List.take_length]
theorem getD_mem {k : Nat} (h : k < ls.length) : ls.getD k 0 ∈ ls := by
  rw [List.getD_eq_getElem?_getD, List.getElem?_eq_getElem h]
  exact List.getElem_mem h
theorem pre_step (pos : ∀ l ∈ ls, 0 < l) {k : Nat} (h : k < ls.length) : pre ls k < pre ls (k + 1) := by
  rw [pre_succ h]
  have := pos _ (getD_mem h)
  omega
theorem pre_lt (pos : ∀ l ∈ ls, 0 < l) {i : Nat} : ∀ {j : Nat}, i < j → j ≤ ls.length → pre ls i < pre ls j
  | 0, h, _ => absurd h (Nat.not_lt_zero _)
  | j + 1, h, hj => by
    have := pre_step pos (k := j) hj
    rcases Nat.lt_or_ge i j with c | c
    · exact Nat.lt_trans (pre_lt pos c (by omega)) this
    · obtain rfl : i = j := by omega
      exact this
theorem pre_le (pos : ∀ l ∈ ls, 0 < l) {i j : Nat} (h : i ≤ j) (hj : j ≤ ls.length) : pre ls i ≤ pre ls j := by
  rcases Nat.lt_or_ge i j with c | c
  · exact Nat.le_of_lt (pre_lt pos c hj)
  · obtain rfl : i = j := by omega
    exact Nat.le_refl _
/-- the place of the month with a day of the cycle -/
def loc : List Nat → Nat → Nat
  | [], _ => 0
  | l :: ls, d => if d < l then 0 else loc ls (d - l) + 1
theorem loc_lt : ∀ {ls : List Nat} {d : Nat}, d < ls.sum → loc ls d < ls.length
  | [], _, h => absurd h (Nat.not_lt_zero _)
  | l :: ls, d, h => by
    unfold loc
    rw [List.sum_cons] at h
    split
    · exact Nat.succ_pos _
    · exact Nat.succ_lt_succ (loc_lt (by omega))
theorem loc_lo : ∀ {ls : List Nat} {d : Nat}, pre ls (loc ls d) ≤ d
  | [], _ => Nat.zero_le _
  | l :: ls, d => by
    unfold loc
    split
    · exact Nat.zero_le _
    · rw [pre_cons]
      have := loc_lo (ls := ls) (d := d - l)
      omega
theorem loc_hi : ∀ {ls : List Nat} {d : Nat}, d < ls.sum → d < pre ls (loc ls d + 1)
  | [], _, h => absurd h (Nat.not_lt_zero _)
  | l :: ls, d, h => by
    unfold loc
    rw [List.sum_cons] at h
    rw [pre_cons]
    split
    · omega
    · have := loc_hi (ls := ls) (d := d - l) (by omega)
      omega
theorem loc_uniq (pos : ∀ l ∈ ls, 0 < l) {d k : Nat} (hk : k < ls.length) (h1 : pre ls k ≤ d) (h2 : d < pre ls (k + 1)) : k = loc ls d := by
  have hd : d < ls.sum := by
    have := pre_le pos (show k + 1 ≤ ls.length from hk) (Nat.le_refl _)
    rw [pre_all] at this
    omega
  have a := loc_lt hd
  have b := loc_lo (ls := ls) (d := d)
  have c := loc_hi hd
  rcases Nat.lt_trichotomy k (loc ls d) with z | z | z
  · have := pre_le pos (show k + 1 ≤ loc ls d from z) (Nat.le_of_lt a)
    omega
  · exact z
  · have := pre_le pos (show loc ls d + 1 ≤ k from z) (Nat.le_of_lt hk)
    omega
/-- the first day of a month, by its number -/
def ms (ls : List Nat) (m : Int) : Int := m / (ls.length : Int) * (ls.sum : Int) + (pre ls (m % (ls.length : Int)).toNat : Int)
/-- the length of a month, by its number -/
def ml (ls : List Nat) (m : Int) : Int := ((ls.getD (m % (ls.length : Int)).toNat 0 : Nat) : Int)
/-- the number of the month of a date -/
def mn (ls : List Nat) (d : Int) : Int := d / (ls.sum : Int) * (ls.length : Int) + (loc ls (d % (ls.sum : Int)).toNat : Int)
theorem idiv_at {n q r : Int} (h0 : 0 ≤ r) (h1 : r < n) : (q * n + r) / n = q ∧ (q * n + r) % n = r := by
  constructor
  · rw [Int.add_comm, Int.add_mul_ediv_right _ _ (by omega), Int.ediv_eq_zero_of_lt h0 h1, Int.zero_add]
  · rw [Int.add_comm, Int.add_mul_emod_self_right, Int.emod_eq_of_lt h0 h1]
theorem ms_at {q : Int} {k : Nat} (hk : k < ls.length) : ms ls (q * (ls.length : Int) + (k : Int)) = q * (ls.sum : Int) + (pre ls k : Int) := by
  unfold ms
  obtain ⟨e1, e2⟩ := idiv_at (n := (ls.length : Int)) (q := q) (r := (k : Int)) (by omega) (by omega)
  rw [e1, e2, Int.toNat_natCast]
theorem ml_at {q : Int} {k : Nat} (hk : k < ls.length) : ml ls (q * (ls.length : Int) + (k : Int)) = ((ls.getD k 0 : Nat) : Int) := by
  unfold ml
  obtain ⟨e1, e2⟩ := idiv_at (n := (ls.length : Int)) (q := q) (r := (k : Int)) (by omega) (by omega)
  rw [e2, Int.toNat_natCast]
theorem m_split (ne : 0 < ls.length) (m : Int) : ∃ (q : Int) (k : Nat), k < ls.length ∧ m = q * (ls.length : Int) + (k : Int) := by
  refine ⟨m / (ls.length : Int), (m % (ls.length : Int)).toNat, ?_, ?_⟩
  · have := Int.emod_lt_of_pos m (show (0 : Int) < ls.length by omega)
    have := Int.emod_nonneg m (show (ls.length : Int) ≠ 0 by omega)
    omega
  · have := Int.emod_nonneg m (show (ls.length : Int) ≠ 0 by omega)
    rw [Int.toNat_of_nonneg this]
    have := Int.mul_ediv_add_emod m (ls.length : Int)
    rw [Int.mul_comm] at this
    omega
theorem ms_succ (ne : 0 < ls.length) (m : Int) : ms ls (m + 1) = ms ls m + ml ls m := by
  obtain ⟨q, k, hk, rfl⟩ := m_split ne m
  rw [ms_at hk, ml_at hk]
  rcases Nat.lt_or_ge (k + 1) ls.length with c | c
  · rw [show q * (ls.length : Int) + (k : Int) + 1 = q * (ls.length : Int) + ((k + 1 : Nat) : Int) by omega, ms_at c, pre_succ hk]
    omega
  · have e : k + 1 = ls.length := by omega
    have h := pre_succ hk
    rw [e, pre_all] at h
    rw [show q * (ls.length : Int) + (k : Int) + 1 = (q + 1) * (ls.length : Int) + ((0 : Nat) : Int) by rw [Int.add_mul]; omega, ms_at ne, pre_zero, h, Int.add_mul]
    omega
theorem ml_pos (ne : 0 < ls.length) (pos : ∀ l ∈ ls, 0 < l) (m : Int) : 0 < ml ls m := by
  obtain ⟨q, k, hk, rfl⟩ := m_split ne m
  rw [ml_at hk]
  have := pos _ (getD_mem hk)
  omega
theorem ml_le (ne : 0 < ls.length) {B : Nat} (top : ∀ l ∈ ls, l ≤ B) (m : Int) : ml ls m ≤ (B : Int) := by
  obtain ⟨q, k, hk, rfl⟩ := m_split ne m
  rw [ml_at hk]
  have := top _ (getD_mem hk)
  omega
theorem ms_lt (ne : 0 < ls.length) (pos : ∀ l ∈ ls, 0 < l) {a b : Int} (h : a < b) : ms ls a < ms ls b := by
  have step : ∀ n : Nat, ms ls a < ms ls (a + (n : Int) + 1) := fun n => by
    induction n with
    | zero =>
      have := ml_pos ne pos a
      rw [show a + ((0 : Nat) : Int) + 1 = a + 1 by omega, ms_succ ne]
      omega
    | succ n ih =>
      have := ml_pos ne pos (a + (n : Int) + 1)
      rw [show a + ((n + 1 : Nat) : Int) + 1 = a + (n : Int) + 1 + 1 by omega, ms_succ ne]
      omega
  have := step (b - a - 1).toNat
  rw [show a + ((b - a - 1).toNat : Int) + 1 = b by omega] at this
  exact this
theorem ms_le (ne : 0 < ls.length) (pos : ∀ l ∈ ls, 0 < l) {a b : Int} (h : a ≤ b) : ms ls a ≤ ms ls b := by
  rcases Int.lt_or_eq_of_le h with c | rfl
  · exact Int.le_of_lt (ms_lt ne pos c)
  · exact Int.le_refl _
theorem ms_uniq (ne : 0 < ls.length) (pos : ∀ l ∈ ls, 0 < l) {a b d : Int} (a1 : ms ls a ≤ d) (a2 : d < ms ls (a + 1)) (b1 : ms ls b ≤ d) (b2 : d < ms ls (b + 1)) : a = b := by
  rcases Int.lt_trichotomy a b with z | z | z
  · have := ms_le ne pos (show a + 1 ≤ b by omega)
    omega
  · exact z
  · have := ms_le ne pos (show b + 1 ≤ a by omega)
    omega
theorem sum_pos (ne : 0 < ls.length) (pos : ∀ l ∈ ls, 0 < l) : 0 < ls.sum := by
  have := pre_lt pos ne (Nat.le_refl _)
  rw [pre_all, pre_zero] at this
  exact this
theorem sum_ge (pos : ∀ l ∈ ls, 0 < l) : ls.length ≤ ls.sum := by
  induction ls with
  | nil => exact Nat.le_refl _
  | cons l ls ih =>
    have h1 := pos l (List.mem_cons_self ..)
    have h2 := ih fun x hx => pos x (List.mem_cons_of_mem _ hx)
    rw [List.sum_cons, List.length_cons]
    omega
theorem sum_le {B : Nat} (top : ∀ l ∈ ls, l ≤ B) : ls.sum ≤ ls.length * B := by
  induction ls with
  | nil => simp
  | cons l ls ih =>
    have h1 := top l (List.mem_cons_self ..)
    have h2 := ih fun x hx => top x (List.mem_cons_of_mem _ hx)
    rw [List.sum_cons, List.length_cons, Nat.add_mul]
    omega
theorem d_split (s0 : 0 < ls.sum) (d : Int) : ∃ (q : Int) (r : Nat), r < ls.sum ∧ d = q * (ls.sum : Int) + (r : Int) := by
  refine ⟨d / (ls.sum : Int), (d % (ls.sum : Int)).toNat, ?_, ?_⟩
  · have := Int.emod_lt_of_pos d (show (0 : Int) < ls.sum by omega)
    have := Int.emod_nonneg d (show (ls.sum : Int) ≠ 0 by omega)
    omega
  · have := Int.emod_nonneg d (show (ls.sum : Int) ≠ 0 by omega)
    rw [Int.toNat_of_nonneg this]
    have := Int.mul_ediv_add_emod d (ls.sum : Int)
    rw [Int.mul_comm] at this
    omega
theorem mn_at {q : Int} {r : Nat} (hr : r < ls.sum) : mn ls (q * (ls.sum : Int) + (r : Int)) = q * (ls.length : Int) + (loc ls r : Int) := by
  unfold mn
  obtain ⟨e1, e2⟩ := idiv_at (n := (ls.sum : Int)) (q := q) (r := (r : Int)) (by omega) (by omega)
  rw [e1, e2, Int.toNat_natCast]
theorem mn_lo (ne : 0 < ls.length) (pos : ∀ l ∈ ls, 0 < l) (d : Int) : ms ls (mn ls d) ≤ d := by
  obtain ⟨q, r, hr, rfl⟩ := d_split (sum_pos ne pos) d
  rw [mn_at hr, ms_at (loc_lt hr)]
  have := loc_lo (ls := ls) (d := r)
  omega
theorem mn_hi (ne : 0 < ls.length) (pos : ∀ l ∈ ls, 0 < l) (d : Int) : d < ms ls (mn ls d + 1) := by
  obtain ⟨q, r, hr, rfl⟩ := d_split (sum_pos ne pos) d
  have a := loc_lt hr
  rw [ms_succ ne, mn_at hr, ms_at a, ml_at a]
  have := loc_hi hr
  rw [pre_succ a] at this
  omega
theorem mn_of (ne : 0 < ls.length) (pos : ∀ l ∈ ls, 0 < l) {m d : Int} (h1 : ms ls m ≤ d) (h2 : d < ms ls (m + 1)) : mn ls d = m :=
  ms_uniq ne pos (mn_lo ne pos d) (mn_hi ne pos d) h1 h2
theorem ms_add (ne : 0 < ls.length) (m t : Int) : ms ls (m + (ls.length : Int) * t) = ms ls m + (ls.sum : Int) * t := by
  obtain ⟨q, k, hk, rfl⟩ := m_split ne m
  rw [show q * (ls.length : Int) + (k : Int) + (ls.length : Int) * t = (q + t) * (ls.length : Int) + (k : Int) by rw [Int.add_mul, Int.mul_comm t]; omega, ms_at hk, ms_at hk, Int.add_mul, Int.mul_comm t]
  omega
theorem ml_add (ne : 0 < ls.length) (m t : Int) : ml ls (m + (ls.length : Int) * t) = ml ls m := by
  unfold ml
  rw [Int.add_mul_emod_self_left]
theorem mn_add (ne : 0 < ls.length) (pos : ∀ l ∈ ls, 0 < l) (d t : Int) : mn ls (d + (ls.sum : Int) * t) = mn ls d + (ls.length : Int) * t := by
  refine mn_of ne pos ?_ ?_
  · rw [ms_add ne]
    have := mn_lo ne pos d
    omega
  · rw [show mn ls d + (ls.length : Int) * t + 1 = mn ls d + 1 + (ls.length : Int) * t by omega, ms_add ne]
    have := mn_hi ne pos d
    omega
/-- the next day -/
theorem mn_next (ne : 0 < ls.length) (pos : ∀ l ∈ ls, 0 < l) (d : Int) : mn ls (d + 1) = if d + 1 - ms ls (mn ls d) < ml ls (mn ls d) then mn ls d else mn ls d + 1 := by
  have lo := mn_lo ne pos d
  have hi := mn_hi ne pos d
  rw [ms_succ ne] at hi
  split
  · refine mn_of ne pos (by omega) ?_
    rw [ms_succ ne]
    omega
  · refine mn_of ne pos ?_ ?_
    · rw [ms_succ ne]
      omega
    · rw [ms_succ ne, ms_succ ne]
      have := ml_pos ne pos (mn ls d + 1)
      omega
theorem mn_zero (ne : 0 < ls.length) (pos : ∀ l ∈ ls, 0 < l) : mn ls 0 = 0 ∧ ms ls 0 = 0 := by
  have e : ms ls 0 = 0 := by
    have := ms_at (ls := ls) (q := 0) ne
    rw [pre_zero] at this
    simp at this
    exact this
  refine ⟨mn_of ne pos (by omega) ?_, e⟩
  rw [ms_succ ne, e]
  have := ml_pos ne pos 0
  omega
end
end My

/-! For calendars: d.update(e), pairs in lists and tuples, len(set(pairs)), sorted of lists and tuples. -/
namespace My
open PySem PySem.Spec PyProof.Rows L2
/-! d.update(e) -/
def rUpdD : V → List V → Hp → VK → Prop := fun x xs H Q => ∃ (d o : Addr) (kvs more : List (Key × V)), x = .ref d ∧ xs = [.ref o] ∧ H d = some (.dK kvs) ∧ H o = some (.dK more) ∧ d ≠ o ∧ kvs.length + more.length ≤ sizeLine ∧ Q .non (upd H d (.dK (mergeK kvs more)))
theorem mt_updateD {X : Cx} : MtR X "dict.update" rUpdD := by
  intro pins s σ H x xs v us Q I rx rxs h
  obtain ⟨d, o, kvs, more, rfl, rfl, hd, ho, ne, hz, q⟩ := h
  cases rx
  rw [Vals.ref1 rxs]
  obtain ⟨z1, n1, vs1, r1, d1⟩ := dk_of I.hok hd
  obtain ⟨z2, n2, vs2, r2, d2⟩ := dk_of I.hok ho
  have hl : (mergeK kvs more).length ≤ sizeLine := Nat.le_trans (length_mergeK more kvs) hz
  refine call_meetsIn PySem.F.slot_dict_update d1.typeIs PySem.F.entry_dict_update (PySem.F.args_dict_update_2 _ _) (meets_dict_update (mixKind X.prog X.w) d o ne n2) ⟨vs1, vs2, d1, d2, by rw [← r1.length, ← r2.length]; exact hz, fun h' e1 e2 hs => ?_⟩
  have he : ∃ q, h'.get? d = some q := let ⟨q, _, _, hq, _⟩ := e1; ⟨q, hq⟩
  exact ⟨.non, _, d_write I (by rw [hd]; exact True.intro) hs he (dk_new hl n1 (KV.merge r2 r1) e1), rfl, q⟩
/-! a pair in a list or tuple of pairs -/
def prP (z : Int × Int) : PyData := .tuple [.int z.1, .int z.2]
theorem prP_eqv (z w : Int × Int) : PyData.eqv (prP z) (prP w) = decide (z = w) := by
  obtain ⟨a, b⟩ := z
  obtain ⟨c, d⟩ := w
  unfold prP
  by_cases h1 : a = c
  · by_cases h2 : b = d
    · subst h1 h2
      simp [PyData.eqv, PyData.eqvAll]
    · simp [PyData.eqv, PyData.eqvAll, h2]
  · simp [PyData.eqv, PyData.eqvAll, h1]
theorem prP_any (z : Int × Int) (zs : List (Int × Int)) : ((zs.map prP).any fun y => PyData.eqv y (prP z)) = decide (z ∈ zs) := by
  rw [Bool.eq_iff_iff, List.any_eq_true, decide_eq_true_iff]
  constructor
  · rintro ⟨y, hy, e⟩
    obtain ⟨x, hx, rfl⟩ := List.mem_map.mp hy
    rw [prP_eqv, decide_eq_true_iff] at e
    exact e ▸ hx
  · intro h
    exact ⟨prP z, List.mem_map_of_mem h, by rw [prP_eqv]; exact decide_eq_true rfl⟩
theorem prP_lay (z : Int × Int) : (prP z).canLay0 = true := by simp [prP, PyData.canLay0, PyData.canLayAll0]
theorem prPs_lay : ∀ zs : List (Int × Int), PyData.canLayAll0 (zs.map prP) = true
  | [] => rfl
  | z :: zs => by
    rw [List.map_cons, PyData.canLayAll0, prP_lay, prPs_lay zs]
    rfl
/-- pairs at the addresses -/
def Prs (K : Fg) (H : Hp) (ts : List Addr) (ps : List (Int × Int)) : Prop := Paired (fun t p => SqT K H t [.int p.1, .int p.2]) ts ps
theorem Prs.dp {K : Fg} {H : Hp} : ∀ {ts : List Addr} {ps : List (Int × Int)}, Prs K H ts ps → DpAll K H (ts.map V.ref) (ps.map prP)
  | _, _, .nil => .nil
  | _, _, .cons h t => .cons (Dp.tup h (.cons (.int _) (.cons (.int _) .nil))) (Prs.dp t)
theorem Prs.len {K : Fg} {H : Hp} {ts : List Addr} {ps : List (Int × Int)} (h : Prs K H ts ps) : ts.length = ps.length := Paired.length h
theorem Prs.get {K : Fg} {H : Hp} : ∀ {ts : List Addr} {ps : List (Int × Int)}, Prs K H ts ps → ∀ {i : Nat} {t : Addr} {p : Int × Int}, ts[i]? = some t → ps[i]? = some p → SqT K H t [.int p.1, .int p.2]
  | _, _, .nil, _, _, _, h, _ => by cases h
  | _, _, .cons h _, 0, _, _, e1, e2 => by
    cases e1
    cases e2
    exact h
  | _, _, .cons _ r, i + 1, _, _, e1, e2 => Prs.get r e1 e2
/-- (i, j) in xs, not in xs -/
def rInP (K : Fg) (neg : Bool) : R2 := fun x y H Q => ∃ (t a : Addr) (z : Int × Int) (ts : List Addr) (ps : List (Int × Int)), x = .ref t ∧ y = .ref a ∧ SqT K H t [.int z.1, .int z.2] ∧ (SqL K H a (ts.map V.ref) ∨ SqT K H a (ts.map V.ref)) ∧ Prs K H ts ps ∧
  Q (.bl (if neg then !decide (z ∈ ps) else decide (z ∈ ps))) H
theorem op_inP {X : Cx} (hu : X.A.units + 64 < cLine) : OpR X (compareOp .In) (rInP X.K false) := by
  intro pins s σ H x y v u Q I rx ry h
  obtain ⟨t, a, z, ts, ps, rfl, rfl, ht, ha, hp, q⟩ := h
  obtain ⟨as, r1⟩ := Dp.reads I (prP z) _ v (.tup ht (.cons (.int _) (.cons (.int _) .nil))) rx
  have hr : X.A.units + 1 + min (PyData.depthAll (ps.map prP)) (prP z).depth < cLine := by
    have : (prP z).depth = 1 := by simp [prP, PyData.depth, PyData.depthAll]
    omega
  rcases ha with ha | ha
  · obtain ⟨bs, r2⟩ := Dp.reads I (.list (ps.map prP)) _ u (.lst ha hp.dp) ry
    refine SeqAt.in_list_reads r2 r1 (prPs_lay ps) (prP_lay z) hr ⟨.bl _, H, I, rfl, ?_⟩
    rw [prP_any]
    exact q
  · obtain ⟨bs, r2⟩ := Dp.reads I (.tuple (ps.map prP)) _ u (.tup ha hp.dp) ry
    refine SeqAt.in_tuple_reads r2 r1 (prPs_lay ps) (prP_lay z) hr ⟨.bl _, H, I, rfl, ?_⟩
    rw [prP_any]
    exact q
theorem op_notInP {X : Cx} (hu : X.A.units + 64 < cLine) : OpR X (compareOp .NotIn) (rInP X.K true) := by
  intro pins s σ H x y v u Q I rx ry h
  obtain ⟨t, a, z, ts, ps, rfl, rfl, ht, ha, hp, q⟩ := h
  obtain ⟨as, r1⟩ := Dp.reads I (prP z) _ v (.tup ht (.cons (.int _) (.cons (.int _) .nil))) rx
  have hr : X.A.units + 1 + min (PyData.depthAll (ps.map prP)) (prP z).depth < cLine := by
    have : (prP z).depth = 1 := by simp [prP, PyData.depth, PyData.depthAll]
    omega
  rcases ha with ha | ha
  · obtain ⟨bs, r2⟩ := Dp.reads I (.list (ps.map prP)) _ u (.lst ha hp.dp) ry
    refine SeqAt.notIn_list_reads r2 r1 (prPs_lay ps) (prP_lay z) hr ⟨.bl _, H, I, rfl, ?_⟩
    rw [prP_any]
    exact q
  · obtain ⟨bs, r2⟩ := Dp.reads I (.tuple (ps.map prP)) _ u (.tup ha hp.dp) ry
    refine SeqAt.notIn_tuple_reads r2 r1 (prPs_lay ps) (prP_lay z) hr ⟨.bl _, H, I, rfl, ?_⟩
    rw [prP_any]
    exact q
/-! sorted(xs), xs a list or tuple of ints, of pairs -/
section
variable {P : Program} {w : World} {A : Around} {E : Value → Shared → Prop} {s : Shared}
/-- sorted of a list or tuple: its items into a new list, sorted there -/
theorem sorted_seq {l : Addr} {T : String} {o : Obj} {vs : List Value} {n : Nat} {Q : Value → Shared → Prop} (hT : T = "list" ∨ T = "tuple") (ho : s.heap.get? l = some o) (hc : o.cls = .type T) (hd : o.data = .seq vs.toArray n) (hz : vs.length < 64)
    (k : ∀ g : Heap, (∀ b u, s.heap.get? b = some u → g.get? b = some u) → ∀ (B : Around),
      wpAny (model P w) B (Builtin.«list.sort» ⟨[.ref g.objs.size], []⟩) (fun f s' => f = .done (.ret .none) ∧ Q (.ref g.objs.size) s') E { s with heap := g.push (seqObj "list" vs.toArray 0) }) :
    wpAny (model P w) A (call (.builtin "sorted") [.ref l]) Q E s := by
  refine Calls.call_function_entry kind_sorted plain_sorted entry_sorted (args_sorted1 _) ?_
  unfold Builtin.«sorted»
  refine wpAny_bind (m := checkCount "sorted" 1 1 _) (wpAny_pure ?_)
  refine wpAny_bind (wpAny_collect_seq l hT ho hc hd (fun g k1 => ?_) (by rw [List.size_toArray, sizeLine_eq]; omega))
  refine wpAny_bind (wpAny_newList ?_ (by rw [show vs.toArray.toList = vs from rfl, sizeLine_eq]; omega))
  show wpAny _ _ _ _ _ { s with heap := g.push (seqObj "list" vs.toArray 0) }
  have hoL : (g.push (seqObj "list" vs.toArray 0)).get? g.objs.size = some (seqObj "list" vs.toArray 0) := Heap.get?_push_size _ rfl
  refine wpAny_bind (wpAny_holding (wpAny_call_entry slot_list_sort ⟨_, hoL, rfl⟩ entry_list_sort (wpAny_mono (k g k1 _) (fun f s' h => ?_) fun _ _ h => h) (args_list_sort _)))
  obtain ⟨rfl, q⟩ := h
  exact ⟨_, rfl, wpAny_pure ⟨_, rfl, q⟩⟩
end
theorem sortedHeap_kept {g g' : Heap} {vs : List Value} {out : Array Value} (k : ∀ b u, g.get? b = some u → g'.get? b = some u) {b : Addr} {u : Obj} (e : g.get? b = some u) :
    (sortedHeap (g'.push (seqObj "list" vs.toArray 0)) g'.objs.size vs out).get? b = some u := by
  have hlt := Heap.lt_size (k b u e)
  rw [sortedHeap_old (Nat.ne_of_lt hlt) (by rw [size_push']; exact Nat.lt_succ_of_lt hlt)]
  exact Heap.get?_push_of_some _ (k b u e)
/-- sorted(xs) of ints -/
def rSortQ (K : Fg) : List V → Hp → VK → Prop := fun vs H Q => ∃ (a : Addr) (ns : List Int), vs = [.ref a] ∧ (SqL K H a (ns.map V.int) ∨ SqT K H a (ns.map V.int)) ∧ ns.length < 64 ∧
  ∀ (ns' : List Int) (p : Addr), ns'.Perm ns → ns'.Pairwise (· ≤ ·) → H p = none → Q (.ref p) (upd H p (.lst (ns'.map V.int)))
theorem seq_raw {X : Cx} {pins : List (Addr × Obj)} {σ : L2.St} {H : Hp} {s : Shared} {a : Addr} {xs : List V} (I : Inv X pins σ H s) (h : SqL X.K H a xs ∨ SqT X.K H a xs) :
    ∃ (T : String) (o : Obj) (vs : List Value) (n : Nat), (T = "list" ∨ T = "tuple") ∧ s.heap.get? a = some o ∧ o.cls = .type T ∧ o.data = .seq vs.toArray n ∧ Vals xs vs := by
  rcases h with h | h
  · obtain ⟨its, rv, pl, hz⟩ := I.list h
    obtain ⟨o, ho, hc, n, hd⟩ := pl.isList
    exact ⟨"list", o, its, n, .inl rfl, ho, hc, hd, rv⟩
  · obtain ⟨its, rv, pl, hz⟩ := I.tuple h
    obtain ⟨o, ho, hc, n, hd⟩ := pl
    exact ⟨"tuple", o, its, n, .inr rfl, ho, hc, hd, rv⟩
theorem none_at {s : Heap} {g : Heap} (k : ∀ b u, s.get? b = some u → g.get? b = some u) : s.get? g.objs.size = none := by
  cases q : s.get? g.objs.size with
  | none => rfl
  | some u => exact absurd (Heap.lt_size (k _ _ q)) (Nat.lt_irrefl _)
theorem vals_ints {vs : List Value} {ns : List Int} (h : IntsAre vs ns) : Vals (ns.map V.int) vs := by
  induction h with
  | nil => exact .nil
  | cons k t _ ih => exact .cons ⟨t, rfl⟩ ih
theorem cr_sortQ {X : Cx} : CallR X (.builtin "sorted") (rSortQ X.K) := by
  intro pins s σ H vs us Q I r h
  obtain ⟨a, ns, rfl, hs, hl, q⟩ := h
  rw [Vals.ref1 r]
  obtain ⟨T, o, its, n, hT, ho, hc, hd, rv⟩ := seq_raw I hs
  have il : its.length = ns.length := by rw [← rv.length, List.length_map]
  refine sorted_seq hT ho hc hd (by omega) fun g kg B => ?_
  refine list_sort_tree (Heap.get?_push_size _ rfl) rv.ints (by omega) fun out ns' h1 h2 h3 => ⟨rfl, ?_⟩
  have nn : H g.objs.size = none := (I.hok.kept kg).fresh (Nat.le_refl _)
  obtain ⟨ep, he⟩ := sortedHeap_at (h := g.push (seqObj "list" its.toArray 0)) (a := g.objs.size) (out := out) (Heap.get?_push_size _ rfl)
  exact ⟨.ref _, upd H g.objs.size (.lst (ns'.map V.int)), I.laidN (t' := s.toks) (fun b u e => sortedHeap_kept kg e) (none_at kg) nn ⟨by rw [List.length_map, h2.length_eq, sizeLine_eq]; omega, out.toList, ep, vals_ints h1, he⟩, rfl, q _ _ h2 h3 nn⟩
/-- sorted(xs) of pairs -/
def rSortPQ (K : Fg) : List V → Hp → VK → Prop := fun vs H Q => ∃ (a : Addr) (ts : List Addr) (ps : List (Int × Int)), vs = [.ref a] ∧ (SqL K H a (ts.map V.ref) ∨ SqT K H a (ts.map V.ref)) ∧ Prs K H ts ps ∧ ps.length < 64 ∧ (∀ p ∈ ps, 0 ≤ p.1 ∧ p.1 < 64 ∧ 0 ≤ p.2 ∧ p.2 < 64) ∧
  ∀ (ts' : List Addr) (f : Addr → Int × Int) (p : Addr), ps = ts.map f → ts'.Perm ts → (ts'.map f).Pairwise (fun x y => x.1 * 64 + x.2 ≤ y.1 * 64 + y.2) → H p = none → Q (.ref p) (upd H p (.lst (ts'.map V.ref)))
theorem Prs.of {K : Fg} {H : Hp} {f : Addr → Int × Int} : ∀ {ts : List Addr}, (∀ t ∈ ts, SqT K H t [.int (f t).1, .int (f t).2]) → Prs K H ts (ts.map f)
  | [], _ => .nil
  | t :: ts, h => .cons (h t (List.mem_cons_self ..)) (Prs.of fun x hx => h x (List.mem_cons_of_mem _ hx))
theorem Prs.eq {K : Fg} {H : Hp} {f : Addr → Int × Int} (hf : ∀ t p, SqT K H t [.int p.1, .int p.2] → f t = p) : ∀ {ts : List Addr} {ps : List (Int × Int)}, Prs K H ts ps → ps = ts.map f
  | _, _, .nil => rfl
  | _, _, .cons h t => by rw [List.map_cons, hf _ _ h, ← Prs.eq hf t]
theorem Prs.mem {K : Fg} {H : Hp} : ∀ {ts : List Addr} {ps : List (Int × Int)}, Prs K H ts ps → ∀ t ∈ ts, ∃ p ∈ ps, SqT K H t [.int p.1, .int p.2]
  | _, _, .nil, t, h => by cases h
  | _, _, .cons h r, t, ht => by
    rcases List.mem_cons.mp ht with rfl | ht
    · exact ⟨_, List.mem_cons_self .., h⟩
    · obtain ⟨p, hp, e⟩ := Prs.mem r t ht
      exact ⟨p, List.mem_cons_of_mem _ hp, e⟩
def twoOf : List Int → Int × Int
  | [i, j] => (i, j)
  | _ => (0, 0)
theorem cr_sortPQ {X : Cx} : CallR X (.builtin "sorted") (rSortPQ X.K) := by
  intro pins s σ H vs us Q I r h
  obtain ⟨a, ts, ps, rfl, hs, hps, hl, hb, q⟩ := h
  rw [Vals.ref1 r]
  obtain ⟨T, o, its, n, hT, ho, hc, hd, rv⟩ := seq_raw I hs
  have il : its.length = ps.length := by rw [← rv.length, List.length_map, hps.len]
  have ei : its = ts.map Value.ref := nts_of rv
  have raw : ∀ {t : Addr} {p : Int × Int}, SqT X.K H t [.int p.1, .int p.2] → TS.TupInts s.heap (.ref t) [p.1, p.2] := fun {t p} h => by
    exact tupI_raw I (show SqT X.K H t ([p.1, p.2].map V.int) from h)
  have hf : ∀ t p, SqT X.K H t [.int p.1, .int p.2] → twoOf (TS.intsOf s.heap (.ref t)) = p := fun t p h => by
    rw [(raw h).ints]
    rfl
  refine sorted_seq hT ho hc hd (by omega) fun g kg B => ?_
  have kg2 : ∀ b u, s.heap.get? b = some u → (g.push (seqObj "list" its.toArray 0)).get? b = some u := fun b u e => Heap.get?_push_of_some _ (kg b u e)
  refine TS.sort_tups (d := 2) (B := 64) (Heap.get?_push_size _ rfl) (by omega) (by decide) (fun v hv => ?_) (fun v => TS.code 64 (TS.intsOf s.heap v)) (fun v hv ns hn => ?_) fun out h1 h2 => ⟨rfl, ?_⟩
  · rw [ei] at hv
    obtain ⟨t, ht, rfl⟩ := List.mem_map.mp hv
    obtain ⟨p, hp, e⟩ := hps.mem t ht
    obtain ⟨b1, b2, b3, b4⟩ := hb p hp
    refine ⟨[p.1, p.2], (raw e).keeps fun b u e _ => kg2 b u e, rfl, fun x hx => ?_⟩
    rcases List.mem_cons.mp hx with rfl | hx
    · exact ⟨b1, b2⟩
    · rw [List.mem_singleton.mp hx]
      exact ⟨b3, b4⟩
  · rw [ei] at hv
    obtain ⟨t, ht, rfl⟩ := List.mem_map.mp hv
    obtain ⟨p, hp, e⟩ := hps.mem t ht
    have e1 := hn.ints
    have e2 := ((raw e).keeps fun b u e _ => kg2 b u e).ints
    rw [← e1, e2, (raw e).ints]
  · have nn : H g.objs.size = none := (I.hok.kept kg).fresh (Nat.le_refl _)
    obtain ⟨ep, he⟩ := sortedHeap_at (h := g.push (seqObj "list" its.toArray 0)) (a := g.objs.size) (out := out) (Heap.get?_push_size _ rfl)
    have eo : out.toList = (out.toList.map adO).map Value.ref := ref_map fun u hm => by
      have hm' := h1.mem_iff.mp hm
      rw [ei] at hm'
      obtain ⟨t, _, e⟩ := List.mem_map.mp hm'
      exact ⟨t, e.symm⟩
    have hp : (out.toList.map adO).Perm ts := by
      have p1 := h1.map adO
      rw [ei, ad_map] at p1
      exact p1
    have rvo : Vals ((out.toList.map adO).map V.ref) out.toList := by
      have z := of_nts (out.toList.map adO)
      rw [← eo] at z
      exact z
    have pe : ps = ts.map fun t => twoOf (TS.intsOf s.heap (.ref t)) := hps.eq hf
    refine ⟨.ref _, upd H g.objs.size (.lst ((out.toList.map adO).map V.ref)), I.laidN (t' := s.toks) (fun b u e => sortedHeap_kept kg e) (none_at kg) nn ⟨by rw [List.length_map, hp.length_eq, hps.len, sizeLine_eq]; omega, out.toList, ep, rvo, he⟩, rfl, q _ _ _ pe hp ?_ nn⟩
    · refine List.pairwise_map.mpr (List.pairwise_map.mpr (h2.imp_of_mem fun {x y} hx hy h => ?_))
      have hx' := h1.mem_iff.mp hx
      have hy' := h1.mem_iff.mp hy
      rw [ei] at hx' hy'
      obtain ⟨t1, ht1, rfl⟩ := List.mem_map.mp hx'
      obtain ⟨t2, ht2, rfl⟩ := List.mem_map.mp hy'
      obtain ⟨p1, _, e1⟩ := hps.mem t1 ht1
      obtain ⟨p2, _, e2⟩ := hps.mem t2 ht2
      have z1 : twoOf (TS.intsOf s.heap (.ref (adO (.ref t1)))) = p1 := hf t1 p1 e1
      have z2 : twoOf (TS.intsOf s.heap (.ref (adO (.ref t2)))) = p2 := hf t2 p2 e2
      rw [z1, z2, ← code_pair, ← code_pair]
      rw [(raw e1).ints, (raw e2).ints] at h
      exact h
/-! len(set(xs)), xs a list or tuple of different pairs -/
abbrev setO (w : World) : Obj := { cls := .type "set", dict := none, data := .set #[] 0 (.fresh 0 0 (!w.params.followText "set-order")) }
section
variable {P : Program} {w : World} {A : Around} {E : Value → Shared → Prop} {s : Shared}
theorem nd_leG {α : Type} [DecidableEq α] : ∀ (l D : List α), l.Nodup → (∀ x ∈ l, x ∈ D) → l.length ≤ D.length
  | [], _, _, _ => Nat.zero_le _
  | x :: l, D, hn, hs => by
    obtain ⟨h1, h2⟩ := List.nodup_cons.mp hn
    have hx := hs x (List.mem_cons_self ..)
    have ih := nd_leG l (D.erase x) h2 fun y hy => (List.mem_erase_of_ne fun e : y = x => h1 (by rw [← e]; exact hy)).2 (hs y (List.mem_cons_of_mem _ hy))
    have := List.length_erase_of_mem hx
    have := List.length_pos_of_mem hx
    rw [List.length_cons]
    omega
theorem got_size {ks L : List (Addr × List Int)} (nd : (ks.map (·.2)).Nodup) (g : Got ks ks.length L) : L.length = ks.length := by
  have h1 : ks.length ≤ L.length := by
    have a := nd_leG (ks.map (·.2)) (L.map (·.2)) nd fun x hx => by
      obtain ⟨p, hp, rfl⟩ := List.mem_map.mp hx
      exact g.all p (by rw [List.take_length]; exact hp)
    rw [List.length_map, List.length_map] at a
    exact a
  have h2 := g.len
  omega
/-- set(xs), xs a tuple of tuples of ints -/
theorem set_tupT {l : Addr} {its : Array Value} (ks : List (Addr × List Int)) {Q : Value → Shared → Prop} (hh : A.handled = none) (tl : s.heap.IsTuple l its) (ei : its.toList = ks.map fun p => Value.ref p.1)
    (hk : ∀ p ∈ ks, IsT P w s.heap p.2 p.1) (few : ks.length < 64) (hu : A.units + 3 < cLine)
    (fin : ∀ (g : Heap) (tk : Nat) L es ep t, SetTR P w g s.heap.objs.size L es ep t → Got ks ks.length L → (∀ b o, s.heap.get? b = some o → g.get? b = some o) → Q (.ref s.heap.objs.size) { s with heap := g, toks := tk }) :
    wpAny (model P w) A (call (.type "set") [.ref l]) Q E s := by
  have n1 : its.size = ks.length := by
    have q := congrArg List.length ei
    rwa [Array.length_toList, List.length_map] at q
  obtain ⟨c, tl0, m0⟩ := F.called_set.mro
  have m1 := F.called_set.made
  have m2 := F.called_set.sub
  refine wpAny_call (codeAny_of_tree ?_)
  show wpAny _ _ (callAny (.type "set") _) _ _ _
  refine wpAny_pure ⟨Code.quiet_builtin _ (by decide +kernel), codeAny_builtin F.entry_type_call ?_⟩
  rw [Around.under_plain (weight_type_call_type "set" [.ref l] []) rfl]
  have m3 := F.called_set.notType
  have m4 := F.called_set.canCreate
  have m5 := F.typeCall_set_1 (.ref l)
  repeat (any_goals (first | assumption | wp_step))

  refine codeAny_mono (code_set_led1 (.ref l) (E := E) (Q₁ := fun x y => x = .ref s.heap.objs.size ∧ y = { s with heap := s.heap.push (setO w) }) ⟨rfl, rfl⟩) fun r y hr => ?_
  cases r with
  | error e => exact hr
  | ok fl =>
    cases fl with
    | ret x =>
      obtain ⟨rfl, rfl⟩ := hr
      have o1 : (s.heap.push (setO w)).get? s.heap.objs.size = some (setO w) := Heap.get?_push_size _ rfl
      have o2 : Shared.TypeIs { s with heap := s.heap.push (setO w) } (.ref s.heap.objs.size) "set" := ⟨_, o1, rfl⟩
      have m6 := F.called_set.init.lookup
      have m7 := F.called_set.init.bind (.ref s.heap.objs.size)
      repeat (any_goals (first | assumption | wp_step))

      refine codeAny_mono (codeAny_call_builtin (R := wants (fun r y => r = .none ∧ ∃ g tk L es ep t, y = { s with heap := g, toks := tk } ∧ SetTR P w g s.heap.objs.size L es ep t ∧ Got ks ks.length L ∧
          (∀ b o, s.heap.get? b = some o → g.get? b = some o)) E) F.called_set.init.plain F.entry_set_init (check_set_init_1 o2 ?_)) fun r y hr => ?_
      · obtain ⟨⟨oc, od, oD, oS⟩, e0, e1, nl, e2⟩ := tl
        simp only at e1 e2
        subst e1 e2
        have e3 : (s.heap.push (setO w)).get? l = some { cls := .type "tuple", dict := od, data := .seq its nl, slots := oS } := Heap.get?_push_of_some _ e0
        have m8 := F.sub_tuple_set
        have m9 := F.sub_tuple_frozenset
        have m10 : (Value.type "tuple" == Value.type "dict") = false := by decide
        have t1 : (s.heap.push (setO w)).IsTuple l its := ⟨_, e3, rfl, nl, rfl⟩
        unfold Builtin.«set.__init__» noKeywords Builtin.Frozenset.updateFrom
        generalize hPI : pyIter = PI
        wp_walk
        subst hPI

        refine wpAny_pyIter_tuple t1 ?_
        refine wpAny_bind (wpAny_runValue ?_)
        have lS : l < s.heap.objs.size := Heap.lt_size e0
        have h3 : A.in1.in1.in1.handled = none := by simp [hh]
        have z1 : (s.heap.push (setO w)).objs.size = s.heap.objs.size + 1 := Heap.size_push ..
        have nI : l ≠ (s.heap.push (setO w)).objs.size := by
          rw [z1]; exact Nat.ne_of_lt (Nat.lt_succ_of_lt lS)
        have nS : s.heap.objs.size ∉ [(s.heap.push (setO w)).objs.size, l] := by
          rw [z1]
          intro h
          rcases List.mem_cons.mp h with h | h
          · omega
          · exact absurd (List.mem_singleton.mp h) (Nat.ne_of_gt lS)
        have val : ∀ (i : Nat) (v : Value), its[i]? = some v → ∃ p, ks[i]? = some p ∧ v = .ref p.1 := fun i v hv => by
          have q : its.toList[i]? = some v := by rw [Array.getElem?_toList]; exact hv
          rw [ei, List.getElem?_map] at q
          cases hq : ks[i]? with
          | none => rw [hq] at q; cases q
          | some p => rw [hq] at q; exact ⟨p, rfl, (Option.some.inj q).symm⟩
        have none_of : ∀ b, s.heap.objs.size ≤ b → s.heap.get? b = none := fun b hb => by
          cases q : s.heap.get? b with
          | none => rfl
          | some o => exact absurd (Heap.lt_size q) (Nat.not_lt_of_le hb)
        refine set_update_tups ((Walks.tuple h3 _ l nI its).toS) s.heap.objs.size nS ks n1 few val s.heap hk (none_of _ (Nat.le_refl _)) (fun b hb => none_of b (by
            rw [List.mem_singleton.mp hb, z1]
            exact Nat.le_succ _)) hu (its.size - 0) 0 _ (by omega) (Nat.zero_le _)
          ⟨⟨_, Heap.get?_push_size _ rfl, rfl, rfl⟩, (t1.push _)⟩ (fun b o e => Heap.get?_push_of_some _ (Heap.get?_push_of_some _ e)) ?start ?stop
        case start => exact ⟨[], #[], 0, _, setTR_fresh (Heap.get?_push_of_some _ o1), Got.zero ks⟩
        case stop =>
          intro y L es ep t hm hS g kp
          obtain ⟨hp', gn', dr', tk', os'⟩ := y
          cases (show gn' = s.gens from hm.gens)
          cases (show dr' = s.drawn from hm.drawn)
          cases (show os' = s.os from hm.os)
          show wpAny _ _ _ _ _ _
          refine wpAny_pure ?_
          show wpAny _ _ (ret Value.none) _ _ _
          rw [n1] at g
          exact wpAny_pure ⟨rfl, hp', tk', L, es, ep, t, rfl, hS, g, kp⟩
      · cases r with
        | error e => exact hr
        | ok fl =>
          cases fl with
          | ret r =>
            obtain ⟨rfl, g, tk, L, es, ep, t, rfl, hS, hg, kp⟩ := hr
            repeat (any_goals (first | assumption | wp_step))
            exact fin _ _ _ _ _ _ hS hg kp
          | _ => exact hr.elim
    | _ => exact hr.elim
end
def tLenSetP (K : Fg) (ta : TE) : TE := fun σ H Q => ta σ H fun x H1 => ∃ (l : Addr) (ts : List Addr) (ps : List (Int × Int)), x = .ref l ∧ (SqL K H1 l (ts.map V.ref) ∨ SqT K H1 l (ts.map V.ref)) ∧ Prs K H1 ts ps ∧ ps.Nodup ∧ ps.length < 64 ∧ Q (.int (ps.length : Nat)) H1
/-- the addresses with what stands there -/
def zipP (ts : List Addr) (ps : List (Int × Int)) : List (Addr × List Int) := (ts.zip ps).map fun x => (x.1, [x.2.1, x.2.2])
theorem Prs.zip1 {K : Fg} {H : Hp} : ∀ {ts : List Addr} {ps : List (Int × Int)}, Prs K H ts ps → (zipP ts ps).map (fun p => V.ref p.1) = ts.map V.ref
  | _, _, .nil => rfl
  | _, _, .cons h t => congrArg (_ :: ·) (Prs.zip1 t)
theorem Prs.zip2 {K : Fg} {H : Hp} : ∀ {ts : List Addr} {ps : List (Int × Int)}, Prs K H ts ps → (zipP ts ps).map (·.2) = ps.map fun p => [p.1, p.2]
  | _, _, .nil => rfl
  | _, _, .cons h t => congrArg (_ :: ·) (Prs.zip2 t)
theorem Prs.zipA {K : Fg} {H : Hp} : ∀ {ts : List Addr} {ps : List (Int × Int)}, Prs K H ts ps → ∀ x ∈ zipP ts ps, SqT K H x.1 (x.2.map V.int)
  | _, _, .nil, x, h => by cases h
  | _, _, .cons h t, x, hx => by
    rcases List.mem_cons.mp hx with rfl | hx
    · exact h
    · exact Prs.zipA t x hx
theorem Prs.zipL {K : Fg} {H : Hp} {ts : List Addr} {ps : List (Int × Int)} (h : Prs K H ts ps) : (zipP ts ps).length = ps.length := by
  have := congrArg List.length h.zip2
  rwa [List.length_map, List.length_map] at this
theorem pairs_nd {ps : List (Int × Int)} (h : ps.Nodup) : (ps.map fun p => [p.1, p.2]).Nodup := by
  refine List.pairwise_map.mpr (h.imp fun {a b} z e => z ?_)
  obtain ⟨a1, a2⟩ := a
  obtain ⟨b1, b2⟩ := b
  cases e
  rfl
theorem pe_lenSetP {X : Cx} {a : Expr} {ta : TE} {p p2 q pos : Pos} (hg : Gl X "len") (hm : X.mg "len" = none) (hg2 : Gl X "set") (hm2 : X.mg "set" = none) (ha : PE X a ta) (hu : X.A.units + 64 < cLine) (hc : X.calm = true := by rfl)
    (na : starEach [a] X.env = (false, eval a X.env) :: starEach [] X.env := by rfl) : PE X (.Call (.Name "len" p) [.Call (.Name "set" p2) [a] [] q] [] pos) (tLenSetP X.K ta) := by
  refine ⟨fun pins s σ H Q I h => ?_⟩
  refine Call_ (ld_blt I hg hm boot_len ?_)
  refine PyProof.Rows.callWith_builtin1 (PyProof.Rows.args_cons ?_ rfl) rfl rfl
  refine Call_ (ld_blt I hg2 hm2 boot_set ?_)
  refine PyProof.Rows.callWith_type1 (PyProof.Rows.args_cons (thn (ha.run pins s σ H _ I h) fun v s1 ⟨x, H1, I1, r1, q1⟩ => PyProof.Rows.args_nil ?_) na) na rfl
  obtain ⟨l, ts, ps, rfl, hq, hps, hnd, hl, q1⟩ := q1
  cases r1
  have nd : ((zipP ts ps).map (·.2)).Nodup := by rw [hps.zip2]; exact pairs_nd hnd
  have goal : ∀ (g : Heap) (tk : Nat) (L : List (Addr × List Int)) es ep t, SetTR X.prog X.w g s1.heap.objs.size L es ep t → Got (zipP ts ps) (zipP ts ps).length L → (∀ b o, s1.heap.get? b = some o → g.get? b = some o) →
      wpAny (model X.prog X.w) X.A (call (.builtin "len") [.ref s1.heap.objs.size]) (EP X pins σ Q) X.xe { s1 with heap := g, toks := tk } := fun g tk L es ep t R G kp => by
    obtain ⟨o, ho, hex, hd⟩ := R.ob
    have I2 : Inv X pins σ H1 { s1 with heap := g, toks := tk } := I1.kept kp
    have n1 := got_size nd G
    have n2 : es.size = L.length := by
      have h := congrArg List.length R.rows
      unfold L2.rowsOf at h
      rwa [Array.length_toList, List.length_map] at h
    have n3 := hps.zipL
    have f1 := R.tab.sz
    rw [List.length_map] at f1
    have f2 := R.room
    have hn : t.fits L.length = true := by
      simp only [SetTable.fits, SetTable.fill, f1, R.tab.dm, beq_self_eq_true, Bool.true_and, decide_eq_true_eq]
      simp
      omega
    exact call_len_set ho hex hd (by rw [n2]; exact hn) (by rw [n2]; have := R.few; omega) ⟨.int ps.length, H1, I2.tok _, ⟨_, by rw [n2, n1, n3]⟩, q1⟩
  rcases hq with hq | hq
  · obtain ⟨its, r, pl, hz⟩ := I1.list (hps.zip1 ▸ hq)
    exact call_set_tups (P := X.prog) (w := X.w) (zipP ts ps) (I1.ok.hd hc) pl.isList (by simpa using refs_of_vals r) (fun x hx => I1.isT (hps.zipA x hx)) (by rw [hps.zipL]; exact hl) (by omega) fun g tk L es ep t R G kp => PyProof.Rows.args_nil (goal g tk L es ep t R G kp)
  · obtain ⟨its, r, pl, hz⟩ := I1.tuple (hps.zip1 ▸ hq)
    exact set_tupT (P := X.prog) (w := X.w) (zipP ts ps) (I1.ok.hd hc) pl (by simpa using refs_of_vals r) (fun x hx => I1.isT (hps.zipA x hx)) (by rw [hps.zipL]; exact hl) (by omega) fun g tk L es ep t R G kp => PyProof.Rows.args_nil (goal g tk L es ep t R G kp)
section
variable {fa : List (Fg → Bool)} {fn : List He5.DefA} {K : Fg} {mg : Str → Option Value} {X : Cx}
theorem inP (T : TxOf fa fn K mg) (hu : X.A.units + 64 < cLine) (hK : X.K = K := by rfl) : OpR X (compareOp .In) (rInP K false) := by subst hK; exact op_inP hu
theorem ninP (T : TxOf fa fn K mg) (hu : X.A.units + 64 < cLine) (hK : X.K = K := by rfl) : OpR X (compareOp .NotIn) (rInP K true) := by subst hK; exact op_notInP hu
theorem srtQ_k (T : TxOf fa fn K mg) (hK : X.K = K := by rfl) : CallR X (.builtin "sorted") (rSortQ K) := by subst hK; exact cr_sortQ
theorem srtPQ_k (T : TxOf fa fn K mg) (hK : X.K = K := by rfl) : CallR X (.builtin "sorted") (rSortPQ K) := by subst hK; exact cr_sortPQ
theorem lenSetP (T : TxOf fa fn K mg) {a : Expr} {ta : TE} {p p2 q pos : Pos} (hg : Gl X "len") (hm : X.mg "len" = none) (hg2 : Gl X "set") (hm2 : X.mg "set" = none) (ha : PE X a ta) (hu : X.A.units + 64 < cLine) (hK : X.K = K := by rfl) (hc : X.calm = true := by rfl)
    (na : starEach [a] X.env = (false, eval a X.env) :: starEach [] X.env := by rfl) : PE X (.Call (.Name "len" p) [.Call (.Name "set" p2) [a] [] q] [] pos) (tLenSetP K ta) := by subst hK; exact pe_lenSetP hg hm hg2 hm2 ha hu hc na
end
end My

/-! x != y: None and None, pairs of texts. -/
namespace My
open PySem PySem.Spec PyProof.Rows L2
def rNeTS (K : Fg) : R2 := fun x y H Q => (x = .non ∧ y = .non ∧ Q (.bl false) H) ∨ ∃ (a b : Addr) (u v : Str), x = .ref a ∧ y = .ref b ∧ SqT K H a [.str u, .str v] ∧ SqT K H b [.str u, .str v] ∧ Q (.bl false) H
theorem op_neTS {X : Cx} (hu : X.A.units + 64 < cLine) : OpR X (compareOp .NotEq) (rNeTS X.K) := by
  intro pins s σ H x y v u Q I rx ry h
  rcases h with ⟨rfl, rfl, q⟩ | ⟨a, b, c, d, rfl, rfl, ha, hb, q⟩
  · exact op_neD hu pins s σ H .non .non v u Q I rx ry ⟨.none, .none, .non, .non, by decide, by decide, q⟩
  cases rx
  cases ry
  obtain ⟨its, r1, p1, _⟩ := I.tuple ha
  obtain ⟨its2, r2, p2, _⟩ := I.tuple hb
  cases r1 with
  | cons x1 r1 =>
    cases r1 with
    | cons x2 r1 =>
      cases r1
      cases r2 with
      | cons y1 r2 =>
        cases r2 with
        | cons y2 r2 =>
          cases r2
          obtain ⟨t1, rfl⟩ := x1
          obtain ⟨t2, rfl⟩ := x2
          obtain ⟨t3, rfl⟩ := y1
          obtain ⟨t4, rfl⟩ := y2
          have hu2 : X.A.units < cLine := by omega
          refine SeqAt.RcNeAt.tuples (A := X.A) (s := s) (e := fun _ => true) p1 p2 hu2 (fun j h1 h2 => ?_) _ _ _ _ ⟨.bl false, H, I, rfl, q⟩
          match j, h1 with
          | 0, _ =>
            have := SeqAt.EqAt.str_str (A := X.A.in1) (s := s) c t1 c t3
            rwa [beq_self_eq_true] at this
          | 1, _ =>
            have := SeqAt.EqAt.str_str (A := X.A.in1) (s := s) d t2 d t4
            rwa [beq_self_eq_true] at this
theorem neTS {fa : List (Fg → Bool)} {fn : List He5.DefA} {K : Fg} {mg : Str → Option Value} {X : Cx} (T : TxOf fa fn K mg) (hu : X.A.units + 64 < cLine) (hK : X.K = K := by rfl) : OpR X (compareOp .NotEq) (rNeTS K) := by subst hK; exact op_neTS hu
end My

/-! Calendars. -/
namespace My
/-- rows of equally many months -/
structure YrOk (rows : List (List Nat)) : Prop where
  ne : 0 < rows.length
  le : rows.length ≤ 400
  m0 : 0 < (rows.getD 0 []).length
  m1 : (rows.getD 0 []).length ≤ 14
  eq : ∀ r ∈ rows, r.length = (rows.getD 0 []).length
  ds : ∀ r ∈ rows, ∀ l ∈ r, 1 ≤ l ∧ l ≤ 40
theorem flat_len {m : Nat} : ∀ {rows : List (List Nat)}, (∀ r ∈ rows, r.length = m) → rows.flatten.length = rows.length * m
  | [], _ => by simp
  | r :: rows, h => by
    rw [List.flatten_cons, List.length_append, h r (List.mem_cons_self ..), flat_len fun x hx => h x (List.mem_cons_of_mem _ hx), List.length_cons, Nat.add_mul, Nat.one_mul, Nat.add_comm]
theorem flat_at {m : Nat} : ∀ {rows : List (List Nat)}, (∀ r ∈ rows, r.length = m) → ∀ {y j : Nat} {r : List Nat}, rows[y]? = some r → j < m → rows.flatten.getD (y * m + j) 0 = r.getD j 0
  | [], _, _, _, _, h, _ => by cases h
  | r0 :: rows, h, 0, j, r, e, hj => by
    cases e
    have := h _ (List.mem_cons_self ..)
    rw [List.flatten_cons, Nat.zero_mul, Nat.zero_add, List.getD_eq_getElem?_getD, List.getElem?_append_left (by omega), ← List.getD_eq_getElem?_getD]
  | r0 :: rows, h, y + 1, j, r, e, hj => by
    have := h r0 (List.mem_cons_self ..)
    have ih := flat_at (fun x hx => h x (List.mem_cons_of_mem _ hx)) (y := y) (j := j) (r := r) e hj
    rw [List.flatten_cons, List.getD_eq_getElem?_getD, List.getElem?_append_right (by rw [this, Nat.add_mul]; omega), this, show (y + 1) * m + j - m = y * m + j by rw [Nat.add_mul]; omega, ← List.getD_eq_getElem?_getD]
    exact ih
structure Cal where
  rows : List (List Nat)
  week : Nat
  first : Nat
  rest : List Int
  hol : List (Int × Int)
namespace Cal
def ls (C : Cal) : List Nat := C.rows.flatten
def mon (C : Cal) : Nat := (C.rows.getD 0 []).length
def wkd (C : Cal) (d : Int) : Int := (d + (C.first : Int)) % (C.week : Int)
def num (C : Cal) (d : Int) : Int := mn C.ls d
def yr (C : Cal) (d : Int) : Int := C.num d / (C.mon : Int)
def mth (C : Cal) (d : Int) : Int := C.num d % (C.mon : Int) + 1
def day (C : Cal) (d : Int) : Int := d - ms C.ls (C.num d) + 1
def isW (C : Cal) (d : Int) : Bool := !decide (C.wkd d ∈ C.rest) && !decide ((C.mth d, C.day d) ∈ C.hol)
def per (C : Cal) : Nat := Nat.lcm C.ls.sum C.week
/-- the work days of the first days -/
def wrkN (C : Cal) (n : Nat) : List Nat := (List.range n).filter fun i => C.isW (i : Int)
def works (C : Cal) : List Nat := if C.per ≤ 2000 then C.wrkN C.per else (C.wrkN C.per).take 1
structure Ok (C : Cal) : Prop where
  yr : YrOk C.rows
  w0 : 0 < C.week
  w1 : C.week ≤ 10
  f : C.first < C.week
  rest : ∀ x ∈ C.rest, 0 ≤ x ∧ x < (C.week : Int)
  rnd : C.rest.Nodup
  rl : C.rest.length < 64
  hol : ∀ p ∈ C.hol, 1 ≤ p.1 ∧ p.1 ≤ (C.mon : Int) ∧ 1 ≤ p.2 ∧ p.2 ≤ 40
  hnd : C.hol.Nodup
  hl : C.hol.length < 64
  per : C.per ≤ 200000
section
variable {C : Cal}
theorem Ok.len (o : C.Ok) : C.ls.length = C.rows.length * C.mon := flat_len o.yr.eq
theorem Ok.m0 (o : C.Ok) : 0 < C.mon := o.yr.m0
theorem Ok.m1 (o : C.Ok) : C.mon ≤ 14 := o.yr.m1
theorem Ok.ne (o : C.Ok) : 0 < C.ls.length := by
  rw [o.len]
  exact Nat.mul_pos o.yr.ne o.m0
theorem Ok.le (o : C.Ok) : C.ls.length ≤ 5600 := by
  rw [o.len]
  exact Nat.le_trans (Nat.mul_le_mul o.yr.le o.m1) (by decide)
theorem Ok.mem (o : C.Ok) {l : Nat} (h : l ∈ C.ls) : 1 ≤ l ∧ l ≤ 40 := by
  obtain ⟨r, hr, hl⟩ := List.mem_flatten.mp h
  exact o.yr.ds r hr l hl
theorem Ok.pos (o : C.Ok) : ∀ l ∈ C.ls, 0 < l := fun l h => (o.mem h).1
theorem Ok.top (o : C.Ok) : ∀ l ∈ C.ls, l ≤ 40 := fun l h => (o.mem h).2
theorem Ok.s0 (o : C.Ok) : 0 < C.ls.sum := sum_pos o.ne o.pos
theorem Ok.s1 (o : C.Ok) : C.ls.sum ≤ 224000 := Nat.le_trans (sum_le o.top) (by have := o.le; omega)
theorem Ok.p0 (o : C.Ok) : 0 < C.per := Nat.lcm_pos o.s0 o.w0
theorem Ok.sdiv (_ : C.Ok) : C.ls.sum ∣ C.per := Nat.dvd_lcm_left _ _
theorem Ok.wdiv (_ : C.Ok) : C.week ∣ C.per := Nat.dvd_lcm_right _ _
theorem Ok.sp (o : C.Ok) : C.ls.sum ≤ 200000 := Nat.le_trans (Nat.le_of_dvd o.p0 o.sdiv) o.per
theorem Ok.mth0 (o : C.Ok) (d : Int) : 1 ≤ C.mth d ∧ C.mth d ≤ (C.mon : Int) := by
  have h0 := o.m0
  have h1 := Int.emod_nonneg (C.num d) (show (C.mon : Int) ≠ 0 by omega)
  have h2 := Int.emod_lt_of_pos (C.num d) (show (0 : Int) < (C.mon : Int) by omega)
  unfold mth
  omega
theorem Ok.day0 (o : C.Ok) (d : Int) : 1 ≤ C.day d ∧ C.day d ≤ ml C.ls (C.num d) := by
  have h1 := mn_lo o.ne o.pos d
  have h2 := mn_hi o.ne o.pos d
  rw [ms_succ o.ne] at h2
  unfold day num
  omega
theorem Ok.wkd0 (o : C.Ok) (d : Int) : 0 ≤ C.wkd d ∧ C.wkd d < (C.week : Int) := by
  have h0 := o.w0
  exact ⟨Int.emod_nonneg _ (by omega), Int.emod_lt_of_pos _ (by omega)⟩
theorem Ok.num_add (o : C.Ok) (d t : Int) : C.num (d + (C.ls.sum : Int) * t) = C.num d + (C.ls.length : Int) * t := mn_add o.ne o.pos d t
theorem Ok.mth_add (o : C.Ok) (d t : Int) : C.mth (d + (C.ls.sum : Int) * t) = C.mth d := by
  unfold mth
  rw [o.num_add, o.len, Int.natCast_mul, Int.mul_comm (C.rows.length : Int), Int.mul_assoc, Int.add_mul_emod_self_left]
theorem Ok.yr_add (o : C.Ok) (d t : Int) : C.yr (d + (C.ls.sum : Int) * t) = C.yr d + (C.rows.length : Int) * t := by
  have h0 := o.m0
  unfold Cal.yr
  rw [o.num_add, o.len, Int.natCast_mul, Int.mul_comm (C.rows.length : Int), Int.mul_assoc, Int.add_mul_ediv_left _ _ (by omega)]
theorem Ok.day_add (o : C.Ok) (d t : Int) : C.day (d + (C.ls.sum : Int) * t) = C.day d := by
  unfold day
  rw [o.num_add, ms_add o.ne]
  omega
theorem wkd_add (d t : Int) : C.wkd (d + (C.week : Int) * t) = C.wkd d := by
  unfold wkd
  rw [show d + (C.week : Int) * t + (C.first : Int) = d + (C.first : Int) + (C.week : Int) * t by omega, Int.add_mul_emod_self_left]
theorem Ok.isW_add (o : C.Ok) (d t : Int) : C.isW (d + (C.per : Int) * t) = C.isW d := by
  obtain ⟨a, ha⟩ := o.sdiv
  obtain ⟨b, hb⟩ := o.wdiv
  unfold isW
  have e1 : d + (C.per : Int) * t = d + (C.week : Int) * ((b : Int) * t) := by rw [hb, Int.natCast_mul, Int.mul_assoc]
  have e2 : d + (C.per : Int) * t = d + (C.ls.sum : Int) * ((a : Int) * t) := by
    rw [show (C.per : Int) = ((C.ls.sum * a : Nat) : Int) by rw [← ha], Int.natCast_mul, Int.mul_assoc]
  rw [e2, o.mth_add, o.day_add, ← e2, e1, wkd_add]
theorem wrkN_succ (i : Nat) : C.wrkN (i + 1) = C.wrkN i ++ if C.isW (i : Int) = true then [i] else [] := by
  unfold wrkN
  rw [List.range_succ, List.filter_append]
  congr 1
  rw [List.filter_cons, List.filter_nil]
theorem wrkN_pre {i : Nat} : ∀ {n : Nat}, i ≤ n → ∃ r, C.wrkN n = C.wrkN i ++ r
  | 0, h => ⟨[], by rw [Nat.le_zero.mp h, List.append_nil]⟩
  | n + 1, h => by
    rcases Nat.lt_or_ge n i with c | c
    · obtain rfl : i = n + 1 := by omega
      exact ⟨[], by rw [List.append_nil]⟩
    · obtain ⟨r, hr⟩ := wrkN_pre (n := n) c
      rw [wrkN_succ, hr, List.append_assoc]
      exact ⟨_, rfl⟩
theorem works_first {i : Nat} (hi : i < C.per) (h : 2000 < C.per) (e : C.wrkN i = []) (w : C.isW (i : Int) = true) : C.works = [i] := by
  obtain ⟨r, hr⟩ := wrkN_pre (C := C) (n := C.per) (i := i + 1) hi
  unfold works
  rw [if_neg (by omega), hr, wrkN_succ, e, if_pos w]
  rfl
theorem works_end (h : 2000 < C.per → C.wrkN C.per = []) : C.works = C.wrkN C.per := by
  unfold works
  split
  · rfl
  · rw [h (by omega)]
    rfl
theorem mem_wrkN {n i : Nat} : i ∈ C.wrkN n ↔ i < n ∧ C.isW (i : Int) = true := by
  unfold wrkN
  rw [List.mem_filter, List.mem_range]
theorem wrkN_len (n : Nat) : (C.wrkN n).length ≤ n := by
  unfold wrkN
  have := List.length_filter_le (fun i : Nat => C.isW (i : Int)) (List.range n)
  rw [List.length_range] at this
  exact this
/-- the order of rest days and holidays does not matter -/
def re (C : Cal) (rs : List Int) (hs : List (Int × Int)) : Cal := ⟨C.rows, C.week, C.first, rs, hs⟩
theorem re_isW {rs : List Int} {hs : List (Int × Int)} (h1 : rs.Perm C.rest) (h2 : hs.Perm C.hol) (d : Int) : (C.re rs hs).isW d = C.isW d := by
  show (!decide (C.wkd d ∈ rs) && !decide ((C.mth d, C.day d) ∈ hs)) = _
  rw [decide_eq_decide.mpr h1.mem_iff, decide_eq_decide.mpr h2.mem_iff]
  rfl
theorem re_wrkN {rs : List Int} {hs : List (Int × Int)} (h1 : rs.Perm C.rest) (h2 : hs.Perm C.hol) (n : Nat) : (C.re rs hs).wrkN n = C.wrkN n := by
  unfold wrkN
  congr 1
  funext i
  exact re_isW h1 h2 _
theorem re_works {rs : List Int} {hs : List (Int × Int)} (h1 : rs.Perm C.rest) (h2 : hs.Perm C.hol) : (C.re rs hs).works = C.works := by
  unfold works
  rw [re_wrkN h1 h2]
  rfl
theorem Ok.re (o : C.Ok) {rs : List Int} {hs : List (Int × Int)} (h1 : rs.Perm C.rest) (h2 : hs.Perm C.hol) : (C.re rs hs).Ok where
  yr := o.yr
  w0 := o.w0
  w1 := o.w1
  f := o.f
  rest := fun x hx => o.rest x (h1.mem_iff.mp hx)
  rnd := h1.nodup_iff.mpr o.rnd
  rl := by rw [show (C.re rs hs).rest = rs from rfl, h1.length_eq]; exact o.rl
  hol := fun x hx => o.hol x (h2.mem_iff.mp hx)
  hnd := h2.nodup_iff.mpr o.hnd
  hl := by rw [show (C.re rs hs).hol = hs from rfl, h2.length_eq]; exact o.hl
  per := o.per
/-- the table of a cycle's days -/
def teY (C : Cal) (d : Nat) : Nat := loc C.ls d / C.mon
def teM (C : Cal) (d : Nat) : Nat := loc C.ls d % C.mon + 1
def teD (C : Cal) (d : Nat) : Nat := d - pre C.ls (loc C.ls d) + 1
def teL (C : Cal) (d : Nat) : Nat := C.ls.getD (loc C.ls d) 0
theorem Ok.te_at (o : C.Ok) {y m j : Nat} {r : List Nat} (hr : C.rows[y]? = some r) (hm : m < C.mon) (hj : j < r.getD m 0) :
    loc C.ls (pre C.ls (y * C.mon + m) + j) = y * C.mon + m ∧ C.teY (pre C.ls (y * C.mon + m) + j) = y ∧ C.teM (pre C.ls (y * C.mon + m) + j) = m + 1 ∧ C.teD (pre C.ls (y * C.mon + m) + j) = j + 1 ∧ C.teL (pre C.ls (y * C.mon + m) + j) = r.getD m 0 := by
  have hy : y < C.rows.length := (List.getElem?_eq_some_iff.mp hr).1
  have hk : y * C.mon + m < C.ls.length := by
    rw [o.len]
    have := Nat.mul_le_mul_right C.mon (show y + 1 ≤ C.rows.length from hy)
    rw [Nat.add_mul] at this
    omega
  have e : C.ls.getD (y * C.mon + m) 0 = r.getD m 0 := flat_at o.yr.eq hr hm
  have el : loc C.ls (pre C.ls (y * C.mon + m) + j) = y * C.mon + m := by
    refine (loc_uniq o.pos hk (by omega) ?_).symm
    rw [pre_succ hk, e]
    omega
  refine ⟨el, ?_, ?_, ?_, ?_⟩
  · unfold teY
    rw [el, Nat.mul_comm, Nat.mul_add_div o.m0, Nat.div_eq_of_lt hm, Nat.add_zero]
  · unfold teM
    rw [el, Nat.mul_comm, Nat.mul_add_mod, Nat.mod_eq_of_lt hm]
  · unfold teD
    rw [el]
    omega
  · unfold teL
    rw [el, e]
/-- the table tells every date -/
theorem Ok.te_tell (o : C.Ok) (d : Int) : ∃ r : Nat, r < C.ls.sum ∧ (r : Int) = d % (C.ls.sum : Int) ∧ C.yr d = (C.teY r : Int) + d / (C.ls.sum : Int) * (C.rows.length : Int) ∧ C.mth d = (C.teM r : Int) ∧ C.day d = (C.teD r : Int) ∧ ml C.ls (C.num d) = (C.teL r : Int) := by
  obtain ⟨q, r, hr, e⟩ := d_split o.s0 d
  have s0 := o.s0
  obtain ⟨e1, e2⟩ := idiv_at (n := (C.ls.sum : Int)) (q := q) (r := (r : Int)) (by omega) (by omega)
  rw [← e] at e1 e2
  have en : C.num d = q * (C.ls.length : Int) + (loc C.ls r : Int) := by
    unfold num
    rw [e, mn_at hr]
  have hk := loc_lt hr
  have m0 := o.m0
  have lo := loc_lo (ls := C.ls) (d := r)
  refine ⟨r, hr, e2.symm, ?_, ?_, ?_, ?_⟩
  · unfold Cal.yr teY
    rw [en, o.len, e1, Int.natCast_mul, ← Int.mul_assoc, Int.add_comm, Int.add_mul_ediv_right _ _ (by omega), Int.natCast_ediv]
  · unfold mth teM
    rw [en, o.len, Int.natCast_mul, ← Int.mul_assoc, Int.add_comm (q * _ * _) _, Int.add_mul_emod_self_right, Int.natCast_add, Int.natCast_emod]
    rfl
  · unfold day teD
    rw [en, ms_at hk, e]
    omega
  · unfold teL
    rw [en, ml_at hk]
end
end Cal
end My

/-! Defs with defaults of any kind, called with all of their arguments; C(e, .., k = v, ..). -/
namespace My
open PySem PySem.Spec PyProof.Rows L2
structure FnA (P : Program) (w : World) (K : Fg) (mg : Str → Option Value) (base : Heap) (k : Nat) (f : Addr) (x qual : Str) (st : Stmt) (dvs : List V) (ps : List Str) (sp : Sp) : Prop where
  o : ∃ (fd : FuncData) (kws : List (Str × V)), FunD K x qual (defArgs st) (defBody st) (defScope st) dvs kws f fd ∧ FnOk P w K mg base CX0 k f fd ps sp
section
variable {fa : List (Fg → Bool)} {fn : List He5.DefA} {K : Fg} {mg : Str → Option Value} {P : Program} {w : World} {base : Heap}
theorem TxOf.fnA (T : TxOf fa fn K mg) (i : Nat) {x qual : Str} {st : Stmt} {at_ : Fg → Addr} {N ps : List Str} {k : Nat} {sp : Sp} {dfl : List He.Dv} {kwd : List (Str × He.Dv)}
    (hi : fn[i]? = some ⟨at_, x, qual, defArgs st, defBody st, defScope st, dfl, kwd⟩) (S : FnScope N ps (defScope st))
    (len : ∀ vs H Q E, sp vs H Q E → vs.length = ps.length)
    (hbody : ∀ (cdv : Value) (A : Around) (outer : List Env) (s : Shared) (H : Hp) (vs : List V) (Q : VK) (E : XK), Room k (A.deeper (envOfC qual (defScope st) s.heap.objs.size (at_ K) cdv)) → sp vs H Q E →
      ∃ t, PSs (cxOf CX0 P w K mg base N qual (defScope st) (at_ K) cdv A outer s H E).nox (defBody st) t ∧ t { nx := fun _ H' => Q .non H', rt := Q } (start N vs) H) :
    FnA P w K mg base (k + 1) (at_ K) x qual st (dfl.map (He.Dv.v K)) ps sp := by
  obtain ⟨fd, F⟩ := T.fund i hi
  have F0 : FunD K x qual (defArgs st) (defBody st) (defScope st) (dfl.map (He.Dv.v K)) (kwd.map fun q => (q.1, q.2.v K)) (at_ K) fd := F
  exact ⟨fd, _, F0, F0.ok S len fun cdv A outer s H vs Q E hr h => by
    obtain ⟨t, h1, h2⟩ := hbody cdv A outer s H vs Q E hr h
    exact ⟨t, h1.nox, h2⟩⟩
variable {k : Nat} {f : Addr} {x qual : Str} {st : Stmt} {dvs : List V} {ps : List Str} {sp : Sp}
/-- called with all of them -/
theorem FnA.kw (F : FnA P w K mg base k f x qual st dvs ps sp) (n : Nat) (ks : List Str) (pm : List Nat) (hd : dvs ≠ [])
    (hb : ∀ (D : Addr) (kV doc pmv : Value) (an : Option Addr) (cdv ct : Value) (us its ws : List Value), us.length = n → its.length = dvs.length → ws.length = ks.length →
      ∃ c, bindArgs (PySem.W.fnOf x qual (defArgs st) (defBody st) (defScope st) (.ref D) kV doc pmv an cdv ct) ⟨us, ks.zip ws⟩ = seqItems? (.ref D) >>= c ∧ c (some its.toArray) = pure (ps.zip (pick pm (us ++ ws)))) : FnKw P w K mg base k f n ks pm sp := by
  intro A outer s H us ws vs zs Q E hr e0 rv rz l1 l2 h
  obtain ⟨fd, kws, F0, G⟩ := F.o
  refine G.run A outer s H ⟨us, ks.zip ws⟩ (pick pm (us ++ ws)) (pick pm (vs ++ zs)) Q E hr e0 ?_ (pick_vals (rv.append rz) pm) h
  obtain ⟨oc, od, dV, kV, doc, pmv, an, cdv, ct, osl, rfl, lk, hcd, hD, hK⟩ := F0.ex
  rcases hD with ⟨e, _⟩ | ⟨_, D, o, its, m, rfl, lT, oT, rT⟩
  · exact absurd e hd
  obtain ⟨c, e1, e2⟩ := hb D kV doc pmv an cdv ct us its ws (rv.length.symm.trans l1) rT.length.symm (rz.length.symm.trans l2)
  refine BindsTo.of_looks fun M => ?_
  rw [e1]
  exact looks_items (PySem.W.Frag.In.keeps e0.mod.kin fun b o e => (e0.bs b o e).1) lT oT (.of_pure e2)
end
section
variable {X : Cx} {k n : Nat} {C f : Addr} {x : Str} {ks : List Str} {pm : List Nat} {sp : Sp} {E : XK} {e : Expr} {es : List Expr} {kws : List Keyword} {t tk : TA} {pos np : Pos}
/-- C(e, .., k = v, ..) -/
def tMkKn (C : Addr) (n nk : Nat) (pm : List Nat) (sp : Sp) (E : XK) (t tk : TA) : TE := fun σ H Q => t σ H fun vs H1 => tk σ H1 fun zs H2 => vs.length = n ∧ zs.length = nk ∧
  ∀ x dx, H2 x = none → H2 dx = none → dx ≠ x → sp (pick pm ((.ref x :: vs) ++ zs)) (upd (upd H2 dx (.own x)) x (.ins C dx [])) (fun v H3 => v = .non ∧ Q (.ref x) H3) E
theorem pe_mkKn (M : Mk X.K C f) (F : FnKw X.prog X.w X.K X.mg X.base k f (n + 1) ks pm sp) (hr : Room (k + 1) X.A) (hg : Gl X x) (hm : X.mg x = some (.ref C)) (hx : Passes CX0 X E) (ha : PA X (e :: es) t) (hkw : PK X kws tk)
    (hall : (backToKw pos (keywordEach kws X.env)).all (·.1.isSome) = true := by rfl) (hks : (backToKw pos (keywordEach kws X.env)).filterMap (·.1) = ks := by rfl) (hdb : (x == ("__debug__" : Str)) = false := by decide)
    (hse : starEach (e :: es) X.env = (false, eval e X.env) :: starEach es X.env := by rfl)
    (hpl : ((backTo pos (starEach (e :: es) X.env)).any (·.1) || (backToKw pos (keywordEach kws X.env)).any (·.1.isNone)) = false := by rfl) : PE X (.Call (.Name x np) (e :: es) kws pos) (tMkKn C n ks.length pm sp E t tk) := by
  refine ⟨fun pins s σ H Q I h => wpAny_Call_Name_kw (ld_glob I hg hm ?_ hdb)⟩
  refine PySem.W.callWith_KW (h₀ := X.base) I.ok.mod.kin M.kp hall (thn (ha.run pos pins s σ H _ I h) fun us s1 ⟨vs, H1, I1, rv, q1⟩ => ?_) hpl hse
  refine thn (hkw.run pos pins s1 σ H1 _ I1 q1) fun ws s2 ⟨zs, H2, I, rz, l1, l2, q⟩ => ?_
  refine ⟨I.kIn, ?_⟩
  rw [hks]
  have hq := q (s2.heap.objs.size + 1) s2.heap.objs.size (I.hok.fresh (Nat.le_succ _)) (I.hok.fresh (Nat.le_refl _)) (Nat.ne_of_lt (Nat.lt_succ_self _))
  have I2 := Inv.made (C := C) I
  have r2 : Vals (V.ref (s2.heap.objs.size + 1) :: vs) (Value.ref (s2.heap.objs.size + 1) :: us) := .cons rfl rv
  refine wpAny_call (make_map (f := f) I.kIn M.makes M.init (beq_iff_eq.mp M.fn) (codeAny_mono (F _ X.stack _ _ (Value.ref (s2.heap.objs.size + 1) :: us) ws _ _ _ E (hr.make C us (ks.zip ws)) (I2.env0.make C us (ks.zip ws)) r2 rz (by rw [List.length_cons, l1]) l2 hq) fun r s' hq' => ?_))
  cases r with
  | error e => exact hx pins σ _ _ e s' I2 hq'
  | ok fl =>
    cases fl with
    | ret u =>
      obtain ⟨v, H', I3, rv, ev, q3⟩ := I2.after hq'
      subst ev
      exact ⟨rv, ⟨V.ref (s2.heap.objs.size + 1), H', I3, rfl, q3⟩⟩
    | next => exact False.elim hq'
    | brk => exact False.elim hq'
    | cont => exact False.elim hq'
end
/-- a comprehension within one -/
theorem relab {env : Env} {x : Str} : ∀ {names : List (Str × NameKind)}, (names.lookup x = some .cell ∨ names.lookup x = some .free) →
    let l := (names.map fun (n, k) => if (k == NameKind.free && env.scope.kind == .function && env.kindOf n == some .cell) then (n, NameKind.cell) else (n, k)).lookup x
    l = some .cell ∨ l = some .free
  | [], h => by rcases h with h | h <;> cases h
  | (n, k) :: r, h => by
    have ih := relab (env := env) (x := x) (names := r)
    show List.lookup x ((if (k == NameKind.free && env.scope.kind == .function && env.kindOf n == some .cell) = true then (n, NameKind.cell) else (n, k)) :: _) = _ ∨ List.lookup x ((if (k == NameKind.free && env.scope.kind == .function && env.kindOf n == some .cell) = true then (n, NameKind.cell) else (n, k)) :: _) = _
    rw [List.lookup_cons] at h
    cases hx : x == n with
    | true =>
      rw [hx] at h
      split
      · exact .inl (by rw [List.lookup_cons, hx])
      · rw [List.lookup_cons, hx]
        exact h
    | false =>
      rw [hx] at h
      split
      · rw [List.lookup_cons, hx]
        exact ih h
      · rw [List.lookup_cons, hx]
        exact ih h
theorem blkOk_nest {X : Cx} {N : List Str} {s : Shared} {H : Hp} {scA scope : Scope} {cl : List (Str × Addr)} {C : Addr} {fp : List Addr} {own : List (Str × Nat)} (h : blkC N scA scope own = true) : BlkOk N (X.blk s H scA (compEnvC scA cl C X.env) fp).env.scope scope own := by
  have b := blkOk_by h
  exact ⟨b.kind, b.uniq, b.ix, fun y hy e => relab (b.free y hy e), b.own⟩
end My

/-! Constants that are tuples of ints, keyword-only defaults that are tuples, C(e, .., k = v, ..) by a local name. -/
namespace My
open PySem PySem.Spec PyProof.Rows L2
def intOf : Value → Option Int
  | .int i _ => some i
  | _ => none
theorem vals_int : ∀ {us : List Value} {xs : List Int}, us.map intOf = xs.map some → Vals (xs.map V.int) us
  | [], [], _ => .nil
  | [], _ :: _, h => by cases h
  | _ :: _, [], h => by cases h
  | u :: us, x :: xs, h => by
    rw [List.map_cons, List.map_cons] at h
    obtain ⟨h1, h2⟩ := List.cons.inj h
    refine .cons ?_ (vals_int h2)
    cases u with
    | int i t =>
      cases h1
      exact ⟨t, rfl⟩
    | _ => cases h1
/-- the tuple of ints at an address of the fragment -/
def tupIA (p : Fg → Addr) (xs : List Int) (K : Fg) : Bool := match K.lookup (p K) with
  | some o => decide (o.cls = .type "tuple") && (match o.data with
    | .seq its _ => decide (its.size ≤ 1000) && decide (its.toList.map intOf = xs.map some)
    | _ => false)
  | none => false
theorem tupIA_ok {p : Fg → Addr} {xs : List Int} {K : Fg} (h : tupIA p xs K = true) (H : Hp) : SqT K H (p K) (xs.map V.int) := by
  unfold tupIA at h
  refine .inr ?_
  split at h
  · rename_i o eo
    obtain ⟨h3, h4⟩ := He.ba h
    split at h4
    · rename_i its n ed
      obtain ⟨h5, h6⟩ := He.ba h4
      exact ⟨o, its, n, eo, of_decide_eq_true h3, ed, sz (Nat.le_trans (of_decide_eq_true h5) (by decide)), vals_int (of_decide_eq_true h6)⟩
    · cases h4
  · cases h
/-- the keyword-only default x of the def at p, if it is an object -/
def kwAt (p : Fg → Addr) (x : Str) (K : Fg) : Addr := match K.lookup (p K) with
  | some ⟨_, _, .func fd, _⟩ => (match fd.kwdefaults with
    | .ref D => (match PySem.W.nsIn K D x with
      | some (some (.ref b)) => b
      | _ => 0)
    | _ => 0)
  | _ => 0
section
variable {fa : List (Fg → Bool)} {fn : List He5.DefA} {K : Fg} {mg : Str → Option Value} {P : Program} {w : World} {base : Heap}
/-- a def with keyword-only defaults, none of them written -/
theorem TxOf.fnKd (T : TxOf fa fn K mg) (i : Nat) {x qual : Str} {st : Stmt} {at_ : Fg → Addr} {N ps : List Str} {k : Nat} {sp : Sp} {kwd : List (Str × He.Dv)} (n : Nat)
    (hi : fn[i]? = some ⟨at_, x, qual, defArgs st, defBody st, defScope st, [], kwd⟩) (S : FnScope N ps (defScope st)) (hk : kwd ≠ []) (hn : n + kwd.length = ps.length)
    (h : ∀ (D : Addr) (doc pm : Value) (an : Option Addr) (cdv ct : Value) (us ks : List Value), us.length = n → ks.length = kwd.length →
      KwChain D ((kwd.map (·.1)).zip ks) (bindArgs (PySem.W.fnOf x qual (defArgs st) (defBody st) (defScope st) .none (.ref D) doc pm an cdv ct) ⟨us, []⟩) (ps.zip (us ++ ks)))
    (len : ∀ vs H Q E, sp vs H Q E → vs.length = ps.length)
    (hbody : ∀ (cdv : Value) (A : Around) (outer : List Env) (s : Shared) (H : Hp) (vs : List V) (Q : VK) (E : XK), Room k (A.deeper (envOfC qual (defScope st) s.heap.objs.size (at_ K) cdv)) → sp vs H Q E →
      ∃ t, PSs (cxOf CX0 P w K mg base N qual (defScope st) (at_ K) cdv A outer s H E).nox (defBody st) t ∧ t { nx := fun _ H' => Q .non H', rt := Q } (start N vs) H) :
    FnR P w K mg base CX0 (k + 1) (at_ K) (fun vs H Q E => sp (vs ++ kwd.map fun q => q.2.v K) H Q E) := by
  obtain ⟨fd, F⟩ := T.fund i hi
  have F0 : FunD K x qual (defArgs st) (defBody st) (defScope st) [] (kwd.map fun q => (q.1, q.2.v K)) (at_ K) fd := F
  have G : FnOk P w K mg base CX0 (k + 1) (at_ K) fd ps sp := F0.ok S len fun cdv A outer s H vs Q E hr h => by
    obtain ⟨t, h1, h2⟩ := hbody cdv A outer s H vs Q E hr h
    exact ⟨t, h1.nox, h2⟩
  obtain ⟨ds, d1, d2⟩ := F0.binds0 (ps := ps) n (fun z => hk (List.map_eq_nil_iff.mp z)) (by rw [List.length_map]; exact hn) (fun D doc pm an cdv ct us ks l1 l2 => by
    rw [List.length_map] at l2
    have := h D doc pm an cdv ct us ks l1 l2
    rw [List.map_map]
    exact this)
  rw [List.map_map] at d1
  exact G.raw d2 d1
end
section
variable {X : Cx} {k n i : Nat} {C f : Addr} {x : Str} {ks : List Str} {pm : List Nat} {sp : Sp} {E : XK} {e : Expr} {es : List Expr} {kws : List Keyword} {t tk : TA} {pos np : Pos}
/-- x(e, .., k = v, ..), x a local name that holds the class at C -/
def tMkKnV (i : Nat) (C : Addr) (n nk : Nat) (pm : List Nat) (sp : Sp) (E : XK) (t tk : TA) : TE := fun σ H Q => σ[i]? = some (some (.ref C)) ∧ tMkKn C n nk pm sp E t tk σ H Q
theorem pe_mkKnV (M : Mk X.K C f) (F : FnKw X.prog X.w X.K X.mg X.base k f (n + 1) ks pm sp) (hr : Room (k + 1) X.A) (hx : Passes CX0 X E) (ha : PA X (e :: es) t) (hkw : PK X kws tk) (hN : X.N[i]? = some x := by rfl)
    (hv : Vis X.env.scope x := by first | exact Or.inl rfl | exact Or.inr (Or.inl rfl) | exact Or.inr (Or.inr rfl))
    (hd : (x == ("__debug__" : Str)) = false := by decide) (hcd : (x == ("__classdict__" : Str)) = false := by decide)
    (hall : (backToKw pos (keywordEach kws X.env)).all (·.1.isSome) = true := by rfl) (hks : (backToKw pos (keywordEach kws X.env)).filterMap (·.1) = ks := by rfl)
    (hse : starEach (e :: es) X.env = (false, eval e X.env) :: starEach es X.env := by rfl)
    (hpl : ((backTo pos (starEach (e :: es) X.env)).any (·.1) || (backToKw pos (keywordEach kws X.env)).any (·.1.isNone)) = false := by rfl) : PE X (.Call (.Name x np) (e :: es) kws pos) (tMkKnV i C n ks.length pm sp E t tk) := by
  refine ⟨fun pins s σ H Q I h => ?_⟩
  obtain ⟨hs, h⟩ := h
  have hvar := (pe_var (pos := np) (i := i) hN hv hd hcd).run pins s σ H (fun v H1 => v = .ref C ∧ H1 = H) I ⟨.ref C, hs, rfl, rfl⟩
  refine wpAny_Call_Name_kw (thn hvar fun u s1 z => ?_)
  obtain ⟨v, H1, I1, r1, ev, eH⟩ := z
  subst ev
  rw [eH] at I1
  obtain rfl : u = Value.ref C := r1
  refine PySem.W.callWith_KW (h₀ := X.base) I.ok.mod.kin M.kp hall (thn (ha.run pos pins s1 σ H _ I1 h) fun us s1 ⟨vs, H1, I1, rv, q1⟩ => ?_) hpl hse
  refine thn (hkw.run pos pins s1 σ H1 _ I1 q1) fun ws s2 ⟨zs, H2, I, rz, l1, l2, q⟩ => ?_
  refine ⟨I.kIn, ?_⟩
  rw [hks]
  have hq := q (s2.heap.objs.size + 1) s2.heap.objs.size (I.hok.fresh (Nat.le_succ _)) (I.hok.fresh (Nat.le_refl _)) (Nat.ne_of_lt (Nat.lt_succ_self _))
  have I2 := Inv.made (C := C) I
  have r2 : Vals (V.ref (s2.heap.objs.size + 1) :: vs) (Value.ref (s2.heap.objs.size + 1) :: us) := .cons rfl rv
  refine wpAny_call (make_map (f := f) I.kIn M.makes M.init (beq_iff_eq.mp M.fn) (codeAny_mono (F _ X.stack _ _ (Value.ref (s2.heap.objs.size + 1) :: us) ws _ _ _ E (hr.make C us (ks.zip ws)) (I2.env0.make C us (ks.zip ws)) r2 rz (by rw [List.length_cons, l1]) l2 hq) fun r s' hq' => ?_))
  cases r with
  | error e => exact hx pins σ _ _ e s' I2 hq'
  | ok fl =>
    cases fl with
    | ret u =>
      obtain ⟨v, H', I3, rv, ev, q3⟩ := I2.after hq'
      subst ev
      exact ⟨rv, ⟨V.ref (s2.heap.objs.size + 1), H', I3, rfl, q3⟩⟩
    | next => exact False.elim hq'
    | brk => exact False.elim hq'
    | cont => exact False.elim hq'
end
end My

/-! A class method with keyword-only defaults, the last one written, the one ahead of it not. -/
namespace My
open PySem PySem.Spec PyProof.Rows L2
section
variable {fa : List (Fg → Bool)} {fn : List He5.DefA} {K : Fg} {mg : Str → Option Value} {P : Program} {w : World} {base : Heap}
theorem TxOf.fnKd1 (T : TxOf fa fn K mg) (i : Nat) {x qual : Str} {st : Stmt} {at_ : Fg → Addr} {N ps : List Str} {k : Nat} {sp : Sp} {a b : Str} {da db : He.Dv}
    (hi : fn[i]? = some ⟨at_, x, qual, defArgs st, defBody st, defScope st, [], [(a, da), (b, db)]⟩) (S : FnScope N ps (defScope st))
    (h : ∀ (D : Addr) (doc pm : Value) (an : Option Addr) (cdv ct : Value) (u m v : Value),
      KwChain D [(a, m)] (bindArgs (PySem.W.fnOf x qual (defArgs st) (defBody st) (defScope st) .none (.ref D) doc pm an cdv ct) ⟨[u], [(b, v)]⟩) (ps.zip [u, m, v]))
    (len : ∀ vs H Q E, sp vs H Q E → vs.length = ps.length)
    (hbody : ∀ (cdv : Value) (A : Around) (outer : List Env) (s : Shared) (H : Hp) (vs : List V) (Q : VK) (E : XK), Room k (A.deeper (envOfC qual (defScope st) s.heap.objs.size (at_ K) cdv)) → sp vs H Q E →
      ∃ t, PSs (cxOf CX0 P w K mg base N qual (defScope st) (at_ K) cdv A outer s H E).nox (defBody st) t ∧ t { nx := fun _ H' => Q .non H', rt := Q } (start N vs) H) :
    FnKw P w K mg base (k + 1) (at_ K) 1 [b] [0, 1] (fun vs H Q E => ∃ c z : V, vs = [c, z] ∧ sp [c, da.v K, z] H Q E) := by
  obtain ⟨fd, F⟩ := T.fund i hi
  have F0 : FunD K x qual (defArgs st) (defBody st) (defScope st) [] [(a, da.v K), (b, db.v K)] (at_ K) fd := F
  have G : FnOk P w K mg base CX0 (k + 1) (at_ K) fd ps sp := F0.ok S len fun cdv A outer s H vs Q E hr h => by
    obtain ⟨t, h1, h2⟩ := hbody cdv A outer s H vs Q E hr h
    exact ⟨t, h1.nox, h2⟩
  obtain ⟨mv, hb⟩ := F0.kbinds0 (ps := ps) 1 [b] [(a, da.v K)] (fun us ms ws => us ++ ms ++ ws) (fun z => by cases z) (fun q hq => by rw [List.mem_singleton.mp hq]; exact List.mem_cons_self ..) (fun r1 r2 r3 => (r1.append r2).append r3) (fun D doc pm an cdv ct us mv ws l1 l2 l3 =>
    match us, mv, ws, l1, l2, l3 with
    | [u], [m], [v], _, _, _ => h D doc pm an cdv ct u m v)
  intro A outer s H us ws vs zs Q E hr e0 rv rz l1 l2 hsp
  obtain ⟨c, z, ev, hs⟩ := hsp
  match vs, zs, l1, l2 with
  | [v0], [z0], _, _ =>
    obtain ⟨rfl, h2⟩ := List.cons.inj (show v0 :: [z0] = c :: [z] from ev)
    obtain ⟨rfl, _⟩ := List.cons.inj h2
    exact G.run A outer s H ⟨us, [b].zip ws⟩ _ _ Q E hr e0 (hb.to s us ws (PySem.W.Frag.In.keeps e0.mod.kin fun b o e => (e0.bs b o e).1) rv.length.symm rz.length.symm) (hb.rel rv rz) hs
end
end My

/-! A def with defaults of both kinds, called with none of them written. -/
namespace My
open PySem PySem.Spec PyProof.Rows L2
section
variable {P : Program} {w : World} {K : Fg} {mg : Str → Option Value} {base : Heap} {k : Nat} {f : Addr} {x qual : Str} {st : Stmt} {dvs : List V} {kws : List (Str × V)} {ps : List Str} {sp : Sp}
theorem FnA.dfl {fd1 : FuncData} (F : FnA P w K mg base k f x qual st dvs ps sp) (F1 : FunD K x qual (defArgs st) (defBody st) (defScope st) dvs kws f fd1) (n : Nat) (hd : dvs ≠ []) (hk : kws ≠ []) (hn : n + (dvs.length + kws.length) = ps.length)
    (h : ∀ (T D : Addr) (doc pm : Value) (an : Option Addr) (cdv ct : Value) (us its ks : List Value), us.length = n → its.length = dvs.length → ks.length = kws.length →
      ∃ k, bindArgs (PySem.W.fnOf x qual (defArgs st) (defBody st) (defScope st) (.ref T) (.ref D) doc pm an cdv ct) ⟨us, []⟩ = seqItems? (.ref T) >>= k ∧ KwChain D ((kws.map (·.1)).zip ks) (k (some its.toArray)) (ps.zip (us ++ (its ++ ks)))) :
    FnR P w K mg base CX0 k f (fun vs H Q E => sp (vs ++ (dvs ++ kws.map (·.2))) H Q E) := by
  obtain ⟨fd, kws0, F0, G⟩ := F.o
  have e : fd = fd1 := by
    obtain ⟨_, _, _, _, _, _, _, _, _, _, _, lk, _⟩ := F0.ex
    obtain ⟨_, _, _, _, _, _, _, _, _, _, _, lk1, _⟩ := F1.ex
    rw [lk] at lk1
    injection lk1 with lk1
    injection lk1 with _ _ lk1 _
    injection lk1
  subst e
  obtain ⟨ds, d1, d2⟩ := F1.binds (ps := ps) n 0 hd (by rw [Nat.sub_zero]; exact hn) h hk
  exact G.raw d2 d1
end
end My

namespace Lw
open PySem PySem.Spec PyProof.Rows L2 My
/-! the text by places -/
def top (i : Nat) : Stmt := PySem.Challenge.pw_dayrecipes_k01_calendars_made.main.body.getD i (.Pass ⟨0, 0, 0, 0⟩)
abbrev s_is_integer : Stmt := top 21
abbrev s_common_divisor : Stmt := top 22
abbrev s_common_multiple : Stmt := top 23
abbrev s_is_row : Stmt := top 26
abbrev s_is_between : Stmt := top 27
abbrev s_are_years : Stmt := top 28
abbrev s_are_weekdays : Stmt := top 29
abbrev s_are_holidays : Stmt := top 30
abbrev s_month_starts : Stmt := top 31
abbrev s_month_at : Stmt := top 32
abbrev s_Calendaru_initu : Stmt := inClass (top 33) 0
abbrev s_Calendaru_equ : Stmt := inClass (top 33) 1
abbrev s_Calendar_facts : Stmt := inClass (top 33) 5
abbrev s_Calendar_first_works : Stmt := inClass (top 33) 7
abbrev s_Calendar_years : Stmt := inClass (top 33) 10
abbrev s_Calendar_week : Stmt := inClass (top 33) 11
abbrev s_Calendar_first : Stmt := inClass (top 33) 12
abbrev s_Calendar_rest : Stmt := inClass (top 33) 13
abbrev s_Calendar_holidays : Stmt := inClass (top 33) 14
abbrev s_Calendar_months : Stmt := inClass (top 33) 15
abbrev s_Calendar_cycle_days : Stmt := inClass (top 33) 16
abbrev s_Calendar_period : Stmt := inClass (top 33) 17
abbrev s_Calendar_month_start : Stmt := inClass (top 33) 19
abbrev s_Calendar_month_number : Stmt := inClass (top 33) 21
abbrev s_Calendar_parts : Stmt := inClass (top 33) 24
abbrev s_Calendar_weekday : Stmt := inClass (top 33) 25
abbrev s_Calendar_is_work : Stmt := inClass (top 33) 26
abbrev s__law_pen : Stmt := top 35
abbrev s__law_draw : Stmt := top 36
abbrev s__law_pick : Stmt := top 37
abbrev s__law_shuffled : Stmt := top 38
abbrev s__law_gcd : Stmt := top 39
abbrev s__law_plain : Stmt := top 40
abbrev s__law_with_days : Stmt := top 41
abbrev s__law_facts : Stmt := top 42
abbrev s__law_weekday : Stmt := top 43
abbrev s__law_is_work : Stmt := top 44
abbrev s__law_shown : Stmt := top 45
abbrev s__law_due : Stmt := top 46
abbrev s_law : Stmt := top 47
abbrev N_is_integer : List Str := ["value"]
theorem sc_is_integer : FnScope N_is_integer ["value"] (defScope s_is_integer) := ⟨rfl, rfl, rfl, by decide +kernel, rfl, by decide +kernel, by decide +kernel⟩
abbrev N_common_divisor : List Str := ["one", "other"]
theorem sc_common_divisor : FnScope N_common_divisor ["one", "other"] (defScope s_common_divisor) := ⟨rfl, rfl, rfl, by decide +kernel, rfl, by decide +kernel, by decide +kernel⟩
abbrev N_common_multiple : List Str := ["one", "other"]
theorem sc_common_multiple : FnScope N_common_multiple ["one", "other"] (defScope s_common_multiple) := ⟨rfl, rfl, rfl, by decide +kernel, rfl, by decide +kernel, by decide +kernel⟩
abbrev N_is_row : List Str := ["value"]
theorem sc_is_row : FnScope N_is_row ["value"] (defScope s_is_row) := ⟨rfl, rfl, rfl, by decide +kernel, rfl, by decide +kernel, by decide +kernel⟩
abbrev N_is_between : List Str := ["value", "low", "high"]
theorem sc_is_between : FnScope N_is_between ["value", "low", "high"] (defScope s_is_between) := ⟨rfl, rfl, rfl, by decide +kernel, rfl, by decide +kernel, by decide +kernel⟩
abbrev N_are_years : List Str := ["years", "year", "days"]
theorem sc_are_years : FnScope N_are_years ["years"] (defScope s_are_years) := ⟨rfl, rfl, rfl, by decide +kernel, rfl, by decide +kernel, by decide +kernel⟩
abbrev N_are_weekdays : List Str := ["rest", "week", "weekday"]
theorem sc_are_weekdays : FnScope N_are_weekdays ["rest", "week"] (defScope s_are_weekdays) := ⟨rfl, rfl, rfl, by decide +kernel, rfl, by decide +kernel, by decide +kernel⟩
abbrev N_are_holidays : List Str := ["holidays", "months", "holiday"]
theorem sc_are_holidays : FnScope N_are_holidays ["holidays", "months"] (defScope s_are_holidays) := ⟨rfl, rfl, rfl, by decide +kernel, rfl, by decide +kernel, by decide +kernel⟩
abbrev N_month_starts : List Str := ["lengths", "found", "days"]
theorem sc_month_starts : FnScope N_month_starts ["lengths"] (defScope s_month_starts) := ⟨rfl, rfl, rfl, by decide +kernel, rfl, by decide +kernel, by decide +kernel⟩
abbrev N_month_at : List Str := ["starts", "day", "low", "high", "middle"]
theorem sc_month_at : FnScope N_month_at ["starts", "day"] (defScope s_month_at) := ⟨rfl, rfl, rfl, by decide +kernel, rfl, by decide +kernel, by decide +kernel⟩
abbrev N_Calendaru_initu : List Str := ["self", "years", "week", "first", "rest", "holidays", "year", "days"]
theorem sc_Calendaru_initu : FnScope N_Calendaru_initu ["self", "years", "week", "first", "rest", "holidays"] (defScope s_Calendaru_initu) := ⟨rfl, rfl, rfl, by decide +kernel, rfl, by decide +kernel, by decide +kernel⟩
abbrev N_Calendaru_equ : List Str := ["self", "other"]
theorem sc_Calendaru_equ : FnScope N_Calendaru_equ ["self", "other"] (defScope s_Calendaru_equ) := ⟨rfl, rfl, rfl, by decide +kernel, rfl, by decide +kernel, by decide +kernel⟩
abbrev N_Calendar_facts : List Str := ["self"]
theorem sc_Calendar_facts : FnScope N_Calendar_facts ["self"] (defScope s_Calendar_facts) := ⟨rfl, rfl, rfl, by decide +kernel, rfl, by decide +kernel, by decide +kernel⟩
abbrev N_Calendar_first_works : List Str := ["self", "period", "found", "day"]
theorem sc_Calendar_first_works : FnScope N_Calendar_first_works ["self"] (defScope s_Calendar_first_works) := ⟨rfl, rfl, rfl, by decide +kernel, rfl, by decide +kernel, by decide +kernel⟩
abbrev N_Calendar_years : List Str := ["self"]
theorem sc_Calendar_years : FnScope N_Calendar_years ["self"] (defScope s_Calendar_years) := ⟨rfl, rfl, rfl, by decide +kernel, rfl, by decide +kernel, by decide +kernel⟩
abbrev N_Calendar_week : List Str := ["self"]
theorem sc_Calendar_week : FnScope N_Calendar_week ["self"] (defScope s_Calendar_week) := ⟨rfl, rfl, rfl, by decide +kernel, rfl, by decide +kernel, by decide +kernel⟩
abbrev N_Calendar_first : List Str := ["self"]
theorem sc_Calendar_first : FnScope N_Calendar_first ["self"] (defScope s_Calendar_first) := ⟨rfl, rfl, rfl, by decide +kernel, rfl, by decide +kernel, by decide +kernel⟩
abbrev N_Calendar_rest : List Str := ["self"]
theorem sc_Calendar_rest : FnScope N_Calendar_rest ["self"] (defScope s_Calendar_rest) := ⟨rfl, rfl, rfl, by decide +kernel, rfl, by decide +kernel, by decide +kernel⟩
abbrev N_Calendar_holidays : List Str := ["self"]
theorem sc_Calendar_holidays : FnScope N_Calendar_holidays ["self"] (defScope s_Calendar_holidays) := ⟨rfl, rfl, rfl, by decide +kernel, rfl, by decide +kernel, by decide +kernel⟩
abbrev N_Calendar_months : List Str := ["self"]
theorem sc_Calendar_months : FnScope N_Calendar_months ["self"] (defScope s_Calendar_months) := ⟨rfl, rfl, rfl, by decide +kernel, rfl, by decide +kernel, by decide +kernel⟩
abbrev N_Calendar_cycle_days : List Str := ["self"]
theorem sc_Calendar_cycle_days : FnScope N_Calendar_cycle_days ["self"] (defScope s_Calendar_cycle_days) := ⟨rfl, rfl, rfl, by decide +kernel, rfl, by decide +kernel, by decide +kernel⟩
abbrev N_Calendar_period : List Str := ["self"]
theorem sc_Calendar_period : FnScope N_Calendar_period ["self"] (defScope s_Calendar_period) := ⟨rfl, rfl, rfl, by decide +kernel, rfl, by decide +kernel, by decide +kernel⟩
abbrev N_Calendar_month_start : List Str := ["self", "number", "many"]
theorem sc_Calendar_month_start : FnScope N_Calendar_month_start ["self", "number"] (defScope s_Calendar_month_start) := ⟨rfl, rfl, rfl, by decide +kernel, rfl, by decide +kernel, by decide +kernel⟩
abbrev N_Calendar_month_number : List Str := ["self", "date", "days"]
theorem sc_Calendar_month_number : FnScope N_Calendar_month_number ["self", "date"] (defScope s_Calendar_month_number) := ⟨rfl, rfl, rfl, by decide +kernel, rfl, by decide +kernel, by decide +kernel⟩
abbrev N_Calendar_parts : List Str := ["self", "date", "number"]
theorem sc_Calendar_parts : FnScope N_Calendar_parts ["self", "date"] (defScope s_Calendar_parts) := ⟨rfl, rfl, rfl, by decide +kernel, rfl, by decide +kernel, by decide +kernel⟩
abbrev N_Calendar_weekday : List Str := ["self", "date"]
theorem sc_Calendar_weekday : FnScope N_Calendar_weekday ["self", "date"] (defScope s_Calendar_weekday) := ⟨rfl, rfl, rfl, by decide +kernel, rfl, by decide +kernel, by decide +kernel⟩
abbrev N_Calendar_is_work : List Str := ["self", "date"]
theorem sc_Calendar_is_work : FnScope N_Calendar_is_work ["self", "date"] (defScope s_Calendar_is_work) := ⟨rfl, rfl, rfl, by decide +kernel, rfl, by decide +kernel, by decide +kernel⟩
abbrev N__law_pen : List Str := ["_law_script"]
theorem sc__law_pen : FnScope N__law_pen ["_law_script"] (defScope s__law_pen) := ⟨rfl, rfl, rfl, by decide +kernel, rfl, by decide +kernel, by decide +kernel⟩
abbrev N__law_draw : List Str := ["_law_pen_here", "_law_many", "_law_digit", "_law_turn", "_law_cell", "_law_primes", "_law_prime", "_law_drawn"]
theorem sc__law_draw : FnScope N__law_draw ["_law_pen_here", "_law_many"] (defScope s__law_draw) := ⟨rfl, rfl, rfl, by decide +kernel, rfl, by decide +kernel, by decide +kernel⟩
abbrev N__law_pick : List Str := ["_law_pen_here", "_law_options"]
theorem sc__law_pick : FnScope N__law_pick ["_law_pen_here", "_law_options"] (defScope s__law_pick) := ⟨rfl, rfl, rfl, by decide +kernel, rfl, by decide +kernel, by decide +kernel⟩
abbrev N__law_shuffled : List Str := ["_law_pen_here", "_law_items", "_law_left", "_law_found"]
theorem sc__law_shuffled : FnScope N__law_shuffled ["_law_pen_here", "_law_items"] (defScope s__law_shuffled) := ⟨rfl, rfl, rfl, by decide +kernel, rfl, by decide +kernel, by decide +kernel⟩
abbrev N__law_gcd : List Str := ["_law_left", "_law_right"]
theorem sc__law_gcd : FnScope N__law_gcd ["_law_left", "_law_right"] (defScope s__law_gcd) := ⟨rfl, rfl, rfl, by decide +kernel, rfl, by decide +kernel, by decide +kernel⟩
abbrev N__law_plain : List Str := ["_law_pen_here", "_law_many", "_law_months", "_law_longest", "_law_size", "_law_lists", "_law_share", "_law_free", "_law_idle", "_law_k", "_law_one", "_law_plain_here", "_law_year", "_law_day", "_law_month"]
theorem sc__law_plain : FnScope N__law_plain ["_law_pen_here"] (defScope s__law_plain) := ⟨rfl, rfl, rfl, by decide +kernel, rfl, by decide +kernel, by decide +kernel⟩
abbrev N__law_with_days : List Str := ["_law_lists", "_law_size", "_law_begin", "_law_idle", "_law_free", "_law_cycle", "_law_begins", "_law_year", "_law_month", "_law_length", "_law_plain_here", "_law_flags", "_law_ahead", "_law_flag", "_law_date", "_law_day"]
theorem sc__law_with_days : FnScope N__law_with_days ["_law_lists", "_law_size", "_law_begin", "_law_idle", "_law_free"] (defScope s__law_with_days) := ⟨rfl, rfl, rfl, by decide +kernel, rfl, by decide +kernel, by decide +kernel⟩
abbrev N__law_facts : List Str := ["_law_plain_here", "_law_date", "_law_year", "_law_month", "_law_day", "_law_length"]
theorem sc__law_facts : FnScope N__law_facts ["_law_plain_here", "_law_date"] (defScope s__law_facts) := ⟨rfl, rfl, rfl, by decide +kernel, rfl, by decide +kernel, by decide +kernel⟩
abbrev N__law_weekday : List Str := ["_law_plain_here", "_law_date"]
theorem sc__law_weekday : FnScope N__law_weekday ["_law_plain_here", "_law_date"] (defScope s__law_weekday) := ⟨rfl, rfl, rfl, by decide +kernel, rfl, by decide +kernel, by decide +kernel⟩
abbrev N__law_is_work : List Str := ["_law_plain_here", "_law_date", "_law_year", "_law_month", "_law_day", "_law_length"]
theorem sc__law_is_work : FnScope N__law_is_work ["_law_plain_here", "_law_date"] (defScope s__law_is_work) := ⟨rfl, rfl, rfl, by decide +kernel, rfl, by decide +kernel, by decide +kernel⟩
abbrev N__law_shown : List Str := ["_law_house", "_law_found"]
theorem sc__law_shown : FnScope N__law_shown ["_law_house"] (defScope s__law_shown) := ⟨rfl, rfl, rfl, by decide +kernel, rfl, by decide +kernel, by decide +kernel⟩
abbrev N__law_due : List Str := ["_law_plain_here", "_law_lists", "_law_found", "_law_row"]
theorem sc__law_due : FnScope N__law_due ["_law_plain_here"] (defScope s__law_due) := ⟨rfl, rfl, rfl, by decide +kernel, rfl, by decide +kernel, by decide +kernel⟩
abbrev N_law : List Str := ["_law_script", "_law_pen_here", "_law_turn", "_law_plain_here", "_law_lists", "_law_idle", "_law_free", "_law_due_here", "_law_handed", "_law_more", "_law_gone", "_law_house", "_law_days", "_law_row"]
theorem sc_law : FnScope N_law ["_law_script"] (defScope s_law) := ⟨rfl, rfl, rfl, by decide +kernel, rfl, by decide +kernel, by decide +kernel⟩
abbrev CA (K : Fg) : Addr := He.ga K "Calendar"
def facts : List (Fg → Bool) := [(He.Fa.glo "is_integer").ok,
  (He.Fa.glo "common_divisor").ok,
  (He.Fa.glo "common_multiple").ok,
  (He.Fa.glo "is_row").ok,
  (He.Fa.glo "is_between").ok,
  (He.Fa.glo "are_years").ok,
  (He.Fa.glo "are_weekdays").ok,
  (He.Fa.glo "are_holidays").ok,
  (He.Fa.glo "month_starts").ok,
  (He.Fa.glo "month_at").ok,
  (He.Fa.glo "_law_pen").ok,
  (He.Fa.glo "_law_draw").ok,
  (He.Fa.glo "_law_pick").ok,
  (He.Fa.glo "_law_shuffled").ok,
  (He.Fa.glo "_law_gcd").ok,
  (He.Fa.glo "_law_plain").ok,
  (He.Fa.glo "_law_with_days").ok,
  (He.Fa.glo "_law_facts").ok,
  (He.Fa.glo "_law_weekday").ok,
  (He.Fa.glo "_law_is_work").ok,
  (He.Fa.glo "_law_shown").ok,
  (He.Fa.glo "_law_due").ok,
  (He.Fa.glo "law").ok,
  (He.Fa.glo "InvalidCalendar").ok,
  (He.Fa.glo "InvalidText").ok,
  (He.Fa.glo "Calendar").ok,
  (He.Fa.int "MAX_PERIOD" 200000).ok,
  (He.Fa.int "MAX_YEARS" 400).ok,
  (He.Fa.int "MAX_MONTHS" 14).ok,
  (He.Fa.int "MAX_DAYS" 40).ok,
  (He.Fa.int "MAX_WEEK" 10).ok,
  (He.Fa.int "SHORT_PERIOD" 2000).ok,
  My.tupIA (My.kwAt (fun K => He.ma K (He.ga K "Calendar") "__init__") "rest") [],
  My.tupIA (My.kwAt (fun K => He.ma K (He.ga K "Calendar") "__init__") "holidays") [],
  (He.Fa.free "abs").ok,
  (He.Fa.free "all").ok,
  (He.Fa.free "bool").ok,
  (He.Fa.free "int").ok,
  (He.Fa.free "isinstance").ok,
  (He.Fa.free "len").ok,
  (He.Fa.free "list").ok,
  (He.Fa.free "min").ok,
  (He.Fa.free "property").ok,
  (He.Fa.free "range").ok,
  (He.Fa.free "repr").ok,
  (He.Fa.free "set").ok,
  (He.Fa.free "sorted").ok,
  (He.Fa.free "tuple").ok,
  (He.Fa.cls "Calendar").ok,
  (He.Fa.noat "Calendar" "all_years").ok,
  (He.Fa.noat "Calendar" "days_of_week").ok,
  (He.Fa.noat "Calendar" "begins").ok,
  (He.Fa.noat "Calendar" "rests").ok,
  (He.Fa.noat "Calendar" "free_days").ok,
  (He.Fa.noat "Calendar" "lengths").ok,
  (He.Fa.noat "Calendar" "starts").ok,
  (He.Fa.noat "Calendar" "turn").ok,
  (He.Fa.noat "Calendar" "works").ok,
  (He.Fa.mkr "Calendar").ok,
  tyB "Calendar",
  firstB "Calendar",
  isiB "Calendar" "Calendar" true,
  neB "Calendar",
  othB "Calendar" "Calendar",
  spB "Calendar" "__eq__",
  (He.Fa.meth "Calendar" "facts").ok,
  (He.Fa.meth "Calendar" "first_works").ok,
  propB "Calendar" "years",
  propB "Calendar" "week",
  propB "Calendar" "first",
  propB "Calendar" "rest",
  propB "Calendar" "holidays",
  propB "Calendar" "months",
  propB "Calendar" "cycle_days",
  propB "Calendar" "period",
  (He.Fa.meth "Calendar" "month_start").ok,
  (He.Fa.meth "Calendar" "month_number").ok,
  (He.Fa.meth "Calendar" "parts").ok,
  (He.Fa.meth "Calendar" "weekday").ok,
  (He.Fa.meth "Calendar" "is_work").ok]
def defs : List He5.DefA := [⟨fun K => He.ma K (He.ga K "Calendar") "__init__", "__init__", "Calendar.__init__", defArgs s_Calendaru_initu, defBody s_Calendaru_initu, defScope s_Calendaru_initu, [.int 7], [("first", .int 0), ("rest", .adr (My.kwAt (fun K => He.ma K (He.ga K "Calendar") "__init__") "rest")), ("holidays", .adr (My.kwAt (fun K => He.ma K (He.ga K "Calendar") "__init__") "holidays"))]⟩,
  ⟨fun K => He.ma K (He.ga K "Calendar") "__eq__", "__eq__", "Calendar.__eq__", defArgs s_Calendaru_equ, defBody s_Calendaru_equ, defScope s_Calendaru_equ, [], []⟩,
  ⟨fun K => He.ma K (He.ga K "Calendar") "facts", "facts", "Calendar.facts", defArgs s_Calendar_facts, defBody s_Calendar_facts, defScope s_Calendar_facts, [], []⟩,
  ⟨fun K => He.ma K (He.ga K "Calendar") "first_works", "first_works", "Calendar.first_works", defArgs s_Calendar_first_works, defBody s_Calendar_first_works, defScope s_Calendar_first_works, [], []⟩,
  ⟨fun K => He5.wf K (He.ga K "Calendar") "property" "years", "years", "Calendar.years", defArgs s_Calendar_years, defBody s_Calendar_years, defScope s_Calendar_years, [], []⟩,
  ⟨fun K => He5.wf K (He.ga K "Calendar") "property" "week", "week", "Calendar.week", defArgs s_Calendar_week, defBody s_Calendar_week, defScope s_Calendar_week, [], []⟩,
  ⟨fun K => He5.wf K (He.ga K "Calendar") "property" "first", "first", "Calendar.first", defArgs s_Calendar_first, defBody s_Calendar_first, defScope s_Calendar_first, [], []⟩,
  ⟨fun K => He5.wf K (He.ga K "Calendar") "property" "rest", "rest", "Calendar.rest", defArgs s_Calendar_rest, defBody s_Calendar_rest, defScope s_Calendar_rest, [], []⟩,
  ⟨fun K => He5.wf K (He.ga K "Calendar") "property" "holidays", "holidays", "Calendar.holidays", defArgs s_Calendar_holidays, defBody s_Calendar_holidays, defScope s_Calendar_holidays, [], []⟩,
  ⟨fun K => He5.wf K (He.ga K "Calendar") "property" "months", "months", "Calendar.months", defArgs s_Calendar_months, defBody s_Calendar_months, defScope s_Calendar_months, [], []⟩,
  ⟨fun K => He5.wf K (He.ga K "Calendar") "property" "cycle_days", "cycle_days", "Calendar.cycle_days", defArgs s_Calendar_cycle_days, defBody s_Calendar_cycle_days, defScope s_Calendar_cycle_days, [], []⟩,
  ⟨fun K => He5.wf K (He.ga K "Calendar") "property" "period", "period", "Calendar.period", defArgs s_Calendar_period, defBody s_Calendar_period, defScope s_Calendar_period, [], []⟩,
  ⟨fun K => He.ma K (He.ga K "Calendar") "month_start", "month_start", "Calendar.month_start", defArgs s_Calendar_month_start, defBody s_Calendar_month_start, defScope s_Calendar_month_start, [], []⟩,
  ⟨fun K => He.ma K (He.ga K "Calendar") "month_number", "month_number", "Calendar.month_number", defArgs s_Calendar_month_number, defBody s_Calendar_month_number, defScope s_Calendar_month_number, [], []⟩,
  ⟨fun K => He.ma K (He.ga K "Calendar") "parts", "parts", "Calendar.parts", defArgs s_Calendar_parts, defBody s_Calendar_parts, defScope s_Calendar_parts, [], []⟩,
  ⟨fun K => He.ma K (He.ga K "Calendar") "weekday", "weekday", "Calendar.weekday", defArgs s_Calendar_weekday, defBody s_Calendar_weekday, defScope s_Calendar_weekday, [], []⟩,
  ⟨fun K => He.ma K (He.ga K "Calendar") "is_work", "is_work", "Calendar.is_work", defArgs s_Calendar_is_work, defBody s_Calendar_is_work, defScope s_Calendar_is_work, [], []⟩,
  ⟨fun K => He.ga K "is_integer", "is_integer", "is_integer", defArgs s_is_integer, defBody s_is_integer, defScope s_is_integer, [], []⟩,
  ⟨fun K => He.ga K "common_divisor", "common_divisor", "common_divisor", defArgs s_common_divisor, defBody s_common_divisor, defScope s_common_divisor, [], []⟩,
  ⟨fun K => He.ga K "common_multiple", "common_multiple", "common_multiple", defArgs s_common_multiple, defBody s_common_multiple, defScope s_common_multiple, [], []⟩,
  ⟨fun K => He.ga K "is_row", "is_row", "is_row", defArgs s_is_row, defBody s_is_row, defScope s_is_row, [], []⟩,
  ⟨fun K => He.ga K "is_between", "is_between", "is_between", defArgs s_is_between, defBody s_is_between, defScope s_is_between, [], []⟩,
  ⟨fun K => He.ga K "are_years", "are_years", "are_years", defArgs s_are_years, defBody s_are_years, defScope s_are_years, [], []⟩,
  ⟨fun K => He.ga K "are_weekdays", "are_weekdays", "are_weekdays", defArgs s_are_weekdays, defBody s_are_weekdays, defScope s_are_weekdays, [], []⟩,
  ⟨fun K => He.ga K "are_holidays", "are_holidays", "are_holidays", defArgs s_are_holidays, defBody s_are_holidays, defScope s_are_holidays, [], []⟩,
  ⟨fun K => He.ga K "month_starts", "month_starts", "month_starts", defArgs s_month_starts, defBody s_month_starts, defScope s_month_starts, [], []⟩,
  ⟨fun K => He.ga K "month_at", "month_at", "month_at", defArgs s_month_at, defBody s_month_at, defScope s_month_at, [], []⟩,
  ⟨fun K => He.ga K "_law_pen", "_law_pen", "_law_pen", defArgs s__law_pen, defBody s__law_pen, defScope s__law_pen, [], []⟩,
  ⟨fun K => He.ga K "_law_draw", "_law_draw", "_law_draw", defArgs s__law_draw, defBody s__law_draw, defScope s__law_draw, [], []⟩,
  ⟨fun K => He.ga K "_law_pick", "_law_pick", "_law_pick", defArgs s__law_pick, defBody s__law_pick, defScope s__law_pick, [], []⟩,
  ⟨fun K => He.ga K "_law_shuffled", "_law_shuffled", "_law_shuffled", defArgs s__law_shuffled, defBody s__law_shuffled, defScope s__law_shuffled, [], []⟩,
  ⟨fun K => He.ga K "_law_gcd", "_law_gcd", "_law_gcd", defArgs s__law_gcd, defBody s__law_gcd, defScope s__law_gcd, [], []⟩,
  ⟨fun K => He.ga K "_law_plain", "_law_plain", "_law_plain", defArgs s__law_plain, defBody s__law_plain, defScope s__law_plain, [], []⟩,
  ⟨fun K => He.ga K "_law_with_days", "_law_with_days", "_law_with_days", defArgs s__law_with_days, defBody s__law_with_days, defScope s__law_with_days, [], []⟩,
  ⟨fun K => He.ga K "_law_facts", "_law_facts", "_law_facts", defArgs s__law_facts, defBody s__law_facts, defScope s__law_facts, [], []⟩,
  ⟨fun K => He.ga K "_law_weekday", "_law_weekday", "_law_weekday", defArgs s__law_weekday, defBody s__law_weekday, defScope s__law_weekday, [], []⟩,
  ⟨fun K => He.ga K "_law_is_work", "_law_is_work", "_law_is_work", defArgs s__law_is_work, defBody s__law_is_work, defScope s__law_is_work, [], []⟩,
  ⟨fun K => He.ga K "_law_shown", "_law_shown", "_law_shown", defArgs s__law_shown, defBody s__law_shown, defScope s__law_shown, [], []⟩,
  ⟨fun K => He.ga K "_law_due", "_law_due", "_law_due", defArgs s__law_due, defBody s__law_due, defScope s__law_due, [], []⟩,
  ⟨fun K => He.ga K "law", "law", "law", defArgs s_law, defBody s_law, defScope s_law, [], []⟩]
abbrev Tx (K : Fg) (mg : Str → Option Value) : Prop := TxOf facts defs K mg
section
variable {K : Fg} {mg : Str → Option Value}
theorem Tx.g_is_integer (T : Tx K mg) : mg "is_integer" = some (.ref (He.ga K "is_integer")) := T.glo (T.fact 0)
theorem Tx.g_common_divisor (T : Tx K mg) : mg "common_divisor" = some (.ref (He.ga K "common_divisor")) := T.glo (T.fact 1)
theorem Tx.g_common_multiple (T : Tx K mg) : mg "common_multiple" = some (.ref (He.ga K "common_multiple")) := T.glo (T.fact 2)
theorem Tx.g_is_row (T : Tx K mg) : mg "is_row" = some (.ref (He.ga K "is_row")) := T.glo (T.fact 3)
theorem Tx.g_is_between (T : Tx K mg) : mg "is_between" = some (.ref (He.ga K "is_between")) := T.glo (T.fact 4)
theorem Tx.g_are_years (T : Tx K mg) : mg "are_years" = some (.ref (He.ga K "are_years")) := T.glo (T.fact 5)
theorem Tx.g_are_weekdays (T : Tx K mg) : mg "are_weekdays" = some (.ref (He.ga K "are_weekdays")) := T.glo (T.fact 6)
theorem Tx.g_are_holidays (T : Tx K mg) : mg "are_holidays" = some (.ref (He.ga K "are_holidays")) := T.glo (T.fact 7)
theorem Tx.g_month_starts (T : Tx K mg) : mg "month_starts" = some (.ref (He.ga K "month_starts")) := T.glo (T.fact 8)
theorem Tx.g_month_at (T : Tx K mg) : mg "month_at" = some (.ref (He.ga K "month_at")) := T.glo (T.fact 9)
theorem Tx.g__law_pen (T : Tx K mg) : mg "_law_pen" = some (.ref (He.ga K "_law_pen")) := T.glo (T.fact 10)
theorem Tx.g__law_draw (T : Tx K mg) : mg "_law_draw" = some (.ref (He.ga K "_law_draw")) := T.glo (T.fact 11)
theorem Tx.g__law_pick (T : Tx K mg) : mg "_law_pick" = some (.ref (He.ga K "_law_pick")) := T.glo (T.fact 12)
theorem Tx.g__law_shuffled (T : Tx K mg) : mg "_law_shuffled" = some (.ref (He.ga K "_law_shuffled")) := T.glo (T.fact 13)
theorem Tx.g__law_gcd (T : Tx K mg) : mg "_law_gcd" = some (.ref (He.ga K "_law_gcd")) := T.glo (T.fact 14)
theorem Tx.g__law_plain (T : Tx K mg) : mg "_law_plain" = some (.ref (He.ga K "_law_plain")) := T.glo (T.fact 15)
theorem Tx.g__law_with_days (T : Tx K mg) : mg "_law_with_days" = some (.ref (He.ga K "_law_with_days")) := T.glo (T.fact 16)
theorem Tx.g__law_facts (T : Tx K mg) : mg "_law_facts" = some (.ref (He.ga K "_law_facts")) := T.glo (T.fact 17)
theorem Tx.g__law_weekday (T : Tx K mg) : mg "_law_weekday" = some (.ref (He.ga K "_law_weekday")) := T.glo (T.fact 18)
theorem Tx.g__law_is_work (T : Tx K mg) : mg "_law_is_work" = some (.ref (He.ga K "_law_is_work")) := T.glo (T.fact 19)
theorem Tx.g__law_shown (T : Tx K mg) : mg "_law_shown" = some (.ref (He.ga K "_law_shown")) := T.glo (T.fact 20)
theorem Tx.g__law_due (T : Tx K mg) : mg "_law_due" = some (.ref (He.ga K "_law_due")) := T.glo (T.fact 21)
theorem Tx.g_law (T : Tx K mg) : mg "law" = some (.ref (He.ga K "law")) := T.glo (T.fact 22)
theorem Tx.g_InvalidCalendar (T : Tx K mg) : mg "InvalidCalendar" = some (.ref (He.ga K "InvalidCalendar")) := T.glo (T.fact 23)
theorem Tx.g_InvalidText (T : Tx K mg) : mg "InvalidText" = some (.ref (He.ga K "InvalidText")) := T.glo (T.fact 24)
theorem Tx.g_Calendar (T : Tx K mg) : mg "Calendar" = some (.ref (He.ga K "Calendar")) := T.glo (T.fact 25)
theorem Tx.g_MAX_PERIOD (T : Tx K mg) : ∃ t, mg "MAX_PERIOD" = some (.int 200000 t) := T.int (T.fact 26)
theorem Tx.g_MAX_YEARS (T : Tx K mg) : ∃ t, mg "MAX_YEARS" = some (.int 400 t) := T.int (T.fact 27)
theorem Tx.g_MAX_MONTHS (T : Tx K mg) : ∃ t, mg "MAX_MONTHS" = some (.int 14 t) := T.int (T.fact 28)
theorem Tx.g_MAX_DAYS (T : Tx K mg) : ∃ t, mg "MAX_DAYS" = some (.int 40 t) := T.int (T.fact 29)
theorem Tx.g_MAX_WEEK (T : Tx K mg) : ∃ t, mg "MAX_WEEK" = some (.int 10 t) := T.int (T.fact 30)
theorem Tx.g_SHORT_PERIOD (T : Tx K mg) : ∃ t, mg "SHORT_PERIOD" = some (.int 2000 t) := T.int (T.fact 31)
theorem Tx.kw_init_rest (T : Tx K mg) (H : Hp) : SqT K H (My.kwAt (fun K => He.ma K (He.ga K "Calendar") "__init__") "rest" K) (([] : List Int).map V.int) := My.tupIA_ok (T.fact 32) H
theorem Tx.kw_init_holidays (T : Tx K mg) (H : Hp) : SqT K H (My.kwAt (fun K => He.ma K (He.ga K "Calendar") "__init__") "holidays" K) (([] : List Int).map V.int) := My.tupIA_ok (T.fact 33) H
theorem Tx.n_abs (T : Tx K mg) : mg "abs" = none := T.free (T.fact 34)
theorem Tx.n_all (T : Tx K mg) : mg "all" = none := T.free (T.fact 35)
theorem Tx.n_bool (T : Tx K mg) : mg "bool" = none := T.free (T.fact 36)
theorem Tx.n_int (T : Tx K mg) : mg "int" = none := T.free (T.fact 37)
theorem Tx.n_isinstance (T : Tx K mg) : mg "isinstance" = none := T.free (T.fact 38)
theorem Tx.n_len (T : Tx K mg) : mg "len" = none := T.free (T.fact 39)
theorem Tx.n_list (T : Tx K mg) : mg "list" = none := T.free (T.fact 40)
theorem Tx.n_min (T : Tx K mg) : mg "min" = none := T.free (T.fact 41)
theorem Tx.n_property (T : Tx K mg) : mg "property" = none := T.free (T.fact 42)
theorem Tx.n_range (T : Tx K mg) : mg "range" = none := T.free (T.fact 43)
theorem Tx.n_repr (T : Tx K mg) : mg "repr" = none := T.free (T.fact 44)
theorem Tx.n_set (T : Tx K mg) : mg "set" = none := T.free (T.fact 45)
theorem Tx.n_sorted (T : Tx K mg) : mg "sorted" = none := T.free (T.fact 46)
theorem Tx.n_tuple (T : Tx K mg) : mg "tuple" = none := T.free (T.fact 47)
theorem Tx.cl_CA (T : Tx K mg) : Cls K (CA K) := He.cls_ok (x := "Calendar") (T.fact 48)
theorem Tx.no_CA_all_years (T : Tx K mg) : NoAttr K (CA K) "all_years" := He.noat_ok (x := "Calendar") (T.fact 49)
theorem Tx.no_CA_days_of_week (T : Tx K mg) : NoAttr K (CA K) "days_of_week" := He.noat_ok (x := "Calendar") (T.fact 50)
theorem Tx.no_CA_begins (T : Tx K mg) : NoAttr K (CA K) "begins" := He.noat_ok (x := "Calendar") (T.fact 51)
theorem Tx.no_CA_rests (T : Tx K mg) : NoAttr K (CA K) "rests" := He.noat_ok (x := "Calendar") (T.fact 52)
theorem Tx.no_CA_free_days (T : Tx K mg) : NoAttr K (CA K) "free_days" := He.noat_ok (x := "Calendar") (T.fact 53)
theorem Tx.no_CA_lengths (T : Tx K mg) : NoAttr K (CA K) "lengths" := He.noat_ok (x := "Calendar") (T.fact 54)
theorem Tx.no_CA_starts (T : Tx K mg) : NoAttr K (CA K) "starts" := He.noat_ok (x := "Calendar") (T.fact 55)
theorem Tx.no_CA_turn (T : Tx K mg) : NoAttr K (CA K) "turn" := He.noat_ok (x := "Calendar") (T.fact 56)
theorem Tx.no_CA_works (T : Tx K mg) : NoAttr K (CA K) "works" := He.noat_ok (x := "Calendar") (T.fact 57)
theorem Tx.mk_CA (T : Tx K mg) : Mk K (CA K) (He.ma K (CA K) "__init__") := He.mkr_ok (x := "Calendar") (T.fact 58)
theorem Tx.ty_CA (T : Tx K mg) {H : Hp} {a dx : Addr} {fs : List (Str × V)} (e : H a = some (.ins (CA K) dx fs)) : TyX K H (.ref a) (.ref (CA K)) := tyB_ok (C := "Calendar") (T.fact 59) T.cl_CA e
theorem Tx.fst_CA (T : Tx K mg) : PySem.W.selfFirst K (CA K) = true ∧ PySem.W.notFirst K (CA K) (.ref (CA K)) = true := He.ba (T.fact 60)
theorem Tx.isi_CA_Calendar (T : Tx K mg) : PySem.W.kitOne K (.ref (CA K)) (.ref (He.ga K "Calendar")) = some true := isiB_ok (C := "Calendar") (D := "Calendar") (T.fact 61)
theorem Tx.ne_CA (T : Tx K mg) : PySem.W.findIn K (.ref (CA K)) "__ne__" = some (some (.builtin "object.__ne__")) ∧ PySem.W.mroIn K (CA K) (.type "object") = some true := neB_ok (C := "Calendar") (T.fact 62)
theorem Tx.oth_CA (T : Tx K mg) : ∀ S ∈ tys, PySem.W.kitOne K (.type S) (.ref (He.ga K "Calendar")) = some false ∧ PySem.W.notFirst K (CA K) (.type S) = true := othB_ok (C := "Calendar") (D := "Calendar") (T.fact 63)
theorem Tx.sp_CA_eq (T : Tx K mg) : PySem.W.findIn K (.ref (CA K)) "__eq__" = some (some (.ref (He.ma K (CA K) "__eq__"))) ∧ PySem.W.isFn K (.ref (He.ma K (CA K) "__eq__")) = true := spB_ok (C := "Calendar") (T.fact 64)
theorem Tx.me_CA_facts (T : Tx K mg) : Meth K (CA K) "facts" (He.ma K (CA K) "facts") := He.meth_ok (x := "Calendar") (T.fact 65)
theorem Tx.me_CA_first_works (T : Tx K mg) : Meth K (CA K) "first_works" (He.ma K (CA K) "first_works") := He.meth_ok (x := "Calendar") (T.fact 66)
theorem Tx.pr_CA_years (T : Tx K mg) : PropOf K (CA K) "years" (He.ma K (CA K) "years") (He5.wf K (CA K) "property" "years") := propB_ok (C := "Calendar") (T.fact 67)
theorem Tx.pr_CA_week (T : Tx K mg) : PropOf K (CA K) "week" (He.ma K (CA K) "week") (He5.wf K (CA K) "property" "week") := propB_ok (C := "Calendar") (T.fact 68)
theorem Tx.pr_CA_first (T : Tx K mg) : PropOf K (CA K) "first" (He.ma K (CA K) "first") (He5.wf K (CA K) "property" "first") := propB_ok (C := "Calendar") (T.fact 69)
theorem Tx.pr_CA_rest (T : Tx K mg) : PropOf K (CA K) "rest" (He.ma K (CA K) "rest") (He5.wf K (CA K) "property" "rest") := propB_ok (C := "Calendar") (T.fact 70)
theorem Tx.pr_CA_holidays (T : Tx K mg) : PropOf K (CA K) "holidays" (He.ma K (CA K) "holidays") (He5.wf K (CA K) "property" "holidays") := propB_ok (C := "Calendar") (T.fact 71)
theorem Tx.pr_CA_months (T : Tx K mg) : PropOf K (CA K) "months" (He.ma K (CA K) "months") (He5.wf K (CA K) "property" "months") := propB_ok (C := "Calendar") (T.fact 72)
theorem Tx.pr_CA_cycle_days (T : Tx K mg) : PropOf K (CA K) "cycle_days" (He.ma K (CA K) "cycle_days") (He5.wf K (CA K) "property" "cycle_days") := propB_ok (C := "Calendar") (T.fact 73)
theorem Tx.pr_CA_period (T : Tx K mg) : PropOf K (CA K) "period" (He.ma K (CA K) "period") (He5.wf K (CA K) "property" "period") := propB_ok (C := "Calendar") (T.fact 74)
theorem Tx.me_CA_month_start (T : Tx K mg) : Meth K (CA K) "month_start" (He.ma K (CA K) "month_start") := He.meth_ok (x := "Calendar") (T.fact 75)
theorem Tx.me_CA_month_number (T : Tx K mg) : Meth K (CA K) "month_number" (He.ma K (CA K) "month_number") := He.meth_ok (x := "Calendar") (T.fact 76)
theorem Tx.me_CA_parts (T : Tx K mg) : Meth K (CA K) "parts" (He.ma K (CA K) "parts") := He.meth_ok (x := "Calendar") (T.fact 77)
theorem Tx.me_CA_weekday (T : Tx K mg) : Meth K (CA K) "weekday" (He.ma K (CA K) "weekday") := He.meth_ok (x := "Calendar") (T.fact 78)
theorem Tx.me_CA_is_work (T : Tx K mg) : Meth K (CA K) "is_work" (He.ma K (CA K) "is_work") := He.meth_ok (x := "Calendar") (T.fact 79)
theorem Tx.kp_Calendaru_equ (T : Tx K mg) : PySem.W.keepIn K (.ref ((fun K => He.ma K (He.ga K "Calendar") "__eq__") K)) = true := T.kp 1 (st := s_Calendaru_equ) rfl
theorem Tx.kp_Calendar_facts (T : Tx K mg) : PySem.W.keepIn K (.ref ((fun K => He.ma K (He.ga K "Calendar") "facts") K)) = true := T.kp 2 (st := s_Calendar_facts) rfl
theorem Tx.kp_Calendar_first_works (T : Tx K mg) : PySem.W.keepIn K (.ref ((fun K => He.ma K (He.ga K "Calendar") "first_works") K)) = true := T.kp 3 (st := s_Calendar_first_works) rfl
theorem Tx.kp_Calendar_years (T : Tx K mg) : PySem.W.keepIn K (.ref ((fun K => He5.wf K (He.ga K "Calendar") "property" "years") K)) = true := T.kp 4 (st := s_Calendar_years) rfl
theorem Tx.kp_Calendar_week (T : Tx K mg) : PySem.W.keepIn K (.ref ((fun K => He5.wf K (He.ga K "Calendar") "property" "week") K)) = true := T.kp 5 (st := s_Calendar_week) rfl
theorem Tx.kp_Calendar_first (T : Tx K mg) : PySem.W.keepIn K (.ref ((fun K => He5.wf K (He.ga K "Calendar") "property" "first") K)) = true := T.kp 6 (st := s_Calendar_first) rfl
theorem Tx.kp_Calendar_rest (T : Tx K mg) : PySem.W.keepIn K (.ref ((fun K => He5.wf K (He.ga K "Calendar") "property" "rest") K)) = true := T.kp 7 (st := s_Calendar_rest) rfl
theorem Tx.kp_Calendar_holidays (T : Tx K mg) : PySem.W.keepIn K (.ref ((fun K => He5.wf K (He.ga K "Calendar") "property" "holidays") K)) = true := T.kp 8 (st := s_Calendar_holidays) rfl
theorem Tx.kp_Calendar_months (T : Tx K mg) : PySem.W.keepIn K (.ref ((fun K => He5.wf K (He.ga K "Calendar") "property" "months") K)) = true := T.kp 9 (st := s_Calendar_months) rfl
theorem Tx.kp_Calendar_cycle_days (T : Tx K mg) : PySem.W.keepIn K (.ref ((fun K => He5.wf K (He.ga K "Calendar") "property" "cycle_days") K)) = true := T.kp 10 (st := s_Calendar_cycle_days) rfl
theorem Tx.kp_Calendar_period (T : Tx K mg) : PySem.W.keepIn K (.ref ((fun K => He5.wf K (He.ga K "Calendar") "property" "period") K)) = true := T.kp 11 (st := s_Calendar_period) rfl
theorem Tx.kp_Calendar_month_start (T : Tx K mg) : PySem.W.keepIn K (.ref ((fun K => He.ma K (He.ga K "Calendar") "month_start") K)) = true := T.kp 12 (st := s_Calendar_month_start) rfl
theorem Tx.kp_Calendar_month_number (T : Tx K mg) : PySem.W.keepIn K (.ref ((fun K => He.ma K (He.ga K "Calendar") "month_number") K)) = true := T.kp 13 (st := s_Calendar_month_number) rfl
theorem Tx.kp_Calendar_parts (T : Tx K mg) : PySem.W.keepIn K (.ref ((fun K => He.ma K (He.ga K "Calendar") "parts") K)) = true := T.kp 14 (st := s_Calendar_parts) rfl
theorem Tx.kp_Calendar_weekday (T : Tx K mg) : PySem.W.keepIn K (.ref ((fun K => He.ma K (He.ga K "Calendar") "weekday") K)) = true := T.kp 15 (st := s_Calendar_weekday) rfl
theorem Tx.kp_Calendar_is_work (T : Tx K mg) : PySem.W.keepIn K (.ref ((fun K => He.ma K (He.ga K "Calendar") "is_work") K)) = true := T.kp 16 (st := s_Calendar_is_work) rfl
theorem Tx.kp_is_integer (T : Tx K mg) : PySem.W.keepIn K (.ref ((fun K => He.ga K "is_integer") K)) = true := T.kp 17 (st := s_is_integer) rfl
theorem Tx.kp_common_divisor (T : Tx K mg) : PySem.W.keepIn K (.ref ((fun K => He.ga K "common_divisor") K)) = true := T.kp 18 (st := s_common_divisor) rfl
theorem Tx.kp_common_multiple (T : Tx K mg) : PySem.W.keepIn K (.ref ((fun K => He.ga K "common_multiple") K)) = true := T.kp 19 (st := s_common_multiple) rfl
theorem Tx.kp_is_row (T : Tx K mg) : PySem.W.keepIn K (.ref ((fun K => He.ga K "is_row") K)) = true := T.kp 20 (st := s_is_row) rfl
theorem Tx.kp_is_between (T : Tx K mg) : PySem.W.keepIn K (.ref ((fun K => He.ga K "is_between") K)) = true := T.kp 21 (st := s_is_between) rfl
theorem Tx.kp_are_years (T : Tx K mg) : PySem.W.keepIn K (.ref ((fun K => He.ga K "are_years") K)) = true := T.kp 22 (st := s_are_years) rfl
theorem Tx.kp_are_weekdays (T : Tx K mg) : PySem.W.keepIn K (.ref ((fun K => He.ga K "are_weekdays") K)) = true := T.kp 23 (st := s_are_weekdays) rfl
theorem Tx.kp_are_holidays (T : Tx K mg) : PySem.W.keepIn K (.ref ((fun K => He.ga K "are_holidays") K)) = true := T.kp 24 (st := s_are_holidays) rfl
theorem Tx.kp_month_starts (T : Tx K mg) : PySem.W.keepIn K (.ref ((fun K => He.ga K "month_starts") K)) = true := T.kp 25 (st := s_month_starts) rfl
theorem Tx.kp_month_at (T : Tx K mg) : PySem.W.keepIn K (.ref ((fun K => He.ga K "month_at") K)) = true := T.kp 26 (st := s_month_at) rfl
theorem Tx.kp__law_pen (T : Tx K mg) : PySem.W.keepIn K (.ref ((fun K => He.ga K "_law_pen") K)) = true := T.kp 27 (st := s__law_pen) rfl
theorem Tx.kp__law_draw (T : Tx K mg) : PySem.W.keepIn K (.ref ((fun K => He.ga K "_law_draw") K)) = true := T.kp 28 (st := s__law_draw) rfl
theorem Tx.kp__law_pick (T : Tx K mg) : PySem.W.keepIn K (.ref ((fun K => He.ga K "_law_pick") K)) = true := T.kp 29 (st := s__law_pick) rfl
theorem Tx.kp__law_shuffled (T : Tx K mg) : PySem.W.keepIn K (.ref ((fun K => He.ga K "_law_shuffled") K)) = true := T.kp 30 (st := s__law_shuffled) rfl
theorem Tx.kp__law_gcd (T : Tx K mg) : PySem.W.keepIn K (.ref ((fun K => He.ga K "_law_gcd") K)) = true := T.kp 31 (st := s__law_gcd) rfl
theorem Tx.kp__law_plain (T : Tx K mg) : PySem.W.keepIn K (.ref ((fun K => He.ga K "_law_plain") K)) = true := T.kp 32 (st := s__law_plain) rfl
theorem Tx.kp__law_with_days (T : Tx K mg) : PySem.W.keepIn K (.ref ((fun K => He.ga K "_law_with_days") K)) = true := T.kp 33 (st := s__law_with_days) rfl
theorem Tx.kp__law_facts (T : Tx K mg) : PySem.W.keepIn K (.ref ((fun K => He.ga K "_law_facts") K)) = true := T.kp 34 (st := s__law_facts) rfl
theorem Tx.kp__law_weekday (T : Tx K mg) : PySem.W.keepIn K (.ref ((fun K => He.ga K "_law_weekday") K)) = true := T.kp 35 (st := s__law_weekday) rfl
theorem Tx.kp__law_is_work (T : Tx K mg) : PySem.W.keepIn K (.ref ((fun K => He.ga K "_law_is_work") K)) = true := T.kp 36 (st := s__law_is_work) rfl
theorem Tx.kp__law_shown (T : Tx K mg) : PySem.W.keepIn K (.ref ((fun K => He.ga K "_law_shown") K)) = true := T.kp 37 (st := s__law_shown) rfl
theorem Tx.kp__law_due (T : Tx K mg) : PySem.W.keepIn K (.ref ((fun K => He.ga K "_law_due") K)) = true := T.kp 38 (st := s__law_due) rfl
theorem Tx.kp_law (T : Tx K mg) : PySem.W.keepIn K (.ref ((fun K => He.ga K "law") K)) = true := T.kp 39 (st := s_law) rfl
end
end Lw

section
set_option maxHeartbeats 0
namespace Hd
open PySem PySem.W PySem.Calls PyProof.Rows
abbrev R : OpenRow := OpenLaw.row PySem.Challenge.rw_dayrecipes_k01_calendars_made
def loose : List PySem.Str := (["_wall", "InvalidCalendar", "InvalidText", "MAX_PERIOD", "MAX_YEARS", "MAX_MONTHS", "MAX_DAYS", "MAX_WEEK", "DIGITS", "number_in", "bounded_in", "calendar_text", "week_in", "numbers_in", "rest_in", "holiday_in", "year_in", "read_calendar", "is_integer", "common_divisor"] : List PySem.Str) ++ (["common_multiple", "SHORT_PERIOD", "is_row", "is_between", "are_years", "are_weekdays", "are_holidays", "month_starts", "month_at", "Calendar", "_law_pen", "_law_draw", "_law_pick", "_law_shuffled", "_law_gcd", "_law_plain", "_law_with_days", "_law_facts", "_law_weekday", "_law_is_work"] : List PySem.Str) ++ (["_law_shown", "_law_due"] : List PySem.Str)
def names : List PySem.Str := (["is_integer", "common_divisor", "common_multiple", "is_row", "is_between", "are_years", "are_weekdays", "are_holidays", "month_starts", "month_at", "_law_pen", "_law_draw", "_law_pick", "_law_shuffled", "_law_gcd", "_law_plain", "_law_with_days", "_law_facts", "_law_weekday", "_law_is_work"] : List PySem.Str) ++ (["_law_shown", "_law_due", "law", "InvalidCalendar", "Calendar"] : List PySem.Str)
abbrev hk : Hook := My.hookX names 6 Lw.facts Lw.defs
def ob (s : SharedT) : He.AlD := My.seeG names 6 Lw.facts Lw.defs (HandSHeadRun.getT s)
theorem ob_eq (s : SharedT) : ob s = hk.obs s.abs := My.seeG_eq (HandSHeadRun.getT_eq s)
theorem run (w : World) : HandSHeadRun.RunEq R (view R.prog [47]) hk ob 20000 loose w := by
  intro os
  kernel_rfl
end Hd
end
set_option maxHeartbeats 4000000

namespace Lw
open PySem PySem.Spec PyProof.Rows L2 My
def optV : Option Int → V
  | none => .non
  | some t => .int t
theorem optV_non {o : Option Int} : decide (optV o = V.non) = o.isNone := by
  cases o <;> simp [optV]
theorem max_if (a b : Int) : (if b > a then b else a) = max a b := by
  split <;> omega
theorem min_if (a b : Int) : (if b < a then b else a) = min a b := by
  split <;> omega
/-- a dict of ints -/
def DictI (kvs : List (Key × V)) (val : Int → Option Int) : Prop := ∀ r : Int, valV kvs (.inl r) = (val r).map V.int
theorem DictI.put {kvs : List (Key × V)} {val : Int → Option Int} (h : DictI kvs val) (q s : Int) : DictI (putK kvs (.inl q) (.int s)) (fun r => if r = q then some s else val r) := by
  intro r
  rw [valV_put]
  by_cases e : r = q
  · subst e
    simp
  · have : ¬ (Sum.inl r : Key) = Sum.inl q := fun z => e (Sum.inl.inj z)
    rw [if_neg this]
    show _ = (if r = q then some s else val r).map V.int
    rw [if_neg e]
    exact h r
section
variable {K : Fg}
/-- a list or a tuple of ints -/
def SeqI (H : Hp) (a : Addr) (o : List Int) : Prop := H a = some (.lst (o.map V.int)) ∨ H a = some (.tup (o.map V.int))
theorem seqI_same {H H' : Hp} {a : Addr} {o : List Int} (h : SeqI H a o) (s : Same H H') : SeqI H' a o := h.elim (fun h => .inl (s _ _ h)) fun h => .inr (s _ _ h)
theorem seqI_sq {K : Fg} {H : Hp} {a : Addr} {o : List Int} (h : SeqI H a o) : SqL K H a (o.map V.int) ∨ SqT K H a (o.map V.int) := h.elim (fun h => .inl (SqL.of h)) fun h => .inr (SqT.of h)
theorem kit_list : PySem.W.kitAny K (.type "list") [.type "list", .type "tuple"] = some true := kitAny_cons (b := true) (kit_ty (by decide +kernel)) (fun h => nomatch h) (fun _ => rfl)
theorem kit_tuple : PySem.W.kitAny K (.type "tuple") [.type "list", .type "tuple"] = some true :=
  kitAny_cons (b := false) (kit_ty (by decide +kernel)) (fun _ => kitAny_cons (b := true) (kit_ty (by decide +kernel)) (fun h => nomatch h) (fun _ => rfl)) (fun h => nomatch h)
theorem seqI_ty {H : Hp} {a : Addr} {o : List Int} (h : SeqI H a o) : ∃ t, TyX K H (.ref a) t ∧ PySem.W.kitAny K t [.type "list", .type "tuple"] = some true :=
  h.elim (fun h => ⟨_, .base (.lst h), kit_list⟩) fun h => ⟨_, .base (.tup h), kit_tuple⟩
end
end Lw

namespace Lw
open PySem PySem.Spec PyProof.Rows L2 My
section
variable {P : Program} {w : World} {K : Fg} {mg : Str → Option Value} {base : Heap}
def sp_is_integer : Sp := fun vs H Q _ => ∃ i : Int, vs = [.int i] ∧ Q (.bl true) H
theorem ok_is_integer (T : Tx K mg) : FnR P w K mg base CX0 1 (He.ga K "is_integer") sp_is_integer := by
  refine (T.fnR 17 (st := s_is_integer) (at_ := fun K => He.ga K "is_integer") rfl sc_is_integer (fun _ _ _ _ _ _ us hl => match us, hl with | [_], _ => rfl)) (fun vs H Q E h => ?_) (fun cdv A outer s H vs Q E hr h => ?_)
  · obtain ⟨i, rfl, _⟩ := h
    rfl
  · obtain ⟨i, rfl, q⟩ := h
    refine ⟨_, (pss_one (ps_ret (pe_and (pe_callB (isi_k T) (by rfl) T.n_isinstance (by decide +kernel) (pa_cons (pv 0) (pa_cons (pe_bltn (v := .ty "int") (u := .type "int") rfl T.n_int (by decide +kernel) rfl) pa_nil))) (pe_one (pe_not (pe_callB (isi_k T) (by rfl) T.n_isinstance (by decide +kernel) (pa_cons (pv 0) (pa_cons (pe_bltn (v := .ty "bool") (u := .type "bool") rfl T.n_bool (by decide +kernel) rfl) pa_nil)))))))), ?_⟩
    refine ⟨_, rfl, _, _, _, _, true, rfl, .ty "int", .base (.int i), kit_ty (by decide +kernel), _, rfl, iteT ?_⟩
    exact ⟨_, rfl, _, _, _, _, false, rfl, .ty "bool", .base (.int i), kit_ty (by decide +kernel), _, rfl, q⟩
theorem c_is_integer {X : Cx} {k : Nat} {t : TA} {e : Expr} {es : List Expr} {np pos : Pos} (T : Tx K mg) (hr : Room k X.A) (ha : PA X (e :: es) t) (hk : 1 ≤ k := by decide) (hK : X.K = K := by rfl) (hm : X.mg = mg := by rfl)
    (hg : Gl X "is_integer" := by rfl) (hse : starEach (e :: es) X.env = (false, eval e X.env) :: starEach es X.env := by rfl) (hpl : (backTo pos (starEach es X.env)).any (·.1) = false := by rfl) :
    PE X (.Call (.Name "is_integer" np) (e :: es) [] pos) (tFn sp_is_integer E0 t) := by
  subst hK
  subst hm
  exact pe_fR (ok_is_integer T) T.kp_is_integer T.g_is_integer (hr.mono hk) pass0 ha hg (by decide) hse hpl
def sp_common_divisor : Sp := fun vs H Q _ => ∃ a b : Nat, vs = [.int (a : Int), .int (b : Int)] ∧ Q (.int (Nat.gcd a b : Nat)) H
theorem ok_common_divisor (T : Tx K mg) : FnR P w K mg base CX0 1 (He.ga K "common_divisor") sp_common_divisor := by
  refine (T.fnR 18 (st := s_common_divisor) (at_ := fun K => He.ga K "common_divisor") rfl sc_common_divisor (fun _ _ _ _ _ _ us hl => match us, hl with | [_, _], _ => rfl)) (fun vs H Q E h => ?_) (fun cdv A outer s H vs Q E hr h => ?_)
  · obtain ⟨a, b, rfl, _⟩ := h
    rfl
  · obtain ⟨a, b, rfl, q⟩ := h
    refine ⟨_, (pss_cons (ps_par (i := 0) (j := 1) (by rfl) sc_common_divisor.nd rfl rfl (by decide) rfl rfl (pa_cons (pe_callB call_abs (by rfl) T.n_abs (by decide +kernel) (pa_cons (pv 0) pa_nil)) (pa_cons (pe_callB call_abs (by rfl) T.n_abs (by decide +kernel) (pa_cons (pv 1) pa_nil)) pa_nil)) (by rfl))
 (pss_cons (ps_while PassesOwn.never (pt_cmpR op_gt (pv 1) pe_int (nomark _))
 (pss_one (ps_par (i := 0) (j := 1) (by rfl) sc_common_divisor.nd rfl rfl (by decide) rfl rfl (pa_cons (pv 1) (pa_cons (pe_op op_mod (pv 0) (pv 1)) pa_nil)) (by rfl))))
 (pss_one (ps_ret (pv 0))))), ?_⟩
    refine ⟨_, rfl, _, rfl, _, rfl, _, rfl, _, _, rfl, ?_⟩
    refine ⟨fun m σ H' => ∃ x y : Nat, σ = [some (.int (x : Int)), some (.int (y : Int))] ∧ H' = H ∧ Nat.gcd x y = Nat.gcd a b ∧ m = y, ⟨b, a, b, ?_, rfl, rfl, rfl⟩, ?_⟩
    · rw [abs_nat, abs_nat]
      rfl
    · rintro m σ H' ⟨x, y, rfl, rfl, hg, rfl⟩
      refine ⟨_, rfl, _, _, rfl, rfl, _, rfl, ?_⟩
      refine ite2 (fun hc => wh_go ?_) (fun hc => ?_)
      · have hy : 0 < m := by
          have := of_decide_eq_true hc
          omega
        refine ⟨_, rfl, _, rfl, _, rfl, _, _, rfl, rfl, (by show (0 : Int) < (m : Int); omega), _, _, rfl, ?_⟩
        refine ⟨x % m, Nat.mod_lt _ hy, m, x % m, ?_, rfl, ?_, rfl⟩
        · show [some (V.int (m : Int)), some (V.int ((x : Int) % (m : Int)))] = _
          rw [Int.natCast_emod]
        · rw [← hg, Nat.gcd_comm x m, Nat.gcd_rec m x]
          exact Nat.gcd_comm _ _
      · have hy : m = 0 := by
          have := of_decide_eq_false (Bool.eq_false_iff.mpr hc)
          omega
        subst hy
        refine ⟨_, rfl, ?_⟩
        rw [Nat.gcd_zero_right] at hg
        rw [hg]
        exact q
theorem c_common_divisor {X : Cx} {k : Nat} {t : TA} {e : Expr} {es : List Expr} {np pos : Pos} (T : Tx K mg) (hr : Room k X.A) (ha : PA X (e :: es) t) (hk : 1 ≤ k := by decide) (hK : X.K = K := by rfl) (hm : X.mg = mg := by rfl)
    (hg : Gl X "common_divisor" := by rfl) (hse : starEach (e :: es) X.env = (false, eval e X.env) :: starEach es X.env := by rfl) (hpl : (backTo pos (starEach es X.env)).any (·.1) = false := by rfl) :
    PE X (.Call (.Name "common_divisor" np) (e :: es) [] pos) (tFn sp_common_divisor E0 t) := by
  subst hK
  subst hm
  exact pe_fR (ok_common_divisor T) T.kp_common_divisor T.g_common_divisor (hr.mono hk) pass0 ha hg (by decide) hse hpl
def sp_common_multiple : Sp := fun vs H Q _ => ∃ a b : Nat, vs = [.int (a : Int), .int (b : Int)] ∧ 0 < a ∧ 0 < b ∧ a ≤ 200000 ∧ b ≤ 200000 ∧ Q (.int (Nat.lcm a b : Nat)) H
theorem ok_common_multiple (T : Tx K mg) : FnR P w K mg base CX0 2 (He.ga K "common_multiple") sp_common_multiple := by
  refine (T.fnR 19 (st := s_common_multiple) (at_ := fun K => He.ga K "common_multiple") rfl sc_common_multiple (fun _ _ _ _ _ _ us hl => match us, hl with | [_, _], _ => rfl)) (fun vs H Q E h => ?_) (fun cdv A outer s H vs Q E hr h => ?_)
  · obtain ⟨a, b, rfl, _⟩ := h
    rfl
  · obtain ⟨a, b, rfl, ha, hb, la, lb, q⟩ := h
    refine ⟨_, (pss_one (ps_ret (pe_op op_mul (pe_op op_fdiv (pv 0) (c_common_divisor T hr (pa_cons (pv 0) (pa_cons (pv 1) pa_nil)))) (pv 1)))), ?_⟩
    have hg : 0 < Nat.gcd a b := Nat.gcd_pos_of_pos_left _ ha
    have hg2 : Nat.gcd a b ≤ a := Nat.gcd_le_left _ ha
    refine ⟨_, rfl, _, rfl, _, rfl, a, b, rfl, _, _, rfl, rfl, ⟨by omega, by omega⟩, _, rfl, _, _, rfl, rfl, .inr ⟨by omega, by omega⟩, ?_⟩
    have e : ((a : Int) / ((Nat.gcd a b : Nat) : Int)) * (b : Int) = ((Nat.lcm a b : Nat) : Int) := by
      rw [← Int.natCast_ediv, ← Int.natCast_mul, Nat.lcm, Nat.mul_comm (a / Nat.gcd a b) b, ← Nat.mul_div_assoc _ (Nat.gcd_dvd_left a b), Nat.mul_comm]
    show Q (.int (((a : Int) / ((Nat.gcd a b : Nat) : Int)) * (b : Int))) H
    rw [e]
    exact q
theorem c_common_multiple {X : Cx} {k : Nat} {t : TA} {e : Expr} {es : List Expr} {np pos : Pos} (T : Tx K mg) (hr : Room k X.A) (ha : PA X (e :: es) t) (hk : 2 ≤ k := by decide) (hK : X.K = K := by rfl) (hm : X.mg = mg := by rfl)
    (hg : Gl X "common_multiple" := by rfl) (hse : starEach (e :: es) X.env = (false, eval e X.env) :: starEach es X.env := by rfl) (hpl : (backTo pos (starEach es X.env)).any (·.1) = false := by rfl) :
    PE X (.Call (.Name "common_multiple" np) (e :: es) [] pos) (tFn sp_common_multiple E0 t) := by
  subst hK
  subst hm
  exact pe_fR (ok_common_multiple T) T.kp_common_multiple T.g_common_multiple (hr.mono hk) pass0 ha hg (by decide) hse hpl
end
end Lw

local macro_rules | `(tactic| fail "f") => `(tactic| first
  | assumption
  | (apply My.Same.use; (focus assumption); fail "f"))
local macro_rules | `(tactic| fail "a") => `(tactic| first
  | exact rfl
  | with_reducible assumption
  | ((with_reducible show (_ : Int) < _); omega)
  | ((with_reducible show (_ : Int) ≤ _); omega)
  | assumption
  | (show _ = some _; fail "f")
  | (apply L2.SqL.of; fail "f")
  | (apply L2.SqT.of; fail "f")
  | (apply Or.inl; apply L2.SqL.of; fail "f")
  | (apply Or.inr; apply L2.SqT.of; fail "f")
  | (show ∃ xs : List L2.V, L2.SqL _ _ _ xs; apply Exists.intro; apply L2.SqL.of; fail "f")
  | (show ∃ xs : List L2.V, L2.SqT _ _ _ xs; apply Exists.intro; apply L2.SqT.of; fail "f")
  | (apply Lw.Tx.cl_CA; assumption)
  | (show PySem.W.notFirst _ _ _ = true; apply And.right; apply Lw.Tx.fst_CA; assumption)
  | (apply Lw.Tx.no_CA_all_years; assumption)
  | (apply Lw.Tx.no_CA_days_of_week; assumption)
  | (apply Lw.Tx.no_CA_begins; assumption)
  | (apply Lw.Tx.no_CA_rests; assumption)
  | (apply Lw.Tx.no_CA_free_days; assumption)
  | (apply Lw.Tx.no_CA_lengths; assumption)
  | (apply Lw.Tx.no_CA_starts; assumption)
  | (apply Lw.Tx.no_CA_turn; assumption)
  | (apply Lw.Tx.no_CA_works; assumption)
  | (apply Or.inl; fail "f")
  | (apply Or.inr; fail "f")
  | (apply L2.at_of rfl; assumption)
  | (apply My.at_add; assumption)
  | (apply Or.inl; refine ⟨rfl, ?_⟩; apply Exists.intro; apply L2.SqL.of; fail "f")
  | exact L2.Same.refl _
  | (show L2.Same _ _; refine My.Same.via (by assumption) ?_; fail "a")
  | omega
  | decide
  | exact ⟨by omega, by omega⟩
  | (apply My.mulR; omega)
  | (apply My.mulL; omega)
  | (show 0 < List.length _; simp; done)
  | (show List.length _ ≤ _; simp; done)
  | (apply My.log10 (B := 60) (by decide); omega)
  | (apply My.sz; first | omega | (simp <;> omega))
  | (apply My.szl; first | omega | (simp <;> omega)))
local macro_rules | `(tactic| fail "c") => `(tactic| first
  | (apply Exists.intro; fail "c")
  | (apply And.intro; (focus fail "a")))
local macro_rules | `(tactic| rfl') => `(tactic| first
  | (fail "c"; rfl')
  | (intro p hp; generalize e : L2.upd _ _ _ = H'; (fail_if_success (refine @Exists.intro (Nat → _) _ ?_ ?_)); (have s := My.newS e hp); (have f := My.newO e); clear e; rfl')
  | (intro o H' (s : L2.Same _ _) ho; rfl')
  | (intro H' (s : L2.Same _ _); rfl')
  | ((with_reducible refine L2.iteT ?_); rfl')
  | ((with_reducible refine L2.iteF ?_); rfl')
  | skip)

--auto
namespace Lw
open PySem PySem.Spec PyProof.Rows L2 My
section
variable {P : Program} {w : World} {K : Fg} {mg : Str → Option Value} {base : Heap}
/-- a list or a tuple of anything -/
def SeqV (H : Hp) (a : Addr) (xs : List V) : Prop := H a = some (.lst xs) ∨ H a = some (.tup xs)
theorem SeqV.same {H H' : Hp} {a : Addr} {xs : List V} (h : SeqV H a xs) (s : Same H H') : SeqV H' a xs := h.elim (fun h => .inl (s _ _ h)) fun h => .inr (s _ _ h)
theorem SeqV.sq {H : Hp} {a : Addr} {xs : List V} (h : SeqV H a xs) : SqL K H a xs ∨ SqT K H a xs := h.elim (fun h => .inl (SqL.of h)) fun h => .inr (SqT.of h)
theorem SeqV.ty {H : Hp} {a : Addr} {xs : List V} (h : SeqV H a xs) : ∃ t, TyX K H (.ref a) t ∧ PySem.W.kitAny K t [.type "list", .type "tuple"] = some true :=
  h.elim (fun h => ⟨_, .base (.lst h), kit_list⟩) fun h => ⟨_, .base (.tup h), kit_tuple⟩
/-- a tuple among the constants -/
def KT (K : Fg) (a : Addr) (xs : List V) : Prop := ∃ (o : Obj) (its : Array Value) (n : Nat), K.lookup a = some o ∧ o.cls = .type "tuple" ∧ o.data = .seq its n ∧ its.size ≤ sizeLine ∧ Vals xs its.toList
def SeqK (K : Fg) (H : Hp) (a : Addr) (xs : List V) : Prop := SeqV H a xs ∨ KT K a xs
theorem SeqK.same {H H' : Hp} {a : Addr} {xs : List V} (h : SeqK K H a xs) (s : Same H H') : SeqK K H' a xs := h.elim (fun h => .inl (h.same s)) .inr
theorem SeqK.sq {H : Hp} {a : Addr} {xs : List V} (h : SeqK K H a xs) : SqL K H a xs ∨ SqT K H a xs := h.elim (fun h => h.sq) fun h => .inr (.inr h)
theorem SeqK.ty {H : Hp} {a : Addr} {xs : List V} (h : SeqK K H a xs) : ∃ t, TyX K H (.ref a) t ∧ PySem.W.kitAny K t [.type "list", .type "tuple"] = some true := by
  rcases h with h | ⟨o, its, n, h1, h2, _⟩
  · exact h.ty
  · exact ⟨_, .kTuple h1 h2, kit_tuple⟩
/-- the numbers of a row as values -/
def natV (l : Nat) : V := .int (l : Int)
/-- rows of numbers -/
def RowsV (H : Hp) (ts : List Addr) (rows : List (List Nat)) : Prop := Paired (fun t r => SeqV H t (r.map natV)) ts rows
theorem RowsV.len {H : Hp} {ts : List Addr} {rows : List (List Nat)} (h : RowsV H ts rows) : ts.length = rows.length := Paired.length h
theorem RowsV.same {H H' : Hp} (s : Same H H') : ∀ {ts : List Addr} {rows : List (List Nat)}, RowsV H ts rows → RowsV H' ts rows
  | _, _, .nil => .nil
  | _, _, .cons h t => .cons (h.same s) (RowsV.same s t)
theorem RowsV.get {H : Hp} : ∀ {ts : List Addr} {rows : List (List Nat)}, RowsV H ts rows → ∀ {i : Nat} {r : List Nat}, rows[i]? = some r → ∃ t, ts[i]? = some t ∧ SeqV H t (r.map natV)
  | _, _, .nil, _, _, h => by cases h
  | _, _, .cons h _, 0, _, e => by
    cases e
    exact ⟨_, rfl, h⟩
  | _, _, .cons _ t, i + 1, _, e => RowsV.get t (i := i) e
theorem RowsV.at {H : Hp} {ts : List Addr} {rows : List (List Nat)} (h : RowsV H ts rows) {i : Nat} {t : Addr} (e : ts[i]? = some t) : ∃ r, rows[i]? = some r ∧ SeqV H t (r.map natV) := by
  have hl := h.len
  have hi : i < rows.length := by
    rw [← hl]
    exact (List.getElem?_eq_some_iff.mp e).1
  obtain ⟨t', e', hs⟩ := h.get (List.getElem?_eq_getElem hi)
  rw [e] at e'
  cases e'
  exact ⟨_, List.getElem?_eq_getElem hi, hs⟩
theorem all_t {H : Hp} {D : Addr} {n : Nat} {f : Nat → V} (h : H D = some (.lst ((List.range n).map f))) (ht : ∀ i, i < n → f i = .bl true) : H D = some (.lst ((List.replicate n true).map V.bl)) := by
  rw [h]
  congr 2
  refine List.ext_getElem (by simp) fun i h1 h2 => ?_
  simp only [List.length_map, List.length_range] at h1
  simp [ht i h1]
theorem at_last {xs : List V} {n : Nat} {v : V} (l : xs.length = n + 1) (h : xs[n]? = some v) : atI xs (-1) = some v := by
  have e : ixN (n + 1) (-1) = some n := by
    unfold ixN
    rw [if_neg (by decide), if_pos (by omega)]
    congr 1
    omega
  unfold atI
  rw [l, e]
  exact h
theorem seq_goC {H : Hp} {a : Addr} {xs : List V} {R : It → Hp → Prop} (h : SqL K H a xs ∨ SqT K H a xs) (k : ∀ (J : It) (G : Hp → Prop), Walk J xs.length G (YAt xs) → (∀ H', Same H H' → G H') → R J H) :
    iSeqX K (V.ref a) H R := by
  rcases h with h | h
  · exact ⟨a, rfl, .inl ⟨xs, h, k _ _ walk_list fun H' s => s.seq h⟩⟩
  · exact ⟨a, rfl, .inr ⟨xs, h, k _ _ walk_tup fun H' s => same_tup s h⟩⟩
theorem ref_at {ts : List Addr} {i : Nat} {y : V} (h : (ts.map V.ref)[i]? = some y) : ∃ t, ts[i]? = some t ∧ V.ref t = y := by
  rw [List.getElem?_map] at h
  cases e : ts[i]? with
  | none =>
    rw [e] at h
    cases h
  | some t =>
    rw [e] at h
    exact ⟨t, rfl, Option.some.inj h⟩
theorem all_rep {n : Nat} : (List.replicate n true).all id = true := by
  rw [List.all_replicate]
  cases n <;> rfl
theorem seq_goS {H0 H : Hp} {a : Addr} {xs : List V} {R : It → Hp → Prop} (h : SqL K H0 a xs ∨ SqT K H0 a xs) (s : Same H0 H) (k : ∀ (J : It) (G : Hp → Prop), Walk J xs.length G (YAt xs) → (∀ H', Same H0 H' → G H') → R J H) :
    iSeqX K (V.ref a) H R := by
  rcases h with h | h
  · exact ⟨a, rfl, .inl ⟨xs, s.seq h, k _ _ walk_list fun H' s => s.seq h⟩⟩
  · exact ⟨a, rfl, .inr ⟨xs, same_tup s h, k _ _ walk_tup fun H' s => same_tup s h⟩⟩
theorem ixq_go {H : Hp} {a : Addr} {xs : List V} {j : Nat} {v : V} {Q : VK} (h : SeqV H a xs) (e : xs[j]? = some v) (q : Q v H) : rIxQ K (.ref a) (.int (j : Int)) H Q :=
  h.elim (fun h => .inl ⟨a, xs, _, v, rfl, rfl, SqL.of h, at_of rfl e, q⟩) fun h => .inr ⟨a, xs, _, v, rfl, rfl, SqT.of h, at_of rfl e, q⟩
def sp_isrow (K : Fg) : Sp := fun vs H Q _ => ∃ (a : Addr) (xs : List V), vs = [.ref a] ∧ SeqK K H a xs ∧ ∀ H' : Hp, Same H H' → Q (.bl true) H'
theorem ok_is_row (T : Tx K mg) : FnR P w K mg base CX0 1 (He.ga K "is_row") (sp_isrow K) := by
  refine (T.fnR 20 (st := s_is_row) (at_ := fun K => He.ga K "is_row") rfl sc_is_row (fun _ _ _ _ _ _ us hl => match us, hl with | [_], _ => rfl)) (fun vs H Q E h => ?_) (fun cdv A outer s H vs Q E hr h => ?_)
  · obtain ⟨a, xs, rfl, _⟩ := h
    rfl
  · obtain ⟨a, xs, rfl, ha, k⟩ := h
    refine ⟨_, (pss_one (ps_ret (pe_callB (isiT_k T) (by rfl) T.n_isinstance (by decide +kernel) (pa_cons (pv 0) (pa_cons (pe_tup (pa_cons (pe_bltn (v := .ty "list") (u := .type "list") rfl T.n_list (by decide +kernel) rfl) (pa_cons (pe_bltn (v := .ty "tuple") (u := .type "tuple") rfl T.n_tuple (by decide +kernel) rfl) pa_nil))) pa_nil))))), ?_⟩
    refine ⟨_, rfl, by show 2 ≤ sizeLine; decide, fun tp htp => ?_⟩
    have s1 := same_upd (o := .tup [V.ty "list", V.ty "tuple"]) htp
    obtain ⟨t, h1, h2⟩ := (ha.same s1).ty
    exact ⟨_, tp, _, _, _, true, rfl, upd_same, .cons (.ty _) (.cons (.ty _) .nil), h1, h2, k _ s1⟩
theorem c_is_row {X : Cx} {k : Nat} {t : TA} {e : Expr} {es : List Expr} {np pos : Pos} (T : Tx K mg) (hr : Room k X.A) (ha : PA X (e :: es) t) (hk : 1 ≤ k := by decide) (hK : X.K = K := by rfl) (hm : X.mg = mg := by rfl)
    (hg : Gl X "is_row" := by rfl) (hse : starEach (e :: es) X.env = (false, eval e X.env) :: starEach es X.env := by rfl) (hpl : (backTo pos (starEach es X.env)).any (·.1) = false := by rfl) :
    PE X (.Call (.Name "is_row" np) (e :: es) [] pos) (tFn (sp_isrow K) E0 t) := by
  subst hK
  subst hm
  exact pe_fR (ok_is_row T) T.kp_is_row T.g_is_row (hr.mono hk) pass0 ha hg (by decide) hse hpl
def sp_isbet : Sp := fun vs H Q _ => ∃ i lo hi : Int, vs = [.int i, .int lo, .int hi] ∧ Q (.bl (decide (lo ≤ i) && decide (i ≤ hi))) H
theorem ok_is_between (T : Tx K mg) : FnR P w K mg base CX0 2 (He.ga K "is_between") sp_isbet := by
  refine (T.fnR 21 (st := s_is_between) (at_ := fun K => He.ga K "is_between") rfl sc_is_between (fun _ _ _ _ _ _ us hl => match us, hl with | [_, _, _], _ => rfl)) (fun vs H Q E h => ?_) (fun cdv A outer s H vs Q E hr h => ?_)
  · obtain ⟨i, lo, hi, rfl, _⟩ := h
    rfl
  · obtain ⟨i, lo, hi, rfl, k⟩ := h
    refine ⟨_, (pss_one (ps_ret (pe_and (c_is_integer T hr (pa_cons (pv 0) pa_nil)) (pe_one (pe_chain op_le op_le (pv 1) (pv 0) (pv 2)))))), ?_⟩
    refine ⟨_, rfl, i, rfl, true, rfl, iteT ?_⟩
    refine ⟨_, rfl, _, rfl, _, _, rfl, rfl, _, rfl, ?_⟩
    cases c : decide (lo ≤ i) with
    | true =>
      rw [c, Bool.true_and] at k
      exact iteT ⟨_, rfl, _, _, rfl, rfl, k⟩
    | false =>
      rw [c, Bool.false_and] at k
      exact iteF k
theorem c_is_between {X : Cx} {k : Nat} {t : TA} {e : Expr} {es : List Expr} {np pos : Pos} (T : Tx K mg) (hr : Room k X.A) (ha : PA X (e :: es) t) (hk : 2 ≤ k := by decide) (hK : X.K = K := by rfl) (hm : X.mg = mg := by rfl)
    (hg : Gl X "is_between" := by rfl) (hse : starEach (e :: es) X.env = (false, eval e X.env) :: starEach es X.env := by rfl) (hpl : (backTo pos (starEach es X.env)).any (·.1) = false := by rfl) :
    PE X (.Call (.Name "is_between" np) (e :: es) [] pos) (tFn sp_isbet E0 t) := by
  subst hK
  subst hm
  exact pe_fR (ok_is_between T) T.kp_is_between T.g_is_between (hr.mono hk) pass0 ha hg (by decide) hse hpl
def sp_mstarts (K : Fg) : Sp := fun vs H Q _ => ∃ (a : Addr) (ls : List Nat), vs = [.ref a] ∧ SqL K H a (ls.map natV) ∧ ls.length ≤ 10000 ∧ ∀ (t : Addr) (H' : Hp), Same H H' → H t = none → H' t = some (.lst ((List.range (ls.length + 1)).map fun k => natV (pre ls k))) → Q (.ref t) H'
theorem ok_month_starts (T : Tx K mg) : FnR P w K mg base CX0 1 (He.ga K "month_starts") (sp_mstarts K) := by
  refine (T.fnR 25 (st := s_month_starts) (at_ := fun K => He.ga K "month_starts") rfl sc_month_starts (fun _ _ _ _ _ _ us hl => match us, hl with | [_], _ => rfl)) (fun vs H Q E h => ?_) (fun cdv A outer s H vs Q E hr h => ?_)
  · obtain ⟨a, ls, rfl, _⟩ := h
    rfl
  · obtain ⟨a, ls, rfl, ha, hl, k⟩ := h
    refine ⟨_, (pss_cons (ps_set (i := 1) sc_month_starts.nd rfl (Or.inl rfl) (pe_lst (pa_cons pe_int pa_nil)))
 (pss_cons (ps_for PassesOwn.never rfl (pil T (pv 0)) (pg_name (i := 2) sc_month_starts.nd rfl (Or.inl rfl))
 (pss_one (ps_expr (bmk T PySem.F.plainAttrs_list PySem.F.slot_list_append PySem.F.type_list_append mt_append (pv 1) (pa_cons (pe_op op_add (pe_ix (ixl T) (pv 1) (pe_un un_neg pe_int) (fun _ _ => rfl)) (pv 2)) pa_nil)))))
 (pss_one (ps_ret (pv 1))))), ?_⟩
    refine ⟨by show 1 ≤ sizeLine; decide, fun D hD => ?_⟩
    have l1 : (ls.map natV).length = ls.length := List.length_map ..
    refine ⟨_, rfl, a, rfl, ⟨_, sqL_same ha (same_upd (o := .lst [V.int 0]) hD)⟩, ?_⟩
    refine for_it (walk_list (xs := ls.map natV)) (fun i σ H' => (∃ v2 : Option V, σ = [some (.ref a), some (.ref D), v2]) ∧ Same H H' ∧ H' D = some (.lst ((List.range (i + 1)).map fun k => natV (pre ls k)))) ⟨⟨none, rfl⟩, same_upd hD, upd_same⟩ (fun i σ H' _ h => sqL_same ha h.2.1) ?_ ?_
    · rintro i x σ H1 H2 hi ⟨⟨v2, rfl⟩, s1, e1⟩ ⟨rfl, ex⟩
      rw [l1] at hi
      rw [List.getElem?_map, List.getElem?_eq_getElem hi] at ex
      obtain rfl := Option.some.inj ex
      have el : ((List.range (i + 1)).map fun k => natV (pre ls k)).length = i + 1 := by simp
      have g1 : ((List.range (i + 1)).map fun k => natV (pre ls k))[i]? = some (natV (pre ls i)) := by simp
      rfl'
      refine ⟨at_last el g1, ?_⟩
      rfl'
      refine ⟨⟨_, rfl⟩, same_under s1 hD, ?_⟩
      rw [upd_same, List.range_succ (n := i + 1), List.map_append]
      have e : natV (pre ls (i + 1)) = .int ((pre ls i : Int) + (ls[i] : Int)) := by
        unfold natV
        rw [pre_succ hi, List.getD_eq_getElem?_getD, List.getElem?_eq_getElem hi]
        rfl
      show _ = some (HO.lst (_ ++ [natV (pre ls (i + 1))]))
      rw [e]
    · rintro σ H1 ⟨⟨v2, rfl⟩, s1, e1⟩
      rw [l1] at e1
      exact ⟨_, rfl, k D H1 s1 hD e1⟩
theorem c_month_starts {X : Cx} {k : Nat} {t : TA} {e : Expr} {es : List Expr} {np pos : Pos} (T : Tx K mg) (hr : Room k X.A) (ha : PA X (e :: es) t) (hk : 1 ≤ k := by decide) (hK : X.K = K := by rfl) (hm : X.mg = mg := by rfl)
    (hg : Gl X "month_starts" := by rfl) (hse : starEach (e :: es) X.env = (false, eval e X.env) :: starEach es X.env := by rfl) (hpl : (backTo pos (starEach es X.env)).any (·.1) = false := by rfl) :
    PE X (.Call (.Name "month_starts" np) (e :: es) [] pos) (tFn (sp_mstarts K) E0 t) := by
  subst hK
  subst hm
  exact pe_fR (ok_month_starts T) T.kp_month_starts T.g_month_starts (hr.mono hk) pass0 ha hg (by decide) hse hpl
def sp_mat (K : Fg) : Sp := fun vs H Q _ => ∃ (a : Addr) (ls : List Nat) (d : Nat), vs = [.ref a, .int (d : Int)] ∧ SqL K H a ((List.range (ls.length + 1)).map fun k => natV (pre ls k)) ∧ 0 < ls.length ∧ ls.length ≤ 10000 ∧ (∀ l ∈ ls, 0 < l) ∧ d < ls.sum ∧ Q (.int (loc ls d : Nat)) H
theorem ok_month_at (T : Tx K mg) : FnR P w K mg base CX0 1 (He.ga K "month_at") (sp_mat K) := by
  refine (T.fnR 26 (st := s_month_at) (at_ := fun K => He.ga K "month_at") rfl sc_month_at (fun _ _ _ _ _ _ us hl => match us, hl with | [_, _], _ => rfl)) (fun vs H Q E h => ?_) (fun cdv A outer s H vs Q E hr h => ?_)
  · obtain ⟨a, ls, d, rfl, _⟩ := h
    rfl
  · obtain ⟨a, ls, d, rfl, ha, l0, l1, pos, hd, k⟩ := h
    refine ⟨_, (pss_cons (ps_par (i := 2) (j := 3) (by rfl) sc_month_at.nd rfl rfl (by decide) rfl rfl (pa_cons pe_int (pa_cons (pe_op op_sub (pe_callB (len_k T) (by rfl) T.n_len (by decide +kernel) (pa_cons (pv 0) pa_nil)) pe_int) pa_nil)) (by rfl))
 (pss_cons (ps_while PassesOwn.never (pt_cmpR op_gt (pe_op op_sub (pv 3) (pv 2)) pe_int (nomark _))
 (pss_cons (ps_set (i := 4) sc_month_at.nd rfl (Or.inl rfl) (pe_op op_fdiv (pe_op op_add (pv 2) (pv 3)) pe_int))
 (pss_one (ps_if (pt_cmpR op_le (pe_ix (ixl T) (pv 0) (pv 4) (fun _ _ => rfl)) (pv 1) (nomark _))
 (pss_one (ps_set (i := 2) sc_month_at.nd rfl (Or.inl rfl) (pv 4)))
 (pss_one (ps_set (i := 3) sc_month_at.nd rfl (Or.inl rfl) (pv 4)))))))
 (pss_one (ps_ret (pv 2))))), ?_⟩
    have el : ((List.range (ls.length + 1)).map fun k => natV (pre ls k)).length = ls.length + 1 := by simp
    refine ⟨_, rfl, a, _, rfl, .inl ha, _, _, rfl, rfl, _, _, rfl, ?_⟩
    rw [el]
    refine ⟨fun m σ H' => ∃ (lo hi : Nat) (v4 : Option V), σ = [some (.ref a), some (.int (d : Int)), some (.int (lo : Int)), some (.int (hi : Int)), v4] ∧ H' = H ∧ lo < hi ∧ hi ≤ ls.length ∧ pre ls lo ≤ d ∧ d < pre ls hi ∧ m = hi - lo, ⟨_, 0, ls.length, none, ?_, rfl, l0, Nat.le_refl _, Nat.zero_le _, by rw [pre_all]; exact hd, rfl⟩, ?_⟩
    · show [some (V.ref a), some (V.int (d : Int)), some (V.int 0), some (V.int (((ls.length + 1 : Nat) : Int) - 1)), none] = _
      rw [show ((ls.length + 1 : Nat) : Int) - 1 = (ls.length : Int) by omega]
      rfl
    rintro m σ H' ⟨lo, hi, v4, rfl, rfl, h1, h2, h3, h4, rfl⟩
    refine ⟨_, rfl, _, rfl, _, _, rfl, rfl, _, _, rfl, rfl, _, rfl, ?_⟩
    refine ite2 (fun hc => wh_go ?_) (fun hc => ?_)
    · have hlt : 1 < (hi : Int) - (lo : Int) := of_decide_eq_true hc
      obtain ⟨md, hmd⟩ : ∃ md : Nat, (lo + hi) / 2 = md := ⟨_, rfl⟩
      have emd : ((lo : Int) + (hi : Int)) / 2 = (md : Int) := by omega
      refine ⟨_, rfl, _, rfl, _, _, rfl, rfl, _, _, rfl, rfl, ⟨by decide, by decide⟩, ?_⟩
      refine at_st (σ' := [some (.ref a), some (.int (d : Int)), some (.int (lo : Int)), some (.int (hi : Int)), some (.int (md : Int))]) (by rw [← emd]; rfl) ?_
      have hv : ((List.range (ls.length + 1)).map fun k => natV (pre ls k))[md]? = some (natV (pre ls md)) := by
        rw [List.getElem?_map, List.getElem?_range (by omega)]
        rfl
      refine ⟨_, rfl, _, rfl, a, _, _, natV (pre ls md), rfl, rfl, ha, at_of (j := md) rfl hv, _, rfl, _, _, rfl, rfl, _, rfl, ?_⟩
      refine ite2 (fun hq => ?_) (fun hq => ?_)
      · have hq : ((pre ls md : Nat) : Int) ≤ (d : Int) := of_decide_eq_true hq
        refine ⟨_, rfl, ?_⟩
        exact ⟨hi - md, by omega, md, hi, _, rfl, rfl, by omega, h2, by omega, h4, rfl⟩
      · have hq : ¬ ((pre ls md : Nat) : Int) ≤ (d : Int) := fun e => hq (decide_eq_true e)
        refine ⟨_, rfl, ?_⟩
        exact ⟨md - lo, by omega, lo, md, _, rfl, rfl, by omega, by omega, h3, by omega, rfl⟩
    · have hle : ¬ 1 < (hi : Int) - (lo : Int) := fun e => hc (decide_eq_true e)
      obtain rfl : hi = lo + 1 := by omega
      refine ⟨_, rfl, ?_⟩
      rw [loc_uniq pos (k := lo) (d := d) h2 h3 h4]
      exact k
theorem c_month_at {X : Cx} {k : Nat} {t : TA} {e : Expr} {es : List Expr} {np pos : Pos} (T : Tx K mg) (hr : Room k X.A) (ha : PA X (e :: es) t) (hk : 1 ≤ k := by decide) (hK : X.K = K := by rfl) (hm : X.mg = mg := by rfl)
    (hg : Gl X "month_at" := by rfl) (hse : starEach (e :: es) X.env = (false, eval e X.env) :: starEach es X.env := by rfl) (hpl : (backTo pos (starEach es X.env)).any (·.1) = false := by rfl) :
    PE X (.Call (.Name "month_at" np) (e :: es) [] pos) (tFn (sp_mat K) E0 t) := by
  subst hK
  subst hm
  exact pe_fR (ok_month_at T) T.kp_month_at T.g_month_at (hr.mono hk) pass0 ha hg (by decide) hse hpl
def sp_areyears : Sp := fun vs H Q _ => ∃ (a : Addr) (ts : List Addr) (rows : List (List Nat)), vs = [.ref a] ∧ SeqV H a (ts.map V.ref) ∧ RowsV H ts rows ∧ YrOk rows ∧ ∀ H' : Hp, Same H H' → Q (.bl true) H'
theorem ok_are_years (T : Tx K mg) : FnR P w K mg base CX0 3 (He.ga K "are_years") sp_areyears := by
  refine (T.fnR 22 (st := s_are_years) (at_ := fun K => He.ga K "are_years") rfl sc_are_years (fun _ _ _ _ _ _ us hl => match us, hl with | [_], _ => rfl)) (fun vs H Q E h => ?_) (fun cdv A outer s H vs Q E hr h => ?_)
  · obtain ⟨a, ts, rows, rfl, _⟩ := h
    rfl
  · obtain ⟨a, ts, rows, rfl, ha, hr2, ok, k⟩ := h
    refine ⟨_, (pss_cons (ps_if (PW.pt (pw_or (pt_not (pt_val (c_is_row T hr (pa_cons (pv 0) pa_nil)))) (pw_or (pt_not (pt_chain op_le op_le pe_int (pe_callB (len_k T) (by rfl) T.n_len (by decide +kernel) (pa_cons (pv 0) pa_nil)) (pe_glob (v := .int 400) rfl (T.g_MAX_YEARS).choose_spec ⟨_, rfl⟩))) (pw_or1 (pt_not (pt_val (pe_callB (all_k T rfl) (by rfl) T.n_all (by decide +kernel) (pa_cons (pe_lc (own := [("year", 1)]) rfl sc_are_years.nd (pis T (pv 0)) (blkOk_by (own := [("year", 1)]) (N := N_are_years) (sc := defScope s_are_years) (by decide +kernel)) (fun _ _ _ _ _ => (pg_name (i := 1) sc_are_years.nd rfl (Or.inl rfl))) (fun _ _ _ _ _ => pts_nil) (fun _ _ _ _ _ => (c_is_row T hr (pa_cons (pv 1) pa_nil)))) pa_nil))))))))
 (pss_one (ps_ret pe_bl))
 pss_nil)
 (pss_cons (ps_if (PW.pt (pw_or (pt_not (pt_chain op_le op_le pe_int (pe_callB (len_k T) (by rfl) T.n_len (by decide +kernel) (pa_cons (pe_ix (ixq T) (pv 0) pe_int (fun _ _ => rfl)) pa_nil)) (pe_glob (v := .int 14) rfl (T.g_MAX_MONTHS).choose_spec ⟨_, rfl⟩))) (pw_or1 (pt_not (pt_val (pe_callB (all_k T rfl) (by rfl) T.n_all (by decide +kernel) (pa_cons (pe_lc (own := [("year", 1)]) rfl sc_are_years.nd (pis T (pv 0)) (blkOk_by (own := [("year", 1)]) (N := N_are_years) (sc := defScope s_are_years) (by decide +kernel)) (fun _ _ _ _ _ => (pg_name (i := 1) sc_are_years.nd rfl (Or.inl rfl))) (fun _ _ _ _ _ => pts_nil) (fun _ _ _ _ _ => (pe_cmpR op_eq (pe_callB (len_k T) (by rfl) T.n_len (by decide +kernel) (pa_cons (pv 1) pa_nil)) (pe_callB (len_k T) (by rfl) T.n_len (by decide +kernel) (pa_cons (pe_ix (ixq T) (pv 0) pe_int (fun _ _ => rfl)) pa_nil)) (nomark _)))) pa_nil)))))))
 (pss_one (ps_ret pe_bl))
 pss_nil)
 (pss_one (ps_ret (pe_callB (all_k T rfl) (by rfl) T.n_all (by decide +kernel) (pa_cons (pe_lc2 (vs1 := [2]) (own := [("year", 1), ("days", 2)]) rfl sc_are_years.nd (pis T (pv 0)) (blkOk_by (own := [("year", 1), ("days", 2)]) (N := N_are_years) (sc := defScope s_are_years) (by decide +kernel)) (by decide) (fun _ _ _ _ _ => (pg_name (i := 1) sc_are_years.nd rfl (Or.inl rfl))) (fun _ _ _ _ _ => pts_nil) (fun _ _ _ _ _ => (pis T (pv 1))) (fun _ _ _ _ _ => (pg_name (i := 2) sc_are_years.nd rfl (Or.inl rfl))) (fun _ _ _ _ _ => pts_nil) (fun _ _ _ _ _ => (c_is_between T hr (pa_cons (pv 2) (pa_cons pe_int (pa_cons (pe_glob (v := .int 40) rfl (T.g_MAX_DAYS).choose_spec ⟨_, rfl⟩) pa_nil)))))) pa_nil)))))), ?_⟩
    have L1 : (ts.map V.ref).length = rows.length := by rw [List.length_map, hr2.len]
    have le := ok.le
    have ne := ok.ne
    obtain ⟨t0, e0, h0⟩ := hr2.get (List.getElem?_eq_getElem (i := 0) ok.ne)
    have r0 : rows[0]'ok.ne = rows.getD 0 [] := by rw [List.getD_eq_getElem?_getD, List.getElem?_eq_getElem ok.ne]; rfl
    rw [r0] at h0
    have L0 : ((rows.getD 0 []).map natV).length = (rows.getD 0 []).length := List.length_map ..
    have a0 : (ts.map V.ref)[0]? = some (.ref t0) := by rw [List.getElem?_map, e0]; rfl
    rfl'
    rename_i H1 s1
    refine ⟨(ha.same s1).sq, ?_⟩
    rw [L1]
    rfl'
    rw [decide_eq_true (show (1 : Int) ≤ (rows.length : Int) by have := ok.ne; omega)]
    refine iteT ?_
    rfl'
    rw [decide_eq_true (show (rows.length : Int) ≤ 400 by have := ok.le; omega)]
    refine ⟨_, rfl, ?_⟩
    refine seq_goC ((ha.same s1).sq) fun J G wk hG D hD => ?_
    refine walk_w wk (Acc H1 D fun _ => V.bl true) (Acc.start hD) (fun i H2 _ h => hG H2 h.1) ?_ ?_
    · rintro i y H2 H3 hi hacc ⟨rfl, ey⟩
      obtain ⟨t, et, rfl⟩ := ref_at ey
      obtain ⟨r, er, hs⟩ := hr2.at et
      refine ⟨rfl, ?_⟩
      refine yes_t ?_
      refine ⟨_, rfl, t, _, rfl, .inl (hs.same (s1.trans hacc.1)), fun H4 s4 => ?_⟩
      exact hacc.push hD s4 (by omega) rfl
    rintro H2 ⟨s2, e2⟩
    rw [L1] at e2
    refine ⟨D, _, rfl, SqL.of (all_t e2 fun _ _ => rfl), ?_⟩
    rw [all_rep]
    clear hD wk hG e2
    have s12 := s1.trans s2
    have hq := (ha.same s12).sq (K := K)
    have hq0 := (h0.same s12).sq (K := K)
    refine ⟨_, rfl, ?_⟩
    refine iteF ?_
    rfl'
    refine ixq_go (j := 0) (ha.same s12) a0 ?_
    rfl'
    rw [L0]
    have m0 := ok.m0
    have m1 := ok.m1
    rfl'
    rw [decide_eq_true (show (1 : Int) ≤ ((rows.getD 0 []).length : Int) by omega)]
    refine iteT ?_
    rfl'
    rw [decide_eq_true (show ((rows.getD 0 []).length : Int) ≤ 14 by omega)]
    refine ⟨_, rfl, ?_⟩
    refine seq_goC ((ha.same s12).sq) fun J G wk hG D2 hD2 => ?_
    refine walk_w wk (Acc H2 D2 fun _ => V.bl true) (Acc.start hD2) (fun i H3 _ h => hG H3 h.1) ?_ ?_
    · rintro i y H3 H4 hi hacc ⟨rfl, ey⟩
      obtain ⟨t, et, rfl⟩ := ref_at ey
      obtain ⟨r, er, hs⟩ := hr2.at et
      have sH := s12.trans hacc.1
      have hq2 := (hs.same sH).sq (K := K)
      have hq3 := (h0.same sH).sq (K := K)
      have er2 := ok.eq r (List.mem_of_getElem? er)
      have l4 : (r.map natV).length = r.length := List.length_map ..
      refine ⟨rfl, ?_⟩
      refine yes_t ?_
      refine ⟨_, rfl, t, _, rfl, hq2, ?_⟩
      refine ⟨_, rfl, ?_⟩
      refine ixq_go (j := 0) (ha.same sH) a0 ?_
      refine ⟨t0, _, rfl, hq3, ?_⟩
      rw [l4, L0, er2]
      refine ⟨rfl, ?_⟩
      refine hacc.push hD2 (Same.refl _) (by omega) ?_
      rw [decide_eq_true rfl]
    rintro H3 ⟨s3, e3⟩
    rw [L1] at e3
    refine ⟨D2, _, rfl, SqL.of (all_t e3 fun _ _ => rfl), ?_⟩
    rw [all_rep]
    clear hD2 wk hG e3 hq hq0
    have s13 := s12.trans s3
    refine ⟨_, rfl, ?_⟩
    refine iteF ?_
    refine ⟨_, rfl, ?_⟩
    refine seq_goC ((ha.same s13).sq) fun J G wk hG D3 hD3 => ?_
    refine walk_w wk (fun i H' => Same H3 H' ∧ ∃ n, n ≤ 14 * i ∧ H' D3 = some (.lst ((List.replicate n true).map V.bl))) ⟨same_upd hD3, 0, by omega, upd_same⟩ (fun i H4 _ h => hG H4 h.1) ?_ ?_
    · rintro i y H4 H5 hi ⟨s4, n, hn, en⟩ ⟨rfl, ey⟩
      obtain ⟨t, et, rfl⟩ := ref_at ey
      obtain ⟨r, er, hs⟩ := hr2.at et
      have er2 := ok.eq r (List.mem_of_getElem? er)
      have l4 : (r.map natV).length = r.length := List.length_map ..
      refine ⟨rfl, ?_⟩
      refine yes_t ?_
      refine ⟨_, rfl, ?_⟩
      refine seq_goS ((hs.same s13).sq) s4 fun J2 G2 wk2 hG2 => ?_
      refine walk_w wk2 (fun j H' => Same H3 H' ∧ H' D3 = some (.lst ((List.replicate (n + j) true).map V.bl))) ⟨s4, en⟩ (fun j H6 _ h => hG2 H6 h.1) ?_ ?_
      · rintro j y H6 H7 hj ⟨s6, e6⟩ ⟨rfl, ey2⟩
        rw [l4] at hj
        rw [List.getElem?_map, List.getElem?_eq_getElem hj] at ey2
        obtain rfl := Option.some.inj ey2
        have dl := ok.ds r (List.mem_of_getElem? er) _ (List.getElem_mem hj)
        refine ⟨rfl, ?_⟩
        refine yes_t ?_
        refine ⟨_, rfl, (r[j] : Int), 1, 40, rfl, ?_⟩
        rw [decide_eq_true (show (1 : Int) ≤ (r[j] : Int) by omega), decide_eq_true (show (r[j] : Int) ≤ 40 by omega)]
        refine ⟨_, e6, by rw [List.length_map, List.length_replicate, sizeLine_eq]; omega, same_under s6 hD3, ?_⟩
        rw [upd_same, ← Nat.add_assoc, List.replicate_succ' (n := n + j), List.map_append]
        rfl
      · rintro H6 ⟨s6, e6⟩
        exact ⟨s6, _, by omega, e6⟩
    rintro H4 ⟨s4, n, hn, en⟩
    refine ⟨D3, _, rfl, SqL.of en, ?_⟩
    rw [all_rep]
    exact k H4 (s13.trans s4)
theorem c_are_years {X : Cx} {k : Nat} {t : TA} {e : Expr} {es : List Expr} {np pos : Pos} (T : Tx K mg) (hr : Room k X.A) (ha : PA X (e :: es) t) (hk : 3 ≤ k := by decide) (hK : X.K = K := by rfl) (hm : X.mg = mg := by rfl)
    (hg : Gl X "are_years" := by rfl) (hse : starEach (e :: es) X.env = (false, eval e X.env) :: starEach es X.env := by rfl) (hpl : (backTo pos (starEach es X.env)).any (·.1) = false := by rfl) :
    PE X (.Call (.Name "are_years" np) (e :: es) [] pos) (tFn sp_areyears E0 t) := by
  subst hK
  subst hm
  exact pe_fR (ok_are_years T) T.kp_are_years T.g_are_years (hr.mono hk) pass0 ha hg (by decide) hse hpl
end
end Lw

--auto
namespace Lw
open PySem PySem.Spec PyProof.Rows L2 My
section
variable {P : Program} {w : World} {K : Fg} {mg : Str → Option Value} {base : Heap}
/-- pairs as tuples -/
def PrT (H : Hp) (ts : List Addr) (ps : List (Int × Int)) : Prop := Paired (fun t p => H t = some (.tup [.int p.1, .int p.2])) ts ps
theorem PrT.prs {H : Hp} : ∀ {ts : List Addr} {ps : List (Int × Int)}, PrT H ts ps → Prs K H ts ps
  | _, _, .nil => .nil
  | _, _, .cons h t => .cons (SqT.of h) (PrT.prs t)
theorem PrT.same {H H' : Hp} (s : Same H H') : ∀ {ts : List Addr} {ps : List (Int × Int)}, PrT H ts ps → PrT H' ts ps
  | _, _, .nil => .nil
  | _, _, .cons h t => .cons (s _ _ h) (PrT.same s t)
theorem PrT.len {H : Hp} {ts : List Addr} {ps : List (Int × Int)} (h : PrT H ts ps) : ts.length = ps.length := Paired.length h
theorem PrT.at {H : Hp} : ∀ {ts : List Addr} {ps : List (Int × Int)}, PrT H ts ps → ∀ {i : Nat} {t : Addr}, ts[i]? = some t → ∃ p, ps[i]? = some p ∧ H t = some (.tup [.int p.1, .int p.2])
  | _, _, .nil, _, _, h => by cases h
  | _, _, .cons h _, 0, _, e => by
    cases e
    exact ⟨_, rfl, h⟩
  | _, _, .cons _ r, i + 1, _, e => PrT.at r (i := i) e
theorem seqI_V {H : Hp} {a : Addr} {rs : List Int} (h : SeqI H a rs) : SeqV H a (rs.map V.int) := h
def sp_arewd (K : Fg) : Sp := fun vs H Q _ => ∃ (a : Addr) (rs : List Int) (wk : Int), vs = [.ref a, .int wk] ∧ SeqK K H a (rs.map V.int) ∧ rs.Nodup ∧ (∀ x ∈ rs, 0 ≤ x ∧ x < wk) ∧ rs.length ≤ 64 ∧ ∀ H' : Hp, Same H H' → Q (.bl true) H'
theorem ok_are_weekdays (T : Tx K mg) : FnR P w K mg base CX0 3 (He.ga K "are_weekdays") (sp_arewd K) := by
  refine (T.fnR 23 (st := s_are_weekdays) (at_ := fun K => He.ga K "are_weekdays") rfl sc_are_weekdays (fun _ _ _ _ _ _ us hl => match us, hl with | [_, _], _ => rfl)) (fun vs H Q E h => ?_) (fun cdv A outer s H vs Q E hr h => ?_)
  · obtain ⟨a, rs, wk, rfl, _⟩ := h
    rfl
  · obtain ⟨a, rs, wk, rfl, ha, nd, hb, hl, k⟩ := h
    refine ⟨_, (pss_cons (ps_if (PW.pt (pw_or (pt_not (pt_val (c_is_row T hr (pa_cons (pv 0) pa_nil)))) (pw_or1 (pt_not (pt_val (pe_callB (all_k T rfl) (by rfl) T.n_all (by decide +kernel) (pa_cons (pe_lc (own := [("weekday", 2)]) rfl sc_are_weekdays.nd (pis T (pv 0)) (blkOk_by (own := [("weekday", 2)]) (N := N_are_weekdays) (sc := defScope s_are_weekdays) (by decide +kernel)) (fun _ _ _ _ _ => (pg_name (i := 2) sc_are_weekdays.nd rfl (Or.inl rfl))) (fun _ _ _ _ _ => pts_nil) (fun _ _ _ _ _ => (c_is_between T hr (pa_cons (pv 2) (pa_cons pe_int (pa_cons (pe_op op_sub (pv 1) pe_int) pa_nil)))))) pa_nil)))))))
 (pss_one (ps_ret pe_bl))
 pss_nil)
 (pss_one (ps_ret (pe_cmpR op_eq (pe_lenSetQ (by rfl) T.n_len (by rfl) T.n_set (pv 0)) (pe_callB (len_k T) (by rfl) T.n_len (by decide +kernel) (pa_cons (pv 0) pa_nil)) (nomark _))))), ?_⟩
    have L1 : (rs.map V.int).length = rs.length := List.length_map ..
    have haV := ha
    refine ⟨_, rfl, a, _, rfl, haV, fun H1 s1 => ?_⟩
    refine ⟨_, rfl, ?_⟩
    refine ⟨_, rfl, ?_⟩
    refine seq_goC ((haV.same s1).sq) fun J G wk2 hG D hD => ?_
    refine walk_w wk2 (Acc H1 D fun _ => V.bl true) (Acc.start hD) (fun i H2 _ h => hG H2 h.1) ?_ ?_
    · rintro i y H2 H3 hi hacc ⟨rfl, ey⟩
      rw [L1] at hi
      rw [List.getElem?_map, List.getElem?_eq_getElem hi] at ey
      obtain rfl := Option.some.inj ey
      have dl := hb _ (List.getElem_mem hi)
      refine ⟨rfl, ?_⟩
      refine yes_t ?_
      refine ⟨_, rfl, _, rfl, _, _, rfl, rfl, _, _, _, rfl, ?_⟩
      refine hacc.push hD (Same.refl _) (by omega) ?_
      rw [decide_eq_true (show (0 : Int) ≤ rs[i] from dl.1), decide_eq_true (show rs[i] ≤ wk - 1 by omega)]
      rfl
    rintro H2 ⟨s2, e2⟩
    rw [L1] at e2
    refine ⟨D, _, rfl, SqL.of (all_t e2 fun _ _ => rfl), ?_⟩
    rw [all_rep]
    have sH := s1.trans s2
    refine ⟨_, rfl, ?_⟩
    refine iteF ?_
    refine ⟨_, rfl, a, rs, rfl, (ha.same sH).sq, nd, by omega, ?_⟩
    refine ⟨_, rfl, a, _, rfl, (haV.same sH).sq, ?_⟩
    refine ⟨rfl, ?_⟩
    rw [L1, decide_eq_true rfl]
    exact k _ sH
theorem c_are_weekdays {X : Cx} {k : Nat} {t : TA} {e : Expr} {es : List Expr} {np pos : Pos} (T : Tx K mg) (hr : Room k X.A) (ha : PA X (e :: es) t) (hk : 3 ≤ k := by decide) (hK : X.K = K := by rfl) (hm : X.mg = mg := by rfl)
    (hg : Gl X "are_weekdays" := by rfl) (hse : starEach (e :: es) X.env = (false, eval e X.env) :: starEach es X.env := by rfl) (hpl : (backTo pos (starEach es X.env)).any (·.1) = false := by rfl) :
    PE X (.Call (.Name "are_weekdays" np) (e :: es) [] pos) (tFn (sp_arewd K) E0 t) := by
  subst hK
  subst hm
  exact pe_fR (ok_are_weekdays T) T.kp_are_weekdays T.g_are_weekdays (hr.mono hk) pass0 ha hg (by decide) hse hpl
def sp_areho (K : Fg) : Sp := fun vs H Q _ => ∃ (a : Addr) (ts : List Addr) (ps : List (Int × Int)) (m : Int), vs = [.ref a, .int m] ∧ SeqK K H a (ts.map V.ref) ∧ PrT H ts ps ∧ ps.Nodup ∧ (∀ p ∈ ps, 1 ≤ p.1 ∧ p.1 ≤ m ∧ 1 ≤ p.2 ∧ p.2 ≤ 40) ∧ ps.length < 64 ∧ ∀ H' : Hp, Same H H' → Q (.bl true) H'
theorem ok_are_holidays (T : Tx K mg) : FnR P w K mg base CX0 3 (He.ga K "are_holidays") (sp_areho K) := by
  refine (T.fnR 24 (st := s_are_holidays) (at_ := fun K => He.ga K "are_holidays") rfl sc_are_holidays (fun _ _ _ _ _ _ us hl => match us, hl with | [_, _], _ => rfl)) (fun vs H Q E h => ?_) (fun cdv A outer s H vs Q E hr h => ?_)
  · obtain ⟨a, ts, ps, m, rfl, _⟩ := h
    rfl
  · obtain ⟨a, ts, ps, m, rfl, ha, hp, nd, hb, hl, k⟩ := h
    refine ⟨_, (pss_cons (ps_if (pt_not (pt_val (c_is_row T hr (pa_cons (pv 0) pa_nil))))
 (pss_one (ps_ret pe_bl))
 pss_nil)
 (pss_cons (ps_for PassesOwn.never rfl (pis T (pv 0)) (pg_name (i := 2) sc_are_holidays.nd rfl (Or.inl rfl))
 (pss_cons (ps_if (PW.pt (pw_or (pt_not (pt_val (pe_callB (isi_k T) (by rfl) T.n_isinstance (by decide +kernel) (pa_cons (pv 2) (pa_cons (pe_bltn (v := .ty "tuple") (u := .type "tuple") rfl T.n_tuple (by decide +kernel) rfl) pa_nil))))) (pw_or1 (pt_cmpR op_ne (pe_callB (len_k T) (by rfl) T.n_len (by decide +kernel) (pa_cons (pv 2) pa_nil)) pe_int (nomark _)))))
 (pss_one (ps_ret pe_bl))
 pss_nil)
 (pss_one (ps_if (PW.pt (pw_or (pt_not (pt_val (c_is_between T hr (pa_cons (pe_ix (ixt T) (pv 2) pe_int (fun _ _ => rfl)) (pa_cons pe_int (pa_cons (pv 1) pa_nil)))))) (pw_or1 (pt_not (pt_val (c_is_between T hr (pa_cons (pe_ix (ixt T) (pv 2) pe_int (fun _ _ => rfl)) (pa_cons pe_int (pa_cons (pe_glob (v := .int 40) rfl (T.g_MAX_DAYS).choose_spec ⟨_, rfl⟩) pa_nil)))))))))
 (pss_one (ps_ret pe_bl))
 pss_nil))))
 (pss_one (ps_ret (pe_cmpR op_eq (lenSetP T (by rfl) T.n_len (by rfl) T.n_set (pv 0) hr.units) (pe_callB (len_k T) (by rfl) T.n_len (by decide +kernel) (pa_cons (pv 0) pa_nil)) (nomark _)))))), ?_⟩
    have L1 : (ts.map V.ref).length = ps.length := by rw [List.length_map, hp.len]
    refine ⟨_, rfl, a, _, rfl, ha, fun H1 s1 => ?_⟩
    refine ⟨_, rfl, ?_⟩
    refine iteF ?_
    refine ⟨_, rfl, ?_⟩
    refine seq_goC ((ha.same s1).sq) fun J G wk hG => ?_
    refine for_it wk (fun i σ H' => (∃ v2 : Option V, σ = [some (.ref a), some (.int m), v2]) ∧ Same H1 H') ⟨⟨none, rfl⟩, Same.refl _⟩ (fun i σ H' _ h => hG H' h.2) ?_ ?_
    · rintro i x σ H2 H3 hi ⟨⟨v2, rfl⟩, s2⟩ ⟨rfl, ex⟩
      obtain ⟨t, et, rfl⟩ := ref_at ex
      obtain ⟨p, ep, ht⟩ := hp.at et
      have ht2 := (s1.trans s2) _ _ ht
      obtain ⟨b1, b2, b3, b4⟩ := hb p (List.mem_of_getElem? ep)
      refine ⟨_, rfl, _, _, _, _, true, rfl, .ty _, .base (.tup ht2), kit_ty (by decide +kernel), ?_⟩
      refine ⟨_, rfl, ?_⟩
      refine iteF ?_
      rfl'
      rw [decide_eq_true b1, decide_eq_true b2, Bool.and_self]
      refine iteF ?_
      rfl'
      rw [decide_eq_true b3, decide_eq_true b4, Bool.and_self]
      refine iteF ?_
      exact ⟨⟨_, rfl⟩, s2⟩
    rintro σ H2 ⟨⟨v2, rfl⟩, s2⟩
    have sH := s1.trans s2
    refine ⟨_, rfl, a, ts, ps, rfl, (ha.same sH).sq, (hp.same sH).prs, nd, hl, ?_⟩
    refine ⟨_, rfl, a, _, rfl, (ha.same sH).sq, ?_⟩
    refine ⟨rfl, ?_⟩
    rw [L1, decide_eq_true rfl]
    exact k _ sH
theorem c_are_holidays {X : Cx} {k : Nat} {t : TA} {e : Expr} {es : List Expr} {np pos : Pos} (T : Tx K mg) (hr : Room k X.A) (ha : PA X (e :: es) t) (hk : 3 ≤ k := by decide) (hK : X.K = K := by rfl) (hm : X.mg = mg := by rfl)
    (hg : Gl X "are_holidays" := by rfl) (hse : starEach (e :: es) X.env = (false, eval e X.env) :: starEach es X.env := by rfl) (hpl : (backTo pos (starEach es X.env)).any (·.1) = false := by rfl) :
    PE X (.Call (.Name "are_holidays" np) (e :: es) [] pos) (tFn (sp_areho K) E0 t) := by
  subst hK
  subst hm
  exact pe_fR (ok_are_holidays T) T.kp_are_holidays T.g_are_holidays (hr.mono hk) pass0 ha hg (by decide) hse hpl
end
end Lw

--auto
namespace Lw
open PySem PySem.Spec PyProof.Rows L2 My
section
variable {P : Program} {w : World} {K : Fg} {mg : Str → Option Value} {base : Heap}
/-- the fields of a calendar but the last one -/
def b8 (ay rr fr l s : Addr) (C : Cal) : List (Str × V) := [("all_years", .ref ay), ("days_of_week", .int (C.week : Int)), ("begins", .int (C.first : Int)), ("rests", .ref rr), ("free_days", .ref fr), ("lengths", .ref l), ("starts", .ref s), ("turn", .int (C.per : Int))]
def mstV (ls : List Nat) : List V := (List.range (ls.length + 1)).map fun k => natV (pre ls k)
def RowsT (H : Hp) (ts : List Addr) (rows : List (List Nat)) : Prop := Paired (fun t r => H t = some (.tup (r.map natV))) ts rows
structure CalB (H : Hp) (C : Cal) (ay rr fr l s : Addr) : Prop where
  yr : ∃ ts, H ay = some (.tup (ts.map V.ref)) ∧ RowsT H ts C.rows
  rr : H rr = some (.tup (C.rest.map V.int))
  fr : ∃ ts, H fr = some (.tup (ts.map V.ref)) ∧ PrT H ts C.hol
  l : H l = some (.lst (C.ls.map natV))
  s : H s = some (.lst (mstV C.ls))
def CalF (K : Fg) (H : Hp) (c : Addr) (C : Cal) (ws : List (Str × V)) : Prop := ∃ dx ay rr fr l s : Addr, H c = some (.ins (CA K) dx (b8 ay rr fr l s C ++ ws)) ∧ CalB H C ay rr fr l s ∧ C.Ok
/-- a calendar, perhaps without the work days -/
def WsOk (ws : List (Str × V)) : Prop := ws = [] ∨ ∃ a : Addr, ws = [(("works" : Str), V.ref a)]
def CalX (K : Fg) (H : Hp) (c : Addr) (C : Cal) : Prop := ∃ ws : List (Str × V), WsOk ws ∧ CalF K H c C ws
/-- a calendar -/
def CalAt (K : Fg) (H : Hp) (c : Addr) (C : Cal) : Prop := ∃ a : Addr, CalF K H c C [("works", .ref a)] ∧ H a = some (.lst (C.works.map natV)) ∧ C.works ≠ []
theorem CalAt.x {H : Hp} {c : Addr} {C : Cal} (h : CalAt K H c C) : CalX K H c C := by
  obtain ⟨a, h1, _⟩ := h
  exact ⟨_, .inr ⟨a, rfl⟩, h1⟩
theorem RowsT.same {H H' : Hp} (s : Same H H') : ∀ {ts : List Addr} {rows : List (List Nat)}, RowsT H ts rows → RowsT H' ts rows
  | _, _, .nil => .nil
  | _, _, .cons h t => .cons (s _ _ h) (RowsT.same s t)
theorem RowsT.get {H : Hp} : ∀ {ts : List Addr} {rows : List (List Nat)}, RowsT H ts rows → ∀ {i : Nat} {r : List Nat}, rows[i]? = some r → ∃ t, ts[i]? = some t ∧ H t = some (.tup (r.map natV))
  | _, _, .nil, _, _, h => by cases h
  | _, _, .cons h _, 0, _, e => by
    cases e
    exact ⟨_, rfl, h⟩
  | _, _, .cons _ t, i + 1, _, e => RowsT.get t (i := i) e
theorem RowsT.len {H : Hp} {ts : List Addr} {rows : List (List Nat)} (h : RowsT H ts rows) : ts.length = rows.length := Paired.length h
theorem CalB.same {H H' : Hp} {C : Cal} {ay rr fr l s : Addr} (h : CalB H C ay rr fr l s) (sm : Same H H') : CalB H' C ay rr fr l s := by
  obtain ⟨⟨t1, a1, a2⟩, b, ⟨t2, c1, c2⟩, d, e⟩ := h
  exact ⟨⟨t1, sm _ _ a1, a2.same sm⟩, sm _ _ b, ⟨t2, sm _ _ c1, c2.same sm⟩, sm _ _ d, sm _ _ e⟩
theorem CalF.same {H H' : Hp} {c : Addr} {C : Cal} {ws : List (Str × V)} (h : CalF K H c C ws) (s : Same H H') : CalF K H' c C ws := by
  obtain ⟨dx, ay, rr, fr, l, st, h1, h2, h3⟩ := h
  exact ⟨dx, ay, rr, fr, l, st, s _ _ h1, h2.same s, h3⟩
theorem CalX.same {H H' : Hp} {c : Addr} {C : Cal} (h : CalX K H c C) (s : Same H H') : CalX K H' c C := by
  obtain ⟨ws, h1, h2⟩ := h
  exact ⟨ws, h1, h2.same s⟩
theorem CalAt.same {H H' : Hp} {c : Addr} {C : Cal} (h : CalAt K H c C) (s : Same H H') : CalAt K H' c C := by
  obtain ⟨a, h1, h2, h3⟩ := h
  exact ⟨a, h1.same s, s _ _ h2, h3⟩
theorem b8_none {ay rr fr l s : Addr} {C : Cal} {ws : List (Str × V)} (hw : WsOk ws) {m : Str} (h : (b8 0 0 0 0 0 ⟨[], 0, 0, [], []⟩ ++ [(("works" : Str), V.ref 0)]).lookup m = none := by rfl) : (b8 ay rr fr l s C ++ ws).lookup m = none := by
  have key : ∀ (xs ys : List (Str × V)), xs.map (·.1) = ys.map (·.1) → xs.lookup m = none → ys.lookup m = none := fun xs => by
    induction xs with
    | nil =>
      intro ys e _
      cases ys with
      | nil => rfl
      | cons y ys => cases e
    | cons x xs ih =>
      intro ys e hx
      cases ys with
      | nil => cases e
      | cons y ys =>
        obtain ⟨a, b⟩ := x
        obtain ⟨a', b'⟩ := y
        simp only [List.map_cons, List.cons.injEq] at e
        obtain ⟨rfl, e⟩ := e
        rw [List.lookup_cons] at hx ⊢
        split
        · rename_i z
          rw [z] at hx
          cases hx
        · rename_i z
          rw [z] at hx
          exact ih ys e hx
  have one : (b8 ay rr fr l s C ++ [(("works" : Str), V.ref 0)]).lookup m = none := key (b8 0 0 0 0 0 ⟨[], 0, 0, [], []⟩ ++ [(("works" : Str), V.ref 0)]) _ rfl h
  rcases hw with rfl | ⟨a, rfl⟩
  · rw [List.append_nil]
    have := one
    rw [List.lookup_append] at this
    cases z : (b8 ay rr fr l s C).lookup m with
    | none => rfl
    | some v =>
      rw [z] at this
      cases this
  · exact key (b8 ay rr fr l s C ++ [(("works" : Str), V.ref 0)]) _ rfl one
theorem mst_last {ls : List Nat} : atI (mstV ls) (-1) = some (.int (ls.sum : Int)) := by
  refine at_last (n := ls.length) (by unfold mstV; simp) ?_
  unfold mstV
  rw [List.getElem?_map, List.getElem?_range (by omega), Option.map_some, pre_all]
  rfl
theorem mst_len {ls : List Nat} : (mstV ls).length = ls.length + 1 := by
  unfold mstV
  simp
theorem mst_at {ls : List Nat} {k : Nat} (h : k ≤ ls.length) : atI (mstV ls) (k : Int) = some (natV (pre ls k)) := by
  refine at_of (j := k) rfl ?_
  unfold mstV
  rw [List.getElem?_map, List.getElem?_range (by omega)]
  rfl
theorem mst_mod {ls : List Nat} (h0 : 0 < ls.length) (m : Int) : atI (mstV ls) (m % (((ls.map natV).length : Nat) : Int)) = some (natV (pre ls (m % (ls.length : Int)).toNat)) := by
  have h1 := Int.emod_nonneg m (show (ls.length : Int) ≠ 0 by omega)
  have h2 := Int.emod_lt_of_pos m (show (0 : Int) < (ls.length : Int) by omega)
  rw [List.length_map, ← mst_at (show (m % (ls.length : Int)).toNat ≤ ls.length by omega), Int.toNat_of_nonneg h1]
theorem flatC (zs : List Int) : (zs.map V.int).all flatV = true := by
  induction zs with
  | nil => rfl
  | cons z zs ih =>
    rw [List.map_cons, List.all_cons, ih]
    rfl
theorem inC {z : Int} : ∀ {zs : List Int}, inV (.int z) (zs.map V.int) = decide (z ∈ zs)
  | [] => rfl
  | y :: zs => by
    have ih := inC (z := z) (zs := zs)
    unfold inV at ih ⊢
    rw [List.map_cons, List.any_cons, ih, show eqV (.int y) (.int z) = decide (y = z) from rfl, Bool.eq_iff_iff, Bool.or_eq_true, decide_eq_true_iff, decide_eq_true_iff, decide_eq_true_iff, List.mem_cons]
    exact ⟨fun h => h.imp Eq.symm id, fun h => h.imp Eq.symm id⟩
theorem prPs_depth : ∀ zs : List (Int × Int), PyData.depthAll (zs.map prP) ≤ 1
  | [] => Nat.zero_le _
  | z :: zs => by
    have h1 := prPs_depth zs
    have h2 : (prP z).depth = 1 := by simp [prP, PyData.depth, PyData.depthAll]
    simp only [List.map_cons, PyData.depthAll]
    omega
theorem prPs_shaped (zs : List (Int × Int)) : SeqAt.shaped (.tuple (zs.map prP)) = true := by
  have h1 := prPs_depth zs
  show (PyData.canLay0 (.tuple (zs.map prP)) && decide (PyData.depth (.tuple (zs.map prP)) ≤ 64)) = true
  rw [Bool.and_eq_true]
  refine ⟨by simp only [PyData.canLay0]; exact prPs_lay zs, decide_eq_true ?_⟩
  simp only [PyData.depth]
  omega
theorem prPs_nil (zs : List (Int × Int)) : PyData.eqv (.tuple (zs.map prP)) (.tuple []) = zs.isEmpty := by
  cases zs with
  | nil => simp [PyData.eqv, PyData.eqvAll]
  | cons z zs => simp [PyData.eqv, PyData.eqvAll]
def sp_cper (K : Fg) : Sp := fun vs H Q _ => ∃ (c : Addr) (C : Cal), vs = [.ref c] ∧ CalX K H c C ∧ Q (.int (C.per : Int)) H
theorem okC_period (T : Tx K mg) : FnR P w K mg base CX0 1 (He5.wf K (CA K) "property" "period") (sp_cper K) := by
  refine (T.fnR 11 (st := s_Calendar_period) (at_ := fun K => He5.wf K (He.ga K "Calendar") "property" "period") rfl sc_Calendar_period (fun _ _ _ _ _ _ us hl => match us, hl with | [_], _ => rfl)) (fun vs H Q E h => ?_) (fun cdv A outer s H vs Q E hr h => ?_)
  · obtain ⟨c, C, rfl, _⟩ := h
    rfl
  · obtain ⟨c, C, rfl, ⟨ws, hw, dx, ay, rr, fr, l, st, hc, B, ok⟩, q⟩ := h
    refine ⟨_, (pss_one (ps_ret (fld T (pv 0)))), ?_⟩
    exact ⟨_, rfl, c, _, dx, _, _, rfl, hc, T.cl_CA, T.no_CA_turn, rfl, q⟩
theorem pC_period {X : Cx} {k : Nat} {e : Expr} {ta : TE} {pos : Pos} (T : Tx K mg) (hr : Room k X.A) (he : PE X e ta) (hk : 2 ≤ k := by decide) (hK : X.K = K := by rfl) (hm : X.mg = mg := by rfl)
    (hab : attributeBase e "period" X.env (eval e X.env) = eval e X.env := by rfl) : PE X (.Attribute e "period" pos) (tPropR (CA K) (sp_cper K) E0 ta) := by
  subst hK
  subst hm
  exact pe_propR he T.cl_CA T.pr_CA_period (okC_period T) (hr.mono hk) pass0 hab
def sp_cmon (K : Fg) : Sp := fun vs H Q _ => ∃ (c : Addr) (C : Cal), vs = [.ref c] ∧ CalX K H c C ∧ Q (.int (C.mon : Int)) H
theorem okC_months (T : Tx K mg) : FnR P w K mg base CX0 1 (He5.wf K (CA K) "property" "months") (sp_cmon K) := by
  refine (T.fnR 9 (st := s_Calendar_months) (at_ := fun K => He5.wf K (He.ga K "Calendar") "property" "months") rfl sc_Calendar_months (fun _ _ _ _ _ _ us hl => match us, hl with | [_], _ => rfl)) (fun vs H Q E h => ?_) (fun cdv A outer s H vs Q E hr h => ?_)
  · obtain ⟨c, C, rfl, _⟩ := h
    rfl
  · obtain ⟨c, C, rfl, ⟨ws, hw, dx, ay, rr, fr, l, st, hc, B, ok⟩, q⟩ := h
    refine ⟨_, (pss_one (ps_ret (pe_callB (len_k T) (by rfl) T.n_len (by decide +kernel) (pa_cons (pe_ix (ixt T) (fld T (pv 0)) pe_int (fun _ _ => rfl)) pa_nil)))), ?_⟩
    refine ⟨_, rfl, c, _, dx, _, _, rfl, hc, T.cl_CA, T.no_CA_all_years, rfl, ?_⟩
    obtain ⟨ts, ha, hr2⟩ := B.yr
    obtain ⟨t0, e0, h0⟩ := hr2.get (List.getElem?_eq_getElem (i := 0) ok.yr.ne)
    refine ⟨ay, _, _, .ref t0, rfl, rfl, SqT.of ha, at_of (j := 0) rfl (by rw [List.getElem?_map, e0]; rfl), ?_⟩
    refine ⟨t0, _, rfl, .inr (SqT.of h0), ?_⟩
    rw [List.length_map]
    have em : (C.rows[0]'ok.yr.ne).length = C.mon := by
      unfold Cal.mon
      rw [List.getD_eq_getElem?_getD, List.getElem?_eq_getElem ok.yr.ne]
      rfl
    rw [em]
    exact q
theorem pC_months {X : Cx} {k : Nat} {e : Expr} {ta : TE} {pos : Pos} (T : Tx K mg) (hr : Room k X.A) (he : PE X e ta) (hk : 2 ≤ k := by decide) (hK : X.K = K := by rfl) (hm : X.mg = mg := by rfl)
    (hab : attributeBase e "months" X.env (eval e X.env) = eval e X.env := by rfl) : PE X (.Attribute e "months" pos) (tPropR (CA K) (sp_cmon K) E0 ta) := by
  subst hK
  subst hm
  exact pe_propR he T.cl_CA T.pr_CA_months (okC_months T) (hr.mono hk) pass0 hab
def sp_cwkd (K : Fg) : Sp := fun vs H Q _ => ∃ (c : Addr) (C : Cal) (d : Int), vs = [.ref c, .int d] ∧ CalX K H c C ∧ Q (.int (C.wkd d)) H
theorem okC_weekday (T : Tx K mg) : FnR P w K mg base CX0 1 (He.ma K (CA K) "weekday") (sp_cwkd K) := by
  refine (T.fnR 15 (st := s_Calendar_weekday) (at_ := fun K => He.ma K (He.ga K "Calendar") "weekday") rfl sc_Calendar_weekday (fun _ _ _ _ _ _ us hl => match us, hl with | [_, _], _ => rfl)) (fun vs H Q E h => ?_) (fun cdv A outer s H vs Q E hr h => ?_)
  · obtain ⟨c, C, d, rfl, _⟩ := h
    rfl
  · obtain ⟨c, C, d, rfl, ⟨ws, hw, dx, ay, rr, fr, l, st, hc, B, ok⟩, q⟩ := h
    refine ⟨_, (pss_one (ps_ret (pe_op op_mod (pe_op op_add (pv 1) (fld T (pv 0))) (fld T (pv 0))))), ?_⟩
    have w0 := ok.w0
    have w1 := ok.w1
    rfl'
    exact q
theorem mC_weekday {X : Cx} {k : Nat} {o e : Expr} {es : List Expr} {ta : TE} {t : TA} {apos pos : Pos} {pl : Sem Bool} (T : Tx K mg) (hr : Room k X.A) (he : PE X o ta) (ha : PA X (e :: es) t) (hk : 1 ≤ k := by decide) (hK : X.K = K := by rfl) (hm : X.mg = mg := by rfl)
    (hst : starEach (e :: es) X.env = (false, eval e X.env) :: starEach es X.env := by rfl) (hpl : (backTo pos (starEach es X.env)).any (·.1) = false := by rfl)
    (ht : eval (.Call (.Attribute o "weekday" apos) (e :: es) [] pos) X.env = (do
      let ov ← eval o X.env
      standAt apos.atName
      let (f, first) ← holding [ov] (getMethod ov "weekday" pl)
      callWith pos f first (backTo pos (starEach (e :: es) X.env)) (backToKw pos (keywordEach [] X.env))) := by rfl) :
    PE X (.Call (.Attribute o "weekday" apos) (e :: es) [] pos) (tMethR (CA K) "weekday" (sp_cwkd K) E0 ta t) := by
  subst hK
  subst hm
  exact pe_methR he T.cl_CA T.me_CA_weekday (okC_weekday T) (hr.mono hk) pass0 ha hst hpl ht
def sp_cmst (K : Fg) : Sp := fun vs H Q _ => ∃ (c : Addr) (C : Cal) (m : Int), vs = [.ref c, .int m] ∧ CalX K H c C ∧ Q (.int (ms C.ls m)) H
theorem okC_month_start (T : Tx K mg) : FnR P w K mg base CX0 1 (He.ma K (CA K) "month_start") (sp_cmst K) := by
  refine (T.fnR 12 (st := s_Calendar_month_start) (at_ := fun K => He.ma K (He.ga K "Calendar") "month_start") rfl sc_Calendar_month_start (fun _ _ _ _ _ _ us hl => match us, hl with | [_, _], _ => rfl)) (fun vs H Q E h => ?_) (fun cdv A outer s H vs Q E hr h => ?_)
  · obtain ⟨c, C, m, rfl, _⟩ := h
    rfl
  · obtain ⟨c, C, m, rfl, ⟨ws, hw, dx, ay, rr, fr, l, st, hc, B, ok⟩, q⟩ := h
    refine ⟨_, (pss_cons (ps_set (i := 2) sc_Calendar_month_start.nd rfl (Or.inl rfl) (pe_callB (len_k T) (by rfl) T.n_len (by decide +kernel) (pa_cons (fld T (pv 0)) pa_nil)))
 (pss_one (ps_ret (pe_op op_add (pe_op op_mul (pe_op op_fdiv (pv 1) (pv 2)) (pe_ix (ixl T) (fld T (pv 0)) (pe_un un_neg pe_int) (fun _ _ => rfl))) (pe_ix (ixl T) (fld T (pv 0)) (pe_op op_mod (pv 1) (pv 2)) (fun _ _ => rfl)))))), ?_⟩
    have n0 := ok.ne
    have n1 := ok.le
    have hl := B.l
    have hs := B.s
    have s1 := ok.s1
    have el : (C.ls.map natV).length = C.ls.length := List.length_map ..
    rfl'
    refine ⟨mst_last, ?_⟩
    rfl'
    refine ⟨mst_mod n0 m, ?_⟩
    rfl'
    rw [el]
    exact q
theorem mC_month_start {X : Cx} {k : Nat} {o e : Expr} {es : List Expr} {ta : TE} {t : TA} {apos pos : Pos} {pl : Sem Bool} (T : Tx K mg) (hr : Room k X.A) (he : PE X o ta) (ha : PA X (e :: es) t) (hk : 1 ≤ k := by decide) (hK : X.K = K := by rfl) (hm : X.mg = mg := by rfl)
    (hst : starEach (e :: es) X.env = (false, eval e X.env) :: starEach es X.env := by rfl) (hpl : (backTo pos (starEach es X.env)).any (·.1) = false := by rfl)
    (ht : eval (.Call (.Attribute o "month_start" apos) (e :: es) [] pos) X.env = (do
      let ov ← eval o X.env
      standAt apos.atName
      let (f, first) ← holding [ov] (getMethod ov "month_start" pl)
      callWith pos f first (backTo pos (starEach (e :: es) X.env)) (backToKw pos (keywordEach [] X.env))) := by rfl) :
    PE X (.Call (.Attribute o "month_start" apos) (e :: es) [] pos) (tMethR (CA K) "month_start" (sp_cmst K) E0 ta t) := by
  subst hK
  subst hm
  exact pe_methR he T.cl_CA T.me_CA_month_start (okC_month_start T) (hr.mono hk) pass0 ha hst hpl ht
def sp_cmn (K : Fg) : Sp := fun vs H Q _ => ∃ (c : Addr) (C : Cal) (d : Int), vs = [.ref c, .int d] ∧ CalX K H c C ∧ Q (.int (C.num d)) H
theorem okC_month_number (T : Tx K mg) : FnR P w K mg base CX0 2 (He.ma K (CA K) "month_number") (sp_cmn K) := by
  refine (T.fnR 13 (st := s_Calendar_month_number) (at_ := fun K => He.ma K (He.ga K "Calendar") "month_number") rfl sc_Calendar_month_number (fun _ _ _ _ _ _ us hl => match us, hl with | [_, _], _ => rfl)) (fun vs H Q E h => ?_) (fun cdv A outer s H vs Q E hr h => ?_)
  · obtain ⟨c, C, d, rfl, _⟩ := h
    rfl
  · obtain ⟨c, C, d, rfl, ⟨ws, hw, dx, ay, rr, fr, l, st, hc, B, ok⟩, q⟩ := h
    refine ⟨_, (pss_cons (ps_set (i := 2) sc_Calendar_month_number.nd rfl (Or.inl rfl) (pe_ix (ixl T) (fld T (pv 0)) (pe_un un_neg pe_int) (fun _ _ => rfl)))
 (pss_one (ps_ret (pe_op op_add (pe_op op_mul (pe_op op_fdiv (pv 1) (pv 2)) (pe_callB (len_k T) (by rfl) T.n_len (by decide +kernel) (pa_cons (fld T (pv 0)) pa_nil))) (c_month_at T hr (pa_cons (fld T (pv 0)) (pa_cons (pe_op op_mod (pv 1) (pv 2)) pa_nil))))))), ?_⟩
    have n0 := ok.ne
    have n1 := ok.le
    have s0 := ok.s0
    have s1 := ok.s1
    have hl := B.l
    have hs := B.s
    have el : (C.ls.map natV).length = C.ls.length := List.length_map ..
    rfl'
    refine ⟨mst_last, ?_⟩
    have r0 := Int.emod_nonneg d (show (C.ls.sum : Int) ≠ 0 by omega)
    have r1 := Int.emod_lt_of_pos d (show (0 : Int) < (C.ls.sum : Int) by omega)
    obtain ⟨r, er⟩ : ∃ r : Nat, d % (C.ls.sum : Int) = (r : Int) := ⟨_, (Int.toNat_of_nonneg r0).symm⟩
    rfl'
    refine ⟨st, C.ls, r, ?_, SqL.of hs, n0, by omega, ok.pos, by omega, ?_⟩
    · show [V.ref st, V.int (d % (C.ls.sum : Int))] = _
      rw [er]
    refine ⟨_, _, rfl, rfl, ?_⟩
    rw [el]
    have e : C.num d = d / (C.ls.sum : Int) * (C.ls.length : Int) + (loc C.ls r : Int) := by
      unfold Cal.num mn
      rw [er, Int.toNat_natCast]
    rw [e] at q
    exact q
theorem mC_month_number {X : Cx} {k : Nat} {o e : Expr} {es : List Expr} {ta : TE} {t : TA} {apos pos : Pos} {pl : Sem Bool} (T : Tx K mg) (hr : Room k X.A) (he : PE X o ta) (ha : PA X (e :: es) t) (hk : 2 ≤ k := by decide) (hK : X.K = K := by rfl) (hm : X.mg = mg := by rfl)
    (hst : starEach (e :: es) X.env = (false, eval e X.env) :: starEach es X.env := by rfl) (hpl : (backTo pos (starEach es X.env)).any (·.1) = false := by rfl)
    (ht : eval (.Call (.Attribute o "month_number" apos) (e :: es) [] pos) X.env = (do
      let ov ← eval o X.env
      standAt apos.atName
      let (f, first) ← holding [ov] (getMethod ov "month_number" pl)
      callWith pos f first (backTo pos (starEach (e :: es) X.env)) (backToKw pos (keywordEach [] X.env))) := by rfl) :
    PE X (.Call (.Attribute o "month_number" apos) (e :: es) [] pos) (tMethR (CA K) "month_number" (sp_cmn K) E0 ta t) := by
  subst hK
  subst hm
  exact pe_methR he T.cl_CA T.me_CA_month_number (okC_month_number T) (hr.mono hk) pass0 ha hst hpl ht
def sp_cparts (K : Fg) : Sp := fun vs H Q _ => ∃ (c : Addr) (C : Cal) (d : Int), vs = [.ref c, .int d] ∧ CalX K H c C ∧ ∀ (t : Addr) (H' : Hp), Same H H' → H t = none → H' t = some (.tup [.int (C.yr d), .int (C.mth d), .int (C.day d)]) → Q (.ref t) H'
theorem okC_parts (T : Tx K mg) : FnR P w K mg base CX0 3 (He.ma K (CA K) "parts") (sp_cparts K) := by
  refine (T.fnR 14 (st := s_Calendar_parts) (at_ := fun K => He.ma K (He.ga K "Calendar") "parts") rfl sc_Calendar_parts (fun _ _ _ _ _ _ us hl => match us, hl with | [_, _], _ => rfl)) (fun vs H Q E h => ?_) (fun cdv A outer s H vs Q E hr h => ?_)
  · obtain ⟨c, C, d, rfl, _⟩ := h
    rfl
  · obtain ⟨c, C, d, rfl, hX, k⟩ := h
    refine ⟨_, (pss_cons (ps_set (i := 2) sc_Calendar_parts.nd rfl (Or.inl rfl) (mC_month_number T hr (pv 0) (pa_cons (pv 1) pa_nil)))
 (pss_one (ps_ret (pe_tup (pa_cons (pe_op op_fdiv (pv 2) (pC_months T hr (pv 0))) (pa_cons (pe_op op_add (pe_op op_mod (pv 2) (pC_months T hr (pv 0))) pe_int) (pa_cons (pe_op op_add (pe_op op_sub (pv 1) (mC_month_start T hr (pv 0) (pa_cons (pv 2) pa_nil))) pe_int) pa_nil))))))), ?_⟩
    obtain ⟨ws, hw, dx, ay, rr, fr, l, st, hc, B, ok⟩ := id hX
    have m0 := ok.m0
    have m1 := ok.m1
    have k1 : (b8 ay rr fr l st C ++ ws).lookup ("month_number" : Str) = none := b8_none hw
    have k2 : (b8 ay rr fr l st C ++ ws).lookup ("month_start" : Str) = none := b8_none hw
    rfl'
    rename_i p hp H1 s1 f1
    exact k p H1 s1 hp f1
theorem mC_parts {X : Cx} {k : Nat} {o e : Expr} {es : List Expr} {ta : TE} {t : TA} {apos pos : Pos} {pl : Sem Bool} (T : Tx K mg) (hr : Room k X.A) (he : PE X o ta) (ha : PA X (e :: es) t) (hk : 3 ≤ k := by decide) (hK : X.K = K := by rfl) (hm : X.mg = mg := by rfl)
    (hst : starEach (e :: es) X.env = (false, eval e X.env) :: starEach es X.env := by rfl) (hpl : (backTo pos (starEach es X.env)).any (·.1) = false := by rfl)
    (ht : eval (.Call (.Attribute o "parts" apos) (e :: es) [] pos) X.env = (do
      let ov ← eval o X.env
      standAt apos.atName
      let (f, first) ← holding [ov] (getMethod ov "parts" pl)
      callWith pos f first (backTo pos (starEach (e :: es) X.env)) (backToKw pos (keywordEach [] X.env))) := by rfl) :
    PE X (.Call (.Attribute o "parts" apos) (e :: es) [] pos) (tMethR (CA K) "parts" (sp_cparts K) E0 ta t) := by
  subst hK
  subst hm
  exact pe_methR he T.cl_CA T.me_CA_parts (okC_parts T) (hr.mono hk) pass0 ha hst hpl ht
def sp_cisw (K : Fg) : Sp := fun vs H Q _ => ∃ (c : Addr) (C : Cal) (d : Int), vs = [.ref c, .int d] ∧ CalX K H c C ∧ ∀ H' : Hp, Same H H' → Q (.bl (C.isW d)) H'
theorem okC_is_work (T : Tx K mg) : FnR P w K mg base CX0 4 (He.ma K (CA K) "is_work") (sp_cisw K) := by
  refine (T.fnR 16 (st := s_Calendar_is_work) (at_ := fun K => He.ma K (He.ga K "Calendar") "is_work") rfl sc_Calendar_is_work (fun _ _ _ _ _ _ us hl => match us, hl with | [_, _], _ => rfl)) (fun vs H Q E h => ?_) (fun cdv A outer s H vs Q E hr h => ?_)
  · obtain ⟨c, C, d, rfl, _⟩ := h
    rfl
  · obtain ⟨c, C, d, rfl, hX, k⟩ := h
    refine ⟨_, (pss_cons (ps_if (pt_cmpR (inq T) (mC_weekday T hr (pv 0) (pa_cons (pv 1) pa_nil)) (fld T (pv 0)) (by rfl))
 (pss_one (ps_ret pe_bl))
 pss_nil)
 (pss_one (ps_ret (pe_or (pe_cmpR (eqd T hr.units) (fld T (pv 0)) (pe_tup pa_nil) (nomark _)) (pe_one (pe_cmpR (ninP T hr.units) (pe_slice (slt T) (mC_parts T hr (pv 0) (pa_cons (pv 1) pa_nil)) (po_some pe_int) po_none) (fld T (pv 0)) (by rfl))))))), ?_⟩
    obtain ⟨ws, hw, dx, ay, rr, fr, l, st, hc, B, ok⟩ := id hX
    have k1 : (b8 ay rr fr l st C ++ ws).lookup ("weekday" : Str) = none := b8_none hw
    have k2 : (b8 ay rr fr l st C ++ ws).lookup ("parts" : Str) = none := b8_none hw
    obtain ⟨ts, hf, hp⟩ := B.fr
    rfl'
    refine ⟨.inr (SqT.of B.rr), rfl, flatC _, ?_⟩
    rw [if_neg (show ¬ (false = true) by decide), inC]
    refine ⟨_, rfl, ?_⟩
    have iw : C.isW d = (!decide (C.wkd d ∈ C.rest) && !decide ((C.mth d, C.day d) ∈ C.hol)) := rfl
    refine ite2 (fun c1 => ?_) (fun c1 => ?_)
    · rw [c1] at iw
      have := k H (Same.refl _)
      rw [iw] at this
      exact this
    rw [Bool.eq_false_iff.mpr c1, Bool.not_false, Bool.true_and] at iw
    rw [iw] at k
    rfl'
    rename_i p1 hp1 H1 s1 f1
    refine ⟨.tuple (C.hol.map prP), .tuple [], .tup (SqT.of (s1 _ _ hf)) ((hp.same s1).prs).dp, .tup (SqT.of f1) .nil, prPs_shaped _, by decide, ?_⟩
    rw [prPs_nil]
    refine ⟨_, rfl, ?_⟩
    refine ite2 (fun c2 => ?_) (fun c2 => ?_)
    · have hn : C.hol = [] := List.isEmpty_iff.mp c2
      have := k H1 s1
      rw [hn] at this
      exact this
    have hc1 := s1 _ _ hc
    have hX1 := hX.same s1
    rfl'
    rename_i o H2 s2 ho
    intro e2
    have hc2 := s2 _ _ hc1
    rfl'
    refine ⟨fun h => absurd (show HT.sIx 3 0 (some 1) = 0 from h.1) (by decide), fun p3 hp3 => ?_⟩
    rw [show cutV [V.int (C.yr d), V.int (C.mth d), V.int (C.day d)] (some 1) none = [V.int (C.mth d), V.int (C.day d)] from rfl]
    have s3 := same_upd (o := .tup [V.int (C.mth d), V.int (C.day d)]) hp3
    have sH := (s1.trans s2).trans s3
    refine ⟨_, rfl, c, _, dx, _, _, rfl, s3 _ _ hc2, T.cl_CA, T.no_CA_free_days, rfl, ?_⟩
    exact ⟨p3, fr, (C.mth d, C.day d), ts, C.hol, rfl, rfl, SqT.of upd_same, .inr (SqT.of (sH _ _ hf)), (hp.same sH).prs, k _ sH⟩
theorem mC_is_work {X : Cx} {k : Nat} {o e : Expr} {es : List Expr} {ta : TE} {t : TA} {apos pos : Pos} {pl : Sem Bool} (T : Tx K mg) (hr : Room k X.A) (he : PE X o ta) (ha : PA X (e :: es) t) (hk : 4 ≤ k := by decide) (hK : X.K = K := by rfl) (hm : X.mg = mg := by rfl)
    (hst : starEach (e :: es) X.env = (false, eval e X.env) :: starEach es X.env := by rfl) (hpl : (backTo pos (starEach es X.env)).any (·.1) = false := by rfl)
    (ht : eval (.Call (.Attribute o "is_work" apos) (e :: es) [] pos) X.env = (do
      let ov ← eval o X.env
      standAt apos.atName
      let (f, first) ← holding [ov] (getMethod ov "is_work" pl)
      callWith pos f first (backTo pos (starEach (e :: es) X.env)) (backToKw pos (keywordEach [] X.env))) := by rfl) :
    PE X (.Call (.Attribute o "is_work" apos) (e :: es) [] pos) (tMethR (CA K) "is_work" (sp_cisw K) E0 ta t) := by
  subst hK
  subst hm
  exact pe_methR he T.cl_CA T.me_CA_is_work (okC_is_work T) (hr.mono hk) pass0 ha hst hpl ht
def sp_cfw (K : Fg) : Sp := fun vs H Q _ => ∃ (c : Addr) (C : Cal), vs = [.ref c] ∧ CalX K H c C ∧ ∀ (t : Addr) (H' : Hp), Same H H' → H t = none → H' t = some (.lst (C.works.map natV)) → Q (.ref t) H'
theorem okC_first_works (T : Tx K mg) : FnR P w K mg base CX0 5 (He.ma K (CA K) "first_works") (sp_cfw K) := by
  refine (T.fnR 3 (st := s_Calendar_first_works) (at_ := fun K => He.ma K (He.ga K "Calendar") "first_works") rfl sc_Calendar_first_works (fun _ _ _ _ _ _ us hl => match us, hl with | [_], _ => rfl)) (fun vs H Q E h => ?_) (fun cdv A outer s H vs Q E hr h => ?_)
  · obtain ⟨c, C, rfl, _⟩ := h
    rfl
  · obtain ⟨c, C, rfl, hX, k⟩ := h
    refine ⟨_, (pss_cons (ps_par (i := 1) (j := 2) (by rfl) sc_Calendar_first_works.nd rfl rfl (by decide) rfl rfl (pa_cons (pC_period T hr (pv 0)) (pa_cons (pe_lst pa_nil) pa_nil)) (by rfl))
 (pss_cons (ps_for PassesOwn.never rfl (pi_range1 rfl T.n_range (pa_cons (pv 1) pa_nil)) (pg_name (i := 3) sc_Calendar_first_works.nd rfl (Or.inl rfl))
 (pss_one (ps_if (pt_val (mC_is_work T hr (pv 0) (pa_cons (pv 3) pa_nil)))
 (pss_cons (ps_expr (bmk T PySem.F.plainAttrs_list PySem.F.slot_list_append PySem.F.type_list_append mt_append (pv 2) (pa_cons (pv 3) pa_nil)))
 (pss_one (ps_if (pt_cmpR op_gt (pv 1) (pe_glob (v := .int 2000) rfl (T.g_SHORT_PERIOD).choose_spec ⟨_, rfl⟩) (nomark _))
 (pss_one (ps_ret (pv 2)))
 pss_nil)))
 pss_nil)))
 (pss_one (ps_ret (pv 2))))), ?_⟩
    obtain ⟨ws, hw, dx, ay, rr, fr, l, st, hc, B, ok⟩ := id hX
    have k1 : (b8 ay rr fr l st C ++ ws).lookup ("is_work" : Str) = none := b8_none hw
    have p0 := ok.p0
    have p1 := ok.per
    rfl'
    rename_i D hD H1 s1 f1
    rw [Int.toNat_natCast]
    refine for_range0 (n := C.per) (fun i σ H' => (∃ v3 : Option V, σ = [some (.ref c), some (.int (C.per : Int)), some (.ref D), v3]) ∧ Same H H' ∧ H' D = some (.lst ((C.wrkN i).map natV)) ∧ (2000 < C.per → C.wrkN i = [])) ⟨⟨_, rfl⟩, s1, f1, fun _ => rfl⟩ ?_ ?_
    · rintro i σ H2 hi ⟨⟨v3, rfl⟩, s2, f2, z2⟩
      have hc2 := s2 _ _ hc
      have hX2 := hX.same s2
      rfl'
      rename_i H3 s3
      have f3 := s3 _ _ f2
      have wl := Cal.wrkN_len (C := C) i
      have hs := Cal.wrkN_succ (C := C) i
      have ll : ((C.wrkN i).map natV).length ≤ i := by rw [List.length_map]; exact wl
      have sz1 : ((C.wrkN i).map natV).length < sizeLine := by rw [sizeLine_eq]; omega
      refine ite2 (fun cw => ?_) (fun cw => ?_)
      · rw [if_pos cw] at hs
        rfl'
        refine ite2 (fun c2 => ?_) (fun c2 => ?_)
        · have c2 : (2000 : Int) < (C.per : Int) := of_decide_eq_true c2
          refine ⟨_, rfl, k D _ (same_under (s2.trans s3) hD) hD ?_⟩
          rw [upd_same, Cal.works_first hi (by omega) (z2 (by omega)) cw, z2 (by omega)]
          rfl
        · have c2 : ¬ (2000 : Int) < (C.per : Int) := fun e => c2 (decide_eq_true e)
          refine ⟨⟨_, rfl⟩, same_under (s2.trans s3) hD, ?_, fun z => absurd z (by omega)⟩
          rw [upd_same, hs, List.map_append]
          rfl
      · rw [if_neg cw, List.append_nil] at hs
        exact ⟨⟨_, rfl⟩, s2.trans s3, by rw [hs]; exact f3, fun z => by rw [hs]; exact z2 z⟩
    · rintro σ H2 ⟨⟨v3, rfl⟩, s2, f2, z2⟩
      refine ⟨_, rfl, ?_⟩
      refine k D H2 s2 hD ?_
      rw [f2, Cal.works_end z2]
theorem mC_first_works {X : Cx} {k : Nat} {o : Expr} {ta : TE} {apos pos : Pos} {pl : Sem Bool} (T : Tx K mg) (hr : Room k X.A) (he : PE X o ta) (hk : 5 ≤ k := by decide) (hK : X.K = K := by rfl) (hm : X.mg = mg := by rfl)
    (ht : eval (.Call (.Attribute o "first_works" apos) [] [] pos) X.env = (do
      let ov ← eval o X.env
      standAt apos.atName
      let (f, first) ← holding [ov] (getMethod ov "first_works" pl)
      callWith pos f first (backTo pos (starEach [] X.env)) (backToKw pos (keywordEach [] X.env))) := by rfl) :
    PE X (.Call (.Attribute o "first_works" apos) [] [] pos) (tMethR (CA K) "first_works" (sp_cfw K) E0 ta tNil) := by
  subst hK
  subst hm
  exact pe_m0R he T.cl_CA T.me_CA_first_works (okC_first_works T) (hr.mono hk) pass0 ht
end
end Lw

--auto
namespace Lw
open PySem PySem.Spec PyProof.Rows L2 My
section
variable {P : Program} {w : World} {K : Fg} {mg : Str → Option Value} {base : Heap}
/-! ### an instance that is being filled -/
def IsIns (H : Hp) (x : Addr) : Prop := ∃ C dx fs, H x = some (.ins C dx fs)
def StayI (x : Addr) (F : Hp → Prop) : Prop := ∀ H H' : Hp, Kx x H H' → IsIns H x → F H → F H'
structure Ini (C : Addr) (H0 H : Hp) (x dx : Addr) (fs : List (Str × V)) (Fs : List (Hp → Prop)) : Prop where
  at_ : H x = some (.ins C dx fs)
  kx : Kx x H0 H
  all : ∀ F ∈ Fs, StayI x F ∧ F H
section
variable {Cl : Addr} {H0 H H' : Hp} {x dx a : Addr} {fs gs : List (Str × V)} {Fs : List (Hp → Prop)} {F : Hp → Prop} {xs : List V}
theorem Ini.step (i : Ini Cl H0 H x dx fs Fs) (k : Kx x H H') (e : H' x = some (.ins Cl dx gs)) : Ini Cl H0 H' x dx gs Fs :=
  ⟨e, fun b u h nb => k b u (i.kx b u h nb) nb, fun F hF => ⟨(i.all F hF).1, (i.all F hF).1 _ _ k ⟨_, _, _, i.at_⟩ (i.all F hF).2⟩⟩
theorem Ini.same (i : Ini Cl H0 H x dx fs Fs) (s : Same H H') : Ini Cl H0 H' x dx fs Fs := i.step (kx_same s) (s _ _ i.at_)
theorem Ini.put (i : Ini Cl H0 H x dx fs Fs) : Ini Cl H0 (upd H x (.ins Cl dx gs)) x dx gs Fs := i.step (fun b u e nb => by rw [upd_ne nb]; exact e) upd_same
theorem Ini.add (i : Ini Cl H0 H x dx fs Fs) (s : StayI x F) (h : F H) : Ini Cl H0 H x dx fs (F :: Fs) := ⟨i.at_, i.kx, fun G hG => by
  rcases List.mem_cons.mp hG with rfl | hG
  · exact ⟨s, h⟩
  · exact i.all G hG⟩
theorem Ini.go {R : Hp → Prop} (i : Ini Cl H0 H x dx fs Fs) (k : ∀ H', Ini Cl H0 H' x dx fs Fs → R H') : R H := k H i
theorem Ini.get (i : Ini Cl H0 H x dx fs Fs) (n : Nat) (h : Fs[n]? = some F := by rfl) : F H := (i.all F (List.mem_of_getElem? h)).2
theorem ins_ne {o : HO} (h : H a = some o) (i : IsIns H x) (no : ∀ C dx fs, o ≠ .ins C dx fs) : a ≠ x := fun e => by
  obtain ⟨C, dx, fs, z⟩ := i
  rw [e, z] at h
  exact no _ _ _ (Option.some.inj h).symm
theorem si_lst : StayI x (fun H => H a = some (.lst xs)) := fun _ _ k i h => k _ _ h (ins_ne h i fun _ _ _ z => by cases z)
theorem si_tup : StayI x (fun H => H a = some (.tup xs)) := fun _ _ k i h => k _ _ h (ins_ne h i fun _ _ _ z => by cases z)
theorem si_seqV : StayI x (fun H => SeqV H a xs) := fun _ _ k i h => h.elim (fun h => .inl (si_lst _ _ k i h)) fun h => .inr (si_tup _ _ k i h)
theorem si_paired {α β : Type} {R : Hp → α → β → Prop} (h : ∀ t r, StayI x (fun H => R H t r)) : ∀ {ts : List α} {rs : List β}, StayI x (fun H => Paired (R H) ts rs) := fun {ts rs} H H' k i p => by
  induction p with
  | nil => exact .nil
  | cons q _ ih => exact .cons (h _ _ _ _ k i q) ih
theorem si_seqK : StayI x (fun H => SeqK K H a xs) := fun _ _ k i h => h.elim (fun h => .inl (si_seqV _ _ k i h)) .inr
theorem si_rowsV {ts : List Addr} {rows : List (List Nat)} : StayI x (fun H => RowsV H ts rows) := si_paired (R := fun (H : Hp) (t : Addr) (r : List Nat) => SeqV H t (r.map natV)) fun _ _ => si_seqV
theorem si_rowsT {ts : List Addr} {rows : List (List Nat)} : StayI x (fun H => RowsT H ts rows) := si_paired (R := fun (H : Hp) (t : Addr) (r : List Nat) => H t = some (.tup (r.map natV))) fun _ _ => si_tup
theorem si_prT {ts : List Addr} {ps : List (Int × Int)} : StayI x (fun H => PrT H ts ps) := si_paired (R := fun (H : Hp) (t : Addr) (p : Int × Int) => H t = some (.tup [.int p.1, .int p.2])) fun _ _ => si_tup
end
theorem Ini.free {Cl : Addr} {H0 H : Hp} {x dx a : Addr} {fs : List (Str × V)} {Fs : List (Hp → Prop)} (i : Ini Cl H0 H x dx fs Fs) (h : H a = none) : H0 a = none := by
  cases z : H0 a with
  | none => rfl
  | some o =>
    have ne : a ≠ x := fun e => by
      rw [e, i.at_] at h
      cases h
    rw [i.kx _ _ z ne] at h
    cases h
/-- a calendar whose lists are newer than H0 -/
def CalNew (K : Fg) (H0 H : Hp) (c : Addr) (C : Cal) : Prop := ∃ a dx ay rr fr l s : Addr, H c = some (.ins (CA K) dx (b8 ay rr fr l s C ++ [(("works" : Str), V.ref a)])) ∧ CalB H C ay rr fr l s ∧ C.Ok ∧ H a = some (.lst (C.works.map natV)) ∧ C.works ≠ [] ∧ H0 a = none ∧ H0 l = none ∧ H0 s = none
theorem CalNew.at_ {H0 H : Hp} {c : Addr} {C : Cal} (h : CalNew K H0 H c C) : CalAt K H c C := by
  obtain ⟨a, dx, ay, rr, fr, l, s, h1, h2, h3, h4, h5, _⟩ := h
  exact ⟨a, ⟨dx, ay, rr, fr, l, s, h1, h2, h3⟩, h4, h5⟩
theorem CalNew.same {H0 H H' : Hp} {c : Addr} {C : Cal} (h : CalNew K H0 H c C) (sm : Same H H') : CalNew K H0 H' c C := by
  obtain ⟨a, dx, ay, rr, fr, l, s, h1, h2, h3, h4, h5, h6⟩ := h
  exact ⟨a, dx, ay, rr, fr, l, s, sm _ _ h1, h2.same sm, h3, sm _ _ h4, h5, h6⟩
theorem CalNew.from {H0 H1 H : Hp} {c : Addr} {C : Cal} (h : CalNew K H1 H c C) (sm : Same H0 H1) : CalNew K H0 H c C := by
  obtain ⟨a, dx, ay, rr, fr, l, s, h1, h2, h3, h4, h5, h6, h7, h8⟩ := h
  exact ⟨a, dx, ay, rr, fr, l, s, h1, h2, h3, h4, h5, sm.free h6, sm.free h7, sm.free h8⟩
/-- an older list is written -/
theorem CalNew.set {H0 H : Hp} {c q : Addr} {C : Cal} {o u : HO} {xs : List V} (h : CalNew K H0 H c C) (h0 : H0 q = some u) (hq : H q = some (.lst xs)) : CalNew K H0 (upd H q o) c C := by
  obtain ⟨a, dx, ay, rr, fr, l, s, h1, ⟨⟨t1, a1, a2⟩, b1, ⟨t2, c1, c2⟩, d1, e1⟩, h3, h4, h5, h6, h7, h8⟩ := h
  have N : ∀ {b : Addr}, H0 b = none → b ≠ q := fun z e => by
    rw [e, h0] at z
    cases z
  have T : ∀ {b : Addr} {zs : List V}, H b = some (.tup zs) → upd H q o b = some (.tup zs) := fun {b zs} z => by
    rw [upd_ne (fun e => by rw [e, hq] at z; cases z)]
    exact z
  have L : ∀ {b : Addr} {zs : List V}, H0 b = none → H b = some (.lst zs) → upd H q o b = some (.lst zs) := fun n z => (upd_ne (N n)).trans z
  have R : ∀ {ts : List Addr} {rows : List (List Nat)}, RowsT H ts rows → RowsT (upd H q o) ts rows := fun {ts rows} h => by
    induction h with
    | nil => exact .nil
    | cons h _ ih => exact .cons (T h) ih
  have R2 : ∀ {ts : List Addr} {ps : List (Int × Int)}, PrT H ts ps → PrT (upd H q o) ts ps := fun {ts rows} h => by
    induction h with
    | nil => exact .nil
    | cons h _ ih => exact .cons (T h) ih
  exact ⟨a, dx, ay, rr, fr, l, s, (upd_ne (fun e => by rw [e, hq] at h1; cases h1)).trans h1, ⟨⟨t1, T a1, R a2⟩, T b1, ⟨t2, T c1, R2 c2⟩, L h7 d1, L h8 e1⟩, h3, L h6 h4, h5, h6, h7, h8⟩
theorem PrT.mem {H : Hp} {f : Addr → Int × Int} : ∀ {ts : List Addr} {ps : List (Int × Int)}, PrT H ts ps → ps = ts.map f → ∀ t ∈ ts, H t = some (.tup [.int (f t).1, .int (f t).2])
  | _, _, .nil, _, t, h => by cases h
  | _, _, .cons (a := u) h r, e, t, ht => by
    rw [List.map_cons] at e
    obtain ⟨rfl, e2⟩ := List.cons.inj e
    rcases List.mem_cons.mp ht with rfl | ht
    · exact h
    · exact PrT.mem r e2 t ht
theorem PrT.of {H : Hp} {f : Addr → Int × Int} : ∀ {ts : List Addr}, (∀ t ∈ ts, H t = some (.tup [.int (f t).1, .int (f t).2])) → PrT H ts (ts.map f)
  | [], _ => .nil
  | t :: ts, h => .cons (h t (List.mem_cons_self ..)) (PrT.of fun x hx => h x (List.mem_cons_of_mem _ hx))
theorem RowsT.updL {H : Hp} {D : Addr} {o : HO} {zs : List V} (hD : H D = some (.lst zs)) : ∀ {ts : List Addr} {rows : List (List Nat)}, RowsT H ts rows → RowsT (upd H D o) ts rows
  | _, _, .nil => .nil
  | _, _, .cons (a := t) h r => .cons (by
      have : t ≠ D := fun e => by
        rw [e, hD] at h
        cases h
      show upd H D o t = _
      rw [upd_ne this]
      exact h) (RowsT.updL hD r)
theorem RowsT.snoc {H : Hp} {t : Addr} {row : List Nat} (ht : H t = some (.tup (row.map natV))) : ∀ {ts : List Addr} {rows : List (List Nat)}, RowsT H ts rows → RowsT H (ts ++ [t]) (rows ++ [row])
  | _, _, .nil => .cons ht .nil
  | _, _, .cons h r => .cons h (RowsT.snoc ht r)
/-- a row more in the list at D -/
theorem row_push {H3 H5 : Hp} {D l : Addr} {us : List Addr} {rows : List (List Nat)} {row : List Nat} {i : Nat} (hD : H3 D = none) (s : Same H3 H5) (e : H5 D = some (.lst (us.map V.ref))) (ul : us.length = i) (hu : RowsT H5 us (rows.take i)) (hr : rows[i]? = some row) (hl : H5 l = some (.tup (row.map natV))) (hi : i < 1000) :
    ∃ acc, H5 D = some (.lst acc) ∧ acc.length < sizeLine ∧ (fun H' => Same H3 H' ∧ ∃ us : List Addr, H' D = some (.lst (us.map V.ref)) ∧ us.length = i + 1 ∧ RowsT H' us (rows.take (i + 1))) (upd H5 D (.lst (acc ++ [.ref l]))) := by
  refine ⟨_, e, by rw [List.length_map, sizeLine_eq]; omega, same_under s hD, us ++ [l], by rw [upd_same, List.map_append]; rfl, by rw [List.length_append, ul]; rfl, ?_⟩
  rw [List.take_succ, hr]
  refine RowsT.snoc ?_ (hu.updL e)
  have : l ≠ D := fun z => by
    rw [z, e] at hl
    cases hl
  rw [upd_ne this]
  exact hl
def sp_cinit (K : Fg) : Sp := fun vs H Q _ => ∃ (x dx y r h : Addr) (ts hs : List Addr) (C : Cal), vs = [.ref x, .ref y, .int (C.week : Int), .int (C.first : Int), .ref r, .ref h] ∧ H x = some (.ins (CA K) dx []) ∧ SeqV H y (ts.map V.ref) ∧ RowsV H ts C.rows ∧ SeqK K H r (C.rest.map V.int) ∧ SeqK K H h (hs.map V.ref) ∧ PrT H hs C.hol ∧ C.Ok ∧ C.works ≠ [] ∧
  ∀ (rs : List Int) (ps : List (Int × Int)) (H' : Hp), rs.Perm C.rest → rs.Pairwise (· ≤ ·) → ps.Perm C.hol → ps.Pairwise (fun a b => a.1 * 64 + a.2 ≤ b.1 * 64 + b.2) → CalNew K H H' x (C.re rs ps) → Kx x H H' → Q .non H'
theorem oka_cinit (T : Tx K mg) : FnA P w K mg base 6 (He.ma K (CA K) "__init__") "__init__" "Calendar.__init__" s_Calendaru_initu [V.int 7] [("self" : Str), ("years" : Str), ("week" : Str), ("first" : Str), ("rest" : Str), ("holidays" : Str)] (sp_cinit K) := by
  refine (T.fnA 0 (st := s_Calendaru_initu) (at_ := fun K => He.ma K (He.ga K "Calendar") "__init__") rfl sc_Calendaru_initu) (fun vs H Q E h => ?_) (fun cdv A outer s H vs Q E hr h => ?_)
  · obtain ⟨x, dx, y, r, h, ts, hs, C, rfl, _⟩ := h
    rfl
  · obtain ⟨x, dx, y, r, hh, ts, hs, C, rfl, hx, hy, hrw, hrs, hhs, hps, ok, wk, k⟩ := h
    refine ⟨_, (pss_cons (ps_if (pt_not (pt_val (c_are_years T hr (pa_cons (pv 1) pa_nil))))
 (pss_one ps_never)
 pss_nil)
 (pss_cons (ps_if (pt_not (pt_val (c_is_between T hr (pa_cons (pv 2) (pa_cons pe_int (pa_cons (pe_glob (v := .int 10) rfl (T.g_MAX_WEEK).choose_spec ⟨_, rfl⟩) pa_nil))))))
 (pss_one ps_never)
 pss_nil)
 (pss_cons (ps_if (pt_not (pt_val (c_is_between T hr (pa_cons (pv 3) (pa_cons pe_int (pa_cons (pe_op op_sub (pv 2) pe_int) pa_nil))))))
 (pss_one ps_never)
 pss_nil)
 (pss_cons (ps_if (pt_not (pt_val (c_are_weekdays T hr (pa_cons (pv 4) (pa_cons (pv 2) pa_nil)))))
 (pss_one ps_never)
 pss_nil)
 (pss_cons (ps_if (pt_not (pt_val (c_are_holidays T hr (pa_cons (pv 5) (pa_cons (pe_callB (len_k T) (by rfl) T.n_len (by decide +kernel) (pa_cons (pe_ix (ixq T) (pv 1) pe_int (fun _ _ => rfl)) pa_nil)) pa_nil)))))
 (pss_one ps_never)
 pss_nil)
 (pss_cons (ps_fld (pv 0) (pe_callTy (tup_k T) (by rfl) T.n_tuple (by decide +kernel) (pa_cons (pe_lc (own := [("year", 6)]) rfl sc_Calendaru_initu.nd (pis T (pv 1)) (blkOk_by (own := [("year", 6)]) (N := N_Calendaru_initu) (sc := defScope s_Calendaru_initu) (by decide +kernel)) (fun _ _ _ _ _ => (pg_name (i := 6) sc_Calendaru_initu.nd rfl (Or.inl rfl))) (fun _ _ _ _ _ => pts_nil) (fun _ _ _ _ _ => (pe_callTy (tup_k T) (by rfl) T.n_tuple (by decide +kernel) (pa_cons (pv 6) pa_nil)))) pa_nil)) rfl)
 (pss_cons (ps_asg (pe_tup (pa_cons (pv 2) (pa_cons (pv 3) pa_nil))) (pgt T (n := 2) rfl (pgs_cons (pg_fld (pv 0)) (pgs_cons (pg_fld (pv 0)) pgs_nil))))
 (pss_cons (ps_asg (pe_tup (pa_cons (pe_callTy (tup_k T) (by rfl) T.n_tuple (by decide +kernel) (pa_cons (pe_callB (srtQ_k T) (by rfl) T.n_sorted (by decide +kernel) (pa_cons (pv 4) pa_nil)) pa_nil)) (pa_cons (pe_callTy (tup_k T) (by rfl) T.n_tuple (by decide +kernel) (pa_cons (pe_callB (srtPQ_k T) (by rfl) T.n_sorted (by decide +kernel) (pa_cons (pv 5) pa_nil)) pa_nil)) pa_nil))) (pgt T (n := 2) rfl (pgs_cons (pg_fld (pv 0)) (pgs_cons (pg_fld (pv 0)) pgs_nil))))
 (pss_cons (ps_fld (pv 0) (pe_lc2 (vs1 := [7]) (own := [("year", 6), ("days", 7)]) rfl sc_Calendaru_initu.nd (pis T (pv 1)) (blkOk_by (own := [("year", 6), ("days", 7)]) (N := N_Calendaru_initu) (sc := defScope s_Calendaru_initu) (by decide +kernel)) (by decide) (fun _ _ _ _ _ => (pg_name (i := 6) sc_Calendaru_initu.nd rfl (Or.inl rfl))) (fun _ _ _ _ _ => pts_nil) (fun _ _ _ _ _ => (pis T (pv 6))) (fun _ _ _ _ _ => (pg_name (i := 7) sc_Calendaru_initu.nd rfl (Or.inl rfl))) (fun _ _ _ _ _ => pts_nil) (fun _ _ _ _ _ => (pv 7))) rfl)
 (pss_cons (ps_fld (pv 0) (c_month_starts T hr (pa_cons (fld T (pv 0)) pa_nil)) rfl)
 (pss_cons (ps_fld (pv 0) (c_common_multiple T hr (pa_cons (pe_ix (ixl T) (fld T (pv 0)) (pe_un un_neg pe_int) (fun _ _ => rfl)) (pa_cons (pv 2) pa_nil))) rfl)
 (pss_cons (ps_if (pt_cmpR op_gt (pC_period T hr (pv 0)) (pe_glob (v := .int 200000) rfl (T.g_MAX_PERIOD).choose_spec ⟨_, rfl⟩) (nomark _))
 (pss_one ps_never)
 pss_nil)
 (pss_cons (ps_fld (pv 0) (mC_first_works T hr (pv 0)) rfl)
 (pss_one (ps_if (pt_cmpR (eqi T hr.units) (fld T (pv 0)) (pe_lst pa_nil) (nomark _))
 (pss_one ps_never)
 pss_nil))))))))))))))), ?_⟩
    have I0 : Ini (CA K) H H x dx [] [fun H => SeqV H y (ts.map V.ref), fun H => RowsV H ts C.rows, fun H => SeqK K H r (C.rest.map V.int), fun H => SeqK K H hh (hs.map V.ref), fun H => PrT H hs C.hol] :=
      ((((Ini.add ⟨hx, fun _ _ e _ => e, fun _ h => by cases h⟩ si_prT hps).add si_seqK hhs).add si_seqK hrs).add si_rowsV hrw).add si_seqV hy
    have w0 := ok.w0
    have w1 := ok.w1
    have wf := ok.f
    refine ⟨_, rfl, y, ts, C.rows, rfl, I0.get 0, I0.get 1, ok.yr, fun H1 s1 => ?_⟩
    have I1 := I0.same s1
    clear I0 s1 hx hy hrw hrs hhs hps
    refine ⟨_, rfl, ?_⟩
    refine iteF ?_
    refine ⟨_, rfl, (C.week : Int), 1, 10, rfl, ?_⟩
    rw [decide_eq_true (show (1 : Int) ≤ (C.week : Int) by omega), decide_eq_true (show (C.week : Int) ≤ 10 by omega)]
    refine ⟨_, rfl, ?_⟩
    refine iteF ?_
    refine ⟨_, rfl, _, rfl, _, _, rfl, rfl, (C.first : Int), 0, (C.week : Int) - 1, rfl, ?_⟩
    rw [decide_eq_true (show (0 : Int) ≤ (C.first : Int) by omega), decide_eq_true (show (C.first : Int) ≤ (C.week : Int) - 1 by omega)]
    refine ⟨_, rfl, ?_⟩
    refine iteF ?_
    refine ⟨_, rfl, _, rfl, r, C.rest, (C.week : Int), rfl, I1.get 2, ok.rnd, ok.rest, by have := ok.rl; omega, fun H2 s2 => ?_⟩
    have I2 := I1.same s2
    clear I1 s2
    refine ⟨_, rfl, ?_⟩
    refine iteF ?_
    refine ⟨_, rfl, _, rfl, ?_⟩
    obtain ⟨t0, e0, h0⟩ := (I2.get 1 : RowsV H2 ts C.rows).get (List.getElem?_eq_getElem (i := 0) ok.yr.ne)
    refine ixq_go (j := 0) (I2.get 0) (by rw [List.getElem?_map, e0]; rfl) ?_
    refine ⟨t0, _, rfl, h0.sq, ?_⟩
    have em : (C.rows[0]'ok.yr.ne).length = C.mon := by
      unfold Cal.mon
      rw [List.getD_eq_getElem?_getD, List.getElem?_eq_getElem ok.yr.ne]
      rfl
    rw [List.length_map, em]
    refine ⟨hh, hs, C.hol, (C.mon : Int), rfl, I2.get 3, I2.get 4, ok.hnd, ok.hol, ok.hl, fun H3 s3 => ?_⟩
    have I3 := I2.same s3
    clear I2 s3 h0 e0 em
    refine ⟨_, rfl, ?_⟩
    refine iteF ?_
    refine ⟨_, rfl, ?_⟩
    refine seq_goC (I3.get 0 : SeqV H3 y (ts.map V.ref)).sq fun J G wk2 hG D hD => ?_
    have L1 : (ts.map V.ref).length = C.rows.length := by rw [List.length_map, (I3.get 1 : RowsV H3 ts C.rows).len]
    refine walk_w wk2 (fun i H' => Same H3 H' ∧ ∃ us : List Addr, H' D = some (.lst (us.map V.ref)) ∧ us.length = i ∧ RowsT H' us (C.rows.take i)) ⟨same_upd hD, [], upd_same, rfl, .nil⟩ (fun i H4 _ h => hG H4 h.1) ?_ ?_
    · rintro i v H4 H5 hi ⟨s4, us, e4, ul, hu⟩ ⟨rfl, ev⟩
      obtain ⟨t, et, rfl⟩ := ref_at ev
      obtain ⟨row, er, hs5⟩ := (I3.get 1 : RowsV H3 ts C.rows).at et
      have hs6 := hs5.same s4
      refine ⟨rfl, ?_⟩
      refine yes_t ?_
      refine ⟨_, rfl, ?_⟩
      have li : i < 1000 := by have := ok.yr.le; omega
      rcases hs6 with h6 | h6
      · refine ⟨t, _, rfl, .inl ⟨SqL.of h6, fun l hl => ?_⟩⟩
        have s6 := same_upd (o := .tup (row.map natV)) hl
        exact row_push hD (s4.trans s6) (s6 _ _ e4) ul (hu.same s6) er upd_same li
      · refine ⟨t, _, rfl, .inr ⟨SqT.of h6, ?_⟩⟩
        exact row_push hD s4 e4 ul hu er h6 li
    rintro H4 ⟨s4, us, e4, ul, hu⟩
    rw [L1, List.take_length] at hu
    refine ⟨D, _, rfl, .inl ⟨SqL.of e4, fun ay hay => ?_⟩⟩
    have s5 := same_upd (o := .tup (us.map V.ref)) hay
    have I4 := ((I3.same (s4.trans s5)).add si_rowsT (hu.same s5)).add si_tup (upd_same : upd H4 ay (.tup (us.map V.ref)) ay = _)
    clear I3 hD wk2 hG L1
    refine ⟨_, rfl, x, _, dx, [], rfl, I4.at_, T.cl_CA, T.no_CA_all_years, (by show 0 < 1000; decide), ?_⟩
    have I5 := I4.put (gs := [("all_years", V.ref ay)])
    refine Ini.go (R := tSeq _ _ _ _) I5 fun H5 I5 => ?_
    clear I4 s5 hay e4 s4 hu
    refine ⟨_, rfl, _, rfl, by show 2 ≤ sizeLine; decide, fun t ht => ?_⟩
    have I6 := I5.same (same_upd (o := .tup [V.int (C.week : Int), V.int (C.first : Int)]) ht)
    refine ⟨t, _, rfl, SqT.of upd_same, rfl, _, _, rfl, _, rfl, x, _, dx, _, rfl, I6.at_, T.cl_CA, T.no_CA_days_of_week, (by show 1 < 1000; decide), ?_⟩
    have I7 := I6.put (gs := [("all_years", V.ref ay), ("days_of_week", .int (C.week : Int))])
    refine ⟨_, _, rfl, _, rfl, x, _, dx, _, rfl, I7.at_, T.cl_CA, T.no_CA_begins, (by show 2 < 1000; decide), rfl, ?_⟩
    have I8 := I7.put (gs := [("all_years", V.ref ay), ("days_of_week", .int (C.week : Int)), ("begins", .int (C.first : Int))])
    refine Ini.go (R := tSeq _ _ _ _) I8 fun H6 I8 => ?_
    clear I5 I6 I7 ht
    refine ⟨_, rfl, r, C.rest, rfl, (I8.get 4 : SeqK K H6 r (C.rest.map V.int)).sq, ok.rl, fun rs rp rsp rso hrp => ?_⟩
    have sa := same_upd (o := .lst (rs.map V.int)) hrp
    refine ⟨rp, _, rfl, .inl ⟨SqL.of upd_same, fun rr hrr => ?_⟩⟩
    have sb := same_upd (o := .tup (rs.map V.int)) hrr
    have I9 := (I8.same (sa.trans sb)).add si_tup upd_same
    refine ⟨_, rfl, hh, hs, C.hol, rfl, (I9.get 6 : SeqK K _ hh (hs.map V.ref)).sq, (I9.get 7 : PrT _ hs C.hol).prs, ok.hl, fun p hp => ?_, fun hs' f hp ef hper hso hnp => ?_⟩
    · have := ok.hol p hp
      have := ok.m1
      omega
    have sc := same_upd (o := .lst (hs'.map V.ref)) hnp
    refine ⟨hp, _, rfl, .inl ⟨SqL.of upd_same, fun fr hfr => ?_⟩⟩
    have sd := same_upd (o := .tup (hs'.map V.ref)) hfr
    have hpt : PrT (upd (upd H6 rp (.lst (rs.map V.int))) rr (.tup (rs.map V.int))) hs' (hs'.map f) := PrT.of fun t ht => (I9.get 7 : PrT _ hs C.hol).mem ef t (hper.mem_iff.mp ht)
    have I10 := ((I9.same (sc.trans sd)).add si_tup upd_same).add si_prT (hpt.same (sc.trans sd))
    clear I8 I9 sa sb sc sd hpt hrp hrr hnp hfr
    refine ⟨by show 2 ≤ sizeLine; decide, fun t2 ht2 => ?_⟩
    have I11 := I10.same (same_upd (o := .tup [V.ref rr, V.ref fr]) ht2)
    refine ⟨t2, _, rfl, SqT.of upd_same, rfl, _, _, rfl, _, rfl, x, _, dx, _, rfl, I11.at_, T.cl_CA, T.no_CA_rests, (by show 3 < 1000; decide), ?_⟩
    have I12 := I11.put (gs := [("all_years", V.ref ay), ("days_of_week", .int (C.week : Int)), ("begins", .int (C.first : Int)), ("rests", .ref rr)])
    refine ⟨_, _, rfl, _, rfl, x, _, dx, _, rfl, I12.at_, T.cl_CA, T.no_CA_free_days, (by show 4 < 1000; decide), rfl, ?_⟩
    have I13 := I12.put (gs := [("all_years", V.ref ay), ("days_of_week", .int (C.week : Int)), ("begins", .int (C.first : Int)), ("rests", .ref rr), ("free_days", .ref fr)])
    refine Ini.go (R := tSeq _ _ _ _) I13 fun H7 I13 => ?_
    clear I10 I11 I12 ht2
    have hy7 : SeqV H7 y (ts.map V.ref) := I13.get 5
    have hr7 : RowsV H7 ts C.rows := I13.get 6
    have L1 : (ts.map V.ref).length = C.rows.length := by rw [List.length_map, hr7.len]
    have le := ok.le
    refine ⟨_, rfl, ?_⟩
    refine seq_goC hy7.sq fun J G wk2 hG D hD => ?_
    have oD := I13.free hD
    refine walk_w wk2 (fun i H' => Same H7 H' ∧ H' D = some (.lst ((C.rows.take i).flatten.map natV))) ⟨same_upd hD, upd_same⟩ (fun i H8 _ h => hG H8 h.1) ?_ ?_
    · rintro i v H8 H9 hi ⟨s8, e8⟩ ⟨rfl, ev⟩
      obtain ⟨t, et, rfl⟩ := ref_at ev
      obtain ⟨row, er, hs5⟩ := hr7.at et
      have l4 : (row.map natV).length = row.length := List.length_map ..
      refine ⟨rfl, ?_⟩
      refine yes_t ?_
      refine ⟨_, rfl, ?_⟩
      refine seq_goS hs5.sq s8 fun J2 G2 wk3 hG2 => ?_
      refine walk_w wk3 (fun j H' => Same H7 H' ∧ H' D = some (.lst (((C.rows.take i).flatten ++ row.take j).map natV))) ⟨s8, by rw [List.take_zero, List.append_nil]; exact e8⟩ (fun j H10 _ h => hG2 H10 h.1) ?_ ?_
      · rintro j v2 H10 H11 hj ⟨s10, e10⟩ ⟨rfl, ev2⟩
        rw [l4] at hj
        rw [List.getElem?_map, List.getElem?_eq_getElem hj] at ev2
        obtain rfl := Option.some.inj ev2
        refine ⟨rfl, ?_⟩
        refine yes_t ?_
        have fl := flat_len (m := C.mon) (rows := C.rows.take i) fun q hq => ok.yr.eq q (List.mem_of_mem_take hq)
        have er2 := ok.yr.eq row (List.mem_of_getElem? er)
        have m1 := ok.yr.m1
        have t1 : (C.rows.take i).length * C.mon ≤ 400 * 14 := Nat.mul_le_mul (by rw [List.length_take]; have := ok.yr.le; omega) ok.m1
        refine ⟨_, rfl, _, e10, ?_, same_under s10 hD, ?_⟩
        · have t2 : (row.take j).length ≤ row.length := by rw [List.length_take]; omega
          rw [List.length_map, List.length_append, fl, sizeLine_eq]
          omega
        rw [upd_same, List.take_succ, List.getElem?_eq_getElem hj, ← List.append_assoc, List.map_append (l₁ := (C.rows.take i).flatten ++ row.take j)]
        rfl
      · rintro H10 ⟨s10, e10⟩
        rw [l4, List.take_length] at e10
        refine ⟨s10, ?_⟩
        rw [List.take_succ, er, e10]
        simp
    rintro H8 ⟨s8, e8⟩
    rw [L1, List.take_length] at e8
    have I14 := (I13.same s8).add si_lst e8
    refine ⟨_, rfl, x, _, dx, _, rfl, I14.at_, T.cl_CA, T.no_CA_lengths, (by show 5 < 1000; decide), ?_⟩
    have I15 := I14.put (gs := [("all_years", V.ref ay), ("days_of_week", .int (C.week : Int)), ("begins", .int (C.first : Int)), ("rests", .ref rr), ("free_days", .ref fr), ("lengths", .ref D)])
    refine Ini.go (R := tSeq _ _ _ _) I15 fun H9 I15 => ?_
    clear I13 I14 s8 e8 hD wk2 hG hy7 hr7
    have hD9 : H9 D = some (.lst (C.ls.map natV)) := I15.get 0
    refine ⟨_, rfl, x, _, dx, _, _, rfl, I15.at_, T.cl_CA, T.no_CA_lengths, rfl, ?_⟩
    refine ⟨D, C.ls, rfl, SqL.of hD9, by omega, fun st H10 s10 nst est => ?_⟩
    have ost := I15.free nst
    have I16 := (I15.same s10).add si_lst est
    refine ⟨_, rfl, x, _, dx, _, rfl, I16.at_, T.cl_CA, T.no_CA_starts, (by show 6 < 1000; decide), ?_⟩
    have I17 := I16.put (gs := [("all_years", V.ref ay), ("days_of_week", .int (C.week : Int)), ("begins", .int (C.first : Int)), ("rests", .ref rr), ("free_days", .ref fr), ("lengths", .ref D), ("starts", .ref st)])
    refine Ini.go (R := tSeq _ _ _ _) I17 fun H11 I17 => ?_
    clear I15 I16 s10 nst est hD9
    have hst : H11 st = some (.lst (mstV C.ls)) := I17.get 0
    refine ⟨_, rfl, x, _, dx, _, _, rfl, I17.at_, T.cl_CA, T.no_CA_starts, rfl, ?_⟩
    rfl'
    have s0 := ok.s0
    have sp := ok.sp
    refine ⟨mst_last, _, rfl, C.ls.sum, C.week, rfl, s0, w0, sp, by omega, ?_⟩
    refine ⟨_, rfl, x, _, dx, _, rfl, I17.at_, T.cl_CA, T.no_CA_turn, (by show 7 < 1000; decide), ?_⟩
    have hpp : (hs'.map f).Perm C.hol := by rw [ef]; exact hper.map f
    obtain ⟨C', hC'⟩ : ∃ C', C.re rs (hs'.map f) = C' := ⟨_, rfl⟩
    have ok' : C'.Ok := hC' ▸ ok.re rsp hpp
    have e1 : C'.week = C.week := by rw [← hC']; rfl
    have e2 : C'.first = C.first := by rw [← hC']; rfl
    have e3 : C'.per = C.per := by rw [← hC']; rfl
    have e4 : C'.ls = C.ls := by rw [← hC']; rfl
    have e5 : C'.rows = C.rows := by rw [← hC']; rfl
    have e6 : C'.rest = rs := by rw [← hC']; rfl
    have e7 : C'.hol = hs'.map f := by rw [← hC']; rfl
    have e8 : C'.works = C.works := by rw [← hC']; exact Cal.re_works rsp hpp
    have eb : b8 ay rr fr D st C' = [(("all_years" : Str), V.ref ay), ("days_of_week", .int (C.week : Int)), ("begins", .int (C.first : Int)), ("rests", .ref rr), ("free_days", .ref fr), ("lengths", .ref D), ("starts", .ref st), ("turn", .int (C.per : Int))] := by
      unfold b8
      rw [e1, e2, e3]
    have I18 := I17.put (gs := [("all_years", V.ref ay), ("days_of_week", .int (C.week : Int)), ("begins", .int (C.first : Int)), ("rests", .ref rr), ("free_days", .ref fr), ("lengths", .ref D), ("starts", .ref st), ("turn", .int (C.per : Int))])
    refine Ini.go (R := tSeq _ _ _ _) I18 fun H12 I18 => ?_
    clear I17 hst
    rw [← eb] at I18
    have B : ∀ {H' : Hp} {fs : List (Str × V)}, Ini (CA K) H H' x dx fs [fun H => H st = some (.lst (mstV C.ls)), fun H => H D = some (.lst (C.ls.map natV)), fun H => PrT H hs' (hs'.map f), fun H => H fr = some (.tup (hs'.map V.ref)), fun H => H rr = some (.tup (rs.map V.int)), fun H => H ay = some (.tup (us.map V.ref)), fun H => RowsT H us C.rows, fun H => SeqV H y (ts.map V.ref), fun H => RowsV H ts C.rows, fun H => SeqK K H r (C.rest.map V.int), fun H => SeqK K H hh (hs.map V.ref), fun H => PrT H hs C.hol] → CalB H' C' ay rr fr D st := fun {H' fs} I => by
      refine ⟨⟨us, I.get 5, ?_⟩, ?_, ⟨hs', I.get 3, ?_⟩, ?_, ?_⟩
      · rw [e5]
        exact I.get 6
      · rw [e6]
        exact I.get 4
      · rw [e7]
        exact I.get 2
      · rw [e4]
        exact I.get 1
      · rw [e4]
        exact I.get 0
    have hx12 := I18.at_
    have hX : CalX K H12 x C' := ⟨[], .inl rfl, dx, ay, rr, fr, D, st, by rw [List.append_nil]; exact hx12, B I18, ok'⟩
    rfl'
    rw [decide_eq_false (show ¬ (200000 : Int) < (C'.per : Int) by have := ok'.per; omega)]
    refine iteF ?_
    refine ⟨_, rfl, x, _, _, rfl, hx12, rfl, ?_⟩
    refine ⟨x, C', rfl, hX, fun wa H13 s13 nwa ewa => ?_⟩
    have owa := I18.free nwa
    have I19 := (I18.same s13).add si_lst ewa
    refine ⟨_, rfl, x, _, dx, _, rfl, I19.at_, T.cl_CA, T.no_CA_works, (by show 8 < 1000; decide), ?_⟩
    have I20 := I19.put (gs := b8 ay rr fr D st C' ++ [(("works" : Str), V.ref wa)])
    have ep : putF "works" (V.ref wa) (b8 ay rr fr D st C') = b8 ay rr fr D st C' ++ [(("works" : Str), V.ref wa)] := by
      unfold b8
      rfl
    rw [ep]
    generalize upd H13 x (HO.ins (CA K) dx (b8 ay rr fr D st C' ++ [(("works" : Str), V.ref wa)])) = H14 at I20
    clear I19 s13 hX hx12
    have Bs := B ⟨I20.at_, I20.kx, fun F hF => I20.all F (List.mem_cons_of_mem _ hF)⟩
    have ew : H14 wa = some (.lst (C'.works.map natV)) := I20.get 0
    have fin : CalNew K H H14 x C' := ⟨wa, dx, ay, rr, fr, D, st, I20.at_, Bs, ok', ew, by rw [e8]; exact wk, owa, oD, ost⟩
    have end_ : ∀ H15, Same H14 H15 → Q .non H15 := fun H15 s15 => by
      have c15 := fin.same s15
      rw [← hC'] at c15
      exact k rs (hs'.map f) H15 rsp rso hpp hso c15 (fun b u e nb => s15 _ _ (I20.kx b u e nb))
    refine ⟨_, rfl, x, _, dx, _, _, rfl, I20.at_, T.cl_CA, T.no_CA_works, rfl, ?_⟩
    refine ⟨by show 0 ≤ sizeLine; decide, fun p0 hp0 => ?_⟩
    have s15 := same_upd (o := .lst ([] : List V)) hp0
    have en : C'.works.map natV = (C'.works.map fun n : Nat => (n : Int)).map V.int := by rw [List.map_map]; rfl
    refine ⟨wa, p0, C'.works.map fun n : Nat => (n : Int), [], rfl, rfl, .inl ⟨SqL.of (by rw [← en]; exact s15 _ _ ew), SqL.of upd_same⟩, ?_⟩
    have ne0 : ¬ (C'.works.map fun n : Nat => (n : Int)) = [] := fun z => wk (by rw [← e8]; exact List.map_eq_nil_iff.mp z)
    rw [if_neg (by decide), decide_eq_false ne0]
    refine ⟨_, rfl, ?_⟩
    refine iteF ?_
    exact end_ _ s15
theorem mkk_Calendar_first_rest_holidays {X : Cx} {k : Nat} {t tk : TA} {e : Expr} {es : List Expr} {kws : List Keyword} {np pos : Pos} (T : Tx K mg) (hr : Room k X.A) (ha : PA X (e :: es) t) (hkw : PK X kws tk) (hk : 7 ≤ k := by decide) (hK : X.K = K := by rfl) (hm : X.mg = mg := by rfl)
    (hg : Gl X "Calendar" := by rfl) (hall : (backToKw pos (keywordEach kws X.env)).all (·.1.isSome) = true := by rfl) (hks : (backToKw pos (keywordEach kws X.env)).filterMap (·.1) = [("first" : Str), ("rest" : Str), ("holidays" : Str)] := by rfl)
    (hse : starEach (e :: es) X.env = (false, eval e X.env) :: starEach es X.env := by rfl)
    (hpl : ((backTo pos (starEach (e :: es) X.env)).any (·.1) || (backToKw pos (keywordEach kws X.env)).any (·.1.isNone)) = false := by rfl) : PE X (.Call (.Name "Calendar" np) (e :: es) kws pos) (tMkKn (CA K) 2 3 [0, 1, 2, 3, 4, 5] (sp_cinit K) E0 t tk) := by
  subst hK
  subst hm
  exact pe_mkKn (n := 2) (ks := [("first" : Str), ("rest" : Str), ("holidays" : Str)]) T.mk_CA ((oka_cinit T).kw 3 [("first" : Str), ("rest" : Str), ("holidays" : Str)] [0, 1, 2, 3, 4, 5] (fun z => by cases z) (fun _ _ _ _ _ _ _ us its ws h1 h2 h3 => match us, its, ws, h1, h2, h3 with | [_, _, _], [_], [_, _, _], _, _, _ => ⟨_, rfl, rfl⟩)) (hr.mono hk) hg T.g_Calendar pass0 ha hkw hall hks (by decide) hse hpl
end
end Lw

--auto
namespace Lw
open PySem PySem.Spec PyProof.Rows L2 My
section
variable {P : Program} {w : World} {K : Fg} {mg : Str → Option Value} {base : Heap}
theorem SqT.seqK {a : Addr} {xs : List V} (h : ∀ H : Hp, SqT K H a xs) : KT K a xs := by
  rcases h (fun _ => none) with (h | ⟨o, h⟩) | h
  · cases h
  · cases h
  · exact h
def sp_cweek (K : Fg) : Sp := fun vs H Q _ => ∃ (c : Addr) (C : Cal), vs = [.ref c] ∧ CalX K H c C ∧ Q (.int (C.week : Int)) H
theorem okC_week (T : Tx K mg) : FnR P w K mg base CX0 1 (He5.wf K (CA K) "property" "week") (sp_cweek K) := by
  refine (T.fnR 5 (st := s_Calendar_week) (at_ := fun K => He5.wf K (He.ga K "Calendar") "property" "week") rfl sc_Calendar_week (fun _ _ _ _ _ _ us hl => match us, hl with | [_], _ => rfl)) (fun vs H Q E h => ?_) (fun cdv A outer s H vs Q E hr h => ?_)
  · obtain ⟨c, C, rfl, _⟩ := h
    rfl
  · obtain ⟨c, C, rfl, ⟨ws, hw, dx, ay, rr, fr, l, st, hc, B, ok⟩, q⟩ := h
    refine ⟨_, (pss_one (ps_ret (fld T (pv 0)))), ?_⟩
    exact ⟨_, rfl, c, _, dx, _, _, rfl, hc, T.cl_CA, T.no_CA_days_of_week, rfl, q⟩
theorem pC_week {X : Cx} {k : Nat} {e : Expr} {ta : TE} {pos : Pos} (T : Tx K mg) (hr : Room k X.A) (he : PE X e ta) (hk : 2 ≤ k := by decide) (hK : X.K = K := by rfl) (hm : X.mg = mg := by rfl)
    (hab : attributeBase e "week" X.env (eval e X.env) = eval e X.env := by rfl) : PE X (.Attribute e "week" pos) (tPropR (CA K) (sp_cweek K) E0 ta) := by
  subst hK
  subst hm
  exact pe_propR he T.cl_CA T.pr_CA_week (okC_week T) (hr.mono hk) pass0 hab
def sp_cfirst (K : Fg) : Sp := fun vs H Q _ => ∃ (c : Addr) (C : Cal), vs = [.ref c] ∧ CalX K H c C ∧ Q (.int (C.first : Int)) H
theorem okC_first (T : Tx K mg) : FnR P w K mg base CX0 1 (He5.wf K (CA K) "property" "first") (sp_cfirst K) := by
  refine (T.fnR 6 (st := s_Calendar_first) (at_ := fun K => He5.wf K (He.ga K "Calendar") "property" "first") rfl sc_Calendar_first (fun _ _ _ _ _ _ us hl => match us, hl with | [_], _ => rfl)) (fun vs H Q E h => ?_) (fun cdv A outer s H vs Q E hr h => ?_)
  · obtain ⟨c, C, rfl, _⟩ := h
    rfl
  · obtain ⟨c, C, rfl, ⟨ws, hw, dx, ay, rr, fr, l, st, hc, B, ok⟩, q⟩ := h
    refine ⟨_, (pss_one (ps_ret (fld T (pv 0)))), ?_⟩
    exact ⟨_, rfl, c, _, dx, _, _, rfl, hc, T.cl_CA, T.no_CA_begins, rfl, q⟩
theorem pC_first {X : Cx} {k : Nat} {e : Expr} {ta : TE} {pos : Pos} (T : Tx K mg) (hr : Room k X.A) (he : PE X e ta) (hk : 2 ≤ k := by decide) (hK : X.K = K := by rfl) (hm : X.mg = mg := by rfl)
    (hab : attributeBase e "first" X.env (eval e X.env) = eval e X.env := by rfl) : PE X (.Attribute e "first" pos) (tPropR (CA K) (sp_cfirst K) E0 ta) := by
  subst hK
  subst hm
  exact pe_propR he T.cl_CA T.pr_CA_first (okC_first T) (hr.mono hk) pass0 hab
def sp_ccyc (K : Fg) : Sp := fun vs H Q _ => ∃ (c : Addr) (C : Cal), vs = [.ref c] ∧ CalX K H c C ∧ Q (.int (C.ls.sum : Int)) H
theorem okC_cycle_days (T : Tx K mg) : FnR P w K mg base CX0 1 (He5.wf K (CA K) "property" "cycle_days") (sp_ccyc K) := by
  refine (T.fnR 10 (st := s_Calendar_cycle_days) (at_ := fun K => He5.wf K (He.ga K "Calendar") "property" "cycle_days") rfl sc_Calendar_cycle_days (fun _ _ _ _ _ _ us hl => match us, hl with | [_], _ => rfl)) (fun vs H Q E h => ?_) (fun cdv A outer s H vs Q E hr h => ?_)
  · obtain ⟨c, C, rfl, _⟩ := h
    rfl
  · obtain ⟨c, C, rfl, ⟨ws, hw, dx, ay, rr, fr, l, st, hc, B, ok⟩, q⟩ := h
    refine ⟨_, (pss_one (ps_ret (pe_ix (ixl T) (fld T (pv 0)) (pe_un un_neg pe_int) (fun _ _ => rfl)))), ?_⟩
    have hs := B.s
    rfl'
    exact ⟨mst_last, q⟩
theorem pC_cycle_days {X : Cx} {k : Nat} {e : Expr} {ta : TE} {pos : Pos} (T : Tx K mg) (hr : Room k X.A) (he : PE X e ta) (hk : 2 ≤ k := by decide) (hK : X.K = K := by rfl) (hm : X.mg = mg := by rfl)
    (hab : attributeBase e "cycle_days" X.env (eval e X.env) = eval e X.env := by rfl) : PE X (.Attribute e "cycle_days" pos) (tPropR (CA K) (sp_ccyc K) E0 ta) := by
  subst hK
  subst hm
  exact pe_propR he T.cl_CA T.pr_CA_cycle_days (okC_cycle_days T) (hr.mono hk) pass0 hab
/-! ### the Gregorian calendar -/
def evenL : List Nat := [31, 28, 31, 30, 31, 30, 31, 31, 30, 31, 30, 31]
def leapL : List Nat := [31, 29, 31, 30, 31, 30, 31, 31, 30, 31, 30, 31]
def gregL : List (List Nat) := (List.range 400).map fun y => if y % 4 = 0 ∧ (y % 100 ≠ 0 ∨ y = 0) then leapL else evenL
def RowsL2 (H : Hp) (ts : List Addr) (rows : List (List Nat)) : Prop := Paired (fun t r => H t = some (.lst (r.map natV))) ts rows
theorem RowsL2.rows {H : Hp} : ∀ {ts : List Addr} {rows : List (List Nat)}, RowsL2 H ts rows → RowsV H ts rows
  | _, _, .nil => .nil
  | _, _, .cons h t => .cons (.inl h) (RowsL2.rows t)
theorem RowsL2.same {H H' : Hp} (s : Same H H') : ∀ {ts : List Addr} {rows : List (List Nat)}, RowsL2 H ts rows → RowsL2 H' ts rows
  | _, _, .nil => .nil
  | _, _, .cons h t => .cons (s _ _ h) (RowsL2.same s t)
theorem RowsL2.at_ne {H H' : Hp} : ∀ {ts : List Addr} {rows : List (List Nat)}, RowsL2 H ts rows → (∀ t ∈ ts, H' t = H t) → RowsL2 H' ts rows
  | _, _, .nil, _ => .nil
  | _, _, .cons h t, e => .cons (by show H' _ = _; rw [e _ (List.mem_cons_self ..)]; exact h) (RowsL2.at_ne t fun x hx => e x (List.mem_cons_of_mem _ hx))
theorem RowsL2.snoc {H : Hp} {t : Addr} {row : List Nat} (ht : H t = some (.lst (row.map natV))) : ∀ {ts : List Addr} {rows : List (List Nat)}, RowsL2 H ts rows → RowsL2 H (ts ++ [t]) (rows ++ [row])
  | _, _, .nil => .cons ht .nil
  | _, _, .cons h r => .cons h (RowsL2.snoc ht r)
theorem greg_push {H2 H3 H4 : Hp} {D t : Addr} {ts : List Addr} {row : List Nat} {i : Nat} (hD : H2 D = none) (s3 : Same H2 H3) (e3 : H3 D = some (.lst (ts.map V.ref))) (tl : ts.length = i) (tn : ∀ t ∈ ts, t ≠ D) (hr : RowsL2 H3 ts (gregL.take i)) (s4 : Same H3 H4) (tD : t ≠ D) (et : H4 t = some (.lst (row.map natV))) (er : gregL[i]? = some row) (hi : i < 400) :
    (fun H' => Same H2 H' ∧ ∃ ts : List Addr, H' D = some (.lst (ts.map V.ref)) ∧ ts.length = i + 1 ∧ (∀ t ∈ ts, t ≠ D) ∧ RowsL2 H' ts (gregL.take (i + 1))) (upd H4 D (.lst (ts.map V.ref ++ [.ref t]))) := by
  have mem : ∀ x ∈ ts ++ [t], x ≠ D := fun x hx => by
    rcases List.mem_append.mp hx with hx | hx
    · exact tn x hx
    · rw [List.mem_singleton.mp hx]
      exact tD
  refine ⟨same_under (s3.trans s4) hD, ts ++ [t], by rw [upd_same, List.map_append]; rfl, by rw [List.length_append, tl]; rfl, mem, ?_⟩
  rw [List.take_succ, er]
  exact RowsL2.at_ne (H := H4) (RowsL2.snoc et (hr.same s4)) fun x hx => upd_ne (mem x hx)
end
end Lw

--auto
namespace Lw
open PySem PySem.Spec PyProof.Rows L2 My
section
variable {P : Program} {w : World} {K : Fg} {mg : Str → Option Value} {base : Heap}
def sp_cyears (K : Fg) : Sp := fun vs H Q _ => ∃ (c : Addr) (C : Cal), vs = [.ref c] ∧ CalX K H c C ∧ ∀ (ay : Addr) (ts : List Addr), H ay = some (.tup (ts.map V.ref)) → RowsT H ts C.rows → Q (.ref ay) H
theorem okC_years (T : Tx K mg) : FnR P w K mg base CX0 1 (He5.wf K (CA K) "property" "years") (sp_cyears K) := by
  refine (T.fnR 4 (st := s_Calendar_years) (at_ := fun K => He5.wf K (He.ga K "Calendar") "property" "years") rfl sc_Calendar_years (fun _ _ _ _ _ _ us hl => match us, hl with | [_], _ => rfl)) (fun vs H Q E h => ?_) (fun cdv A outer s H vs Q E hr h => ?_)
  · obtain ⟨c, C, rfl, _⟩ := h
    rfl
  · obtain ⟨c, C, rfl, ⟨ws, hw, dx, ay, rr, fr, l, st, hc, B, ok⟩, q⟩ := h
    refine ⟨_, (pss_one (ps_ret (fld T (pv 0)))), ?_⟩
    obtain ⟨ts, e1, e2⟩ := B.yr
    exact ⟨_, rfl, c, _, dx, _, _, rfl, hc, T.cl_CA, T.no_CA_all_years, rfl, q ay ts e1 e2⟩
theorem pC_years {X : Cx} {k : Nat} {e : Expr} {ta : TE} {pos : Pos} (T : Tx K mg) (hr : Room k X.A) (he : PE X e ta) (hk : 2 ≤ k := by decide) (hK : X.K = K := by rfl) (hm : X.mg = mg := by rfl)
    (hab : attributeBase e "years" X.env (eval e X.env) = eval e X.env := by rfl) : PE X (.Attribute e "years" pos) (tPropR (CA K) (sp_cyears K) E0 ta) := by
  subst hK
  subst hm
  exact pe_propR he T.cl_CA T.pr_CA_years (okC_years T) (hr.mono hk) pass0 hab
def sp_crest (K : Fg) : Sp := fun vs H Q _ => ∃ (c : Addr) (C : Cal), vs = [.ref c] ∧ CalX K H c C ∧ ∀ rr : Addr, H rr = some (.tup (C.rest.map V.int)) → Q (.ref rr) H
theorem okC_rest (T : Tx K mg) : FnR P w K mg base CX0 1 (He5.wf K (CA K) "property" "rest") (sp_crest K) := by
  refine (T.fnR 7 (st := s_Calendar_rest) (at_ := fun K => He5.wf K (He.ga K "Calendar") "property" "rest") rfl sc_Calendar_rest (fun _ _ _ _ _ _ us hl => match us, hl with | [_], _ => rfl)) (fun vs H Q E h => ?_) (fun cdv A outer s H vs Q E hr h => ?_)
  · obtain ⟨c, C, rfl, _⟩ := h
    rfl
  · obtain ⟨c, C, rfl, ⟨ws, hw, dx, ay, rr, fr, l, st, hc, B, ok⟩, q⟩ := h
    refine ⟨_, (pss_one (ps_ret (fld T (pv 0)))), ?_⟩
    exact ⟨_, rfl, c, _, dx, _, _, rfl, hc, T.cl_CA, T.no_CA_rests, rfl, q rr B.rr⟩
theorem pC_rest {X : Cx} {k : Nat} {e : Expr} {ta : TE} {pos : Pos} (T : Tx K mg) (hr : Room k X.A) (he : PE X e ta) (hk : 2 ≤ k := by decide) (hK : X.K = K := by rfl) (hm : X.mg = mg := by rfl)
    (hab : attributeBase e "rest" X.env (eval e X.env) = eval e X.env := by rfl) : PE X (.Attribute e "rest" pos) (tPropR (CA K) (sp_crest K) E0 ta) := by
  subst hK
  subst hm
  exact pe_propR he T.cl_CA T.pr_CA_rest (okC_rest T) (hr.mono hk) pass0 hab
def sp_chol (K : Fg) : Sp := fun vs H Q _ => ∃ (c : Addr) (C : Cal), vs = [.ref c] ∧ CalX K H c C ∧ ∀ (fr : Addr) (ts : List Addr), H fr = some (.tup (ts.map V.ref)) → PrT H ts C.hol → Q (.ref fr) H
theorem okC_holidays (T : Tx K mg) : FnR P w K mg base CX0 1 (He5.wf K (CA K) "property" "holidays") (sp_chol K) := by
  refine (T.fnR 8 (st := s_Calendar_holidays) (at_ := fun K => He5.wf K (He.ga K "Calendar") "property" "holidays") rfl sc_Calendar_holidays (fun _ _ _ _ _ _ us hl => match us, hl with | [_], _ => rfl)) (fun vs H Q E h => ?_) (fun cdv A outer s H vs Q E hr h => ?_)
  · obtain ⟨c, C, rfl, _⟩ := h
    rfl
  · obtain ⟨c, C, rfl, ⟨ws, hw, dx, ay, rr, fr, l, st, hc, B, ok⟩, q⟩ := h
    refine ⟨_, (pss_one (ps_ret (fld T (pv 0)))), ?_⟩
    obtain ⟨ts, e1, e2⟩ := B.fr
    exact ⟨_, rfl, c, _, dx, _, _, rfl, hc, T.cl_CA, T.no_CA_free_days, rfl, q fr ts e1 e2⟩
theorem pC_holidays {X : Cx} {k : Nat} {e : Expr} {ta : TE} {pos : Pos} (T : Tx K mg) (hr : Room k X.A) (he : PE X e ta) (hk : 2 ≤ k := by decide) (hK : X.K = K := by rfl) (hm : X.mg = mg := by rfl)
    (hab : attributeBase e "holidays" X.env (eval e X.env) = eval e X.env := by rfl) : PE X (.Attribute e "holidays" pos) (tPropR (CA K) (sp_chol K) E0 ta) := by
  subst hK
  subst hm
  exact pe_propR he T.cl_CA T.pr_CA_holidays (okC_holidays T) (hr.mono hk) pass0 hab
end
end Lw

--auto
namespace Lw
open PySem PySem.Spec PyProof.Rows L2 My
section
variable {P : Program} {w : World} {K : Fg} {mg : Str → Option Value} {base : Heap}
/-! ### Calendar(years), Calendar(holidays = .., .., years = ..) -/
def initAt : Fg → Addr := fun K => He.ma K (He.ga K "Calendar") "__init__"
theorem okc_dfl (T : Tx K mg) : FnR P w K mg base CX0 6 (He.ma K (CA K) "__init__") (fun vs H Q E => sp_cinit K (vs ++ [V.int 7, V.int 0, .ref (My.kwAt (fun K => He.ma K (He.ga K "Calendar") "__init__") "rest" K), .ref (My.kwAt (fun K => He.ma K (He.ga K "Calendar") "__init__") "holidays" K)]) H Q E) := by
  obtain ⟨fd1, F1⟩ := T.fund 0
  exact (oka_cinit T).dfl (kws := [("first", V.int 0), ("rest", .ref (My.kwAt (fun K => He.ma K (He.ga K "Calendar") "__init__") "rest" K)), ("holidays", .ref (My.kwAt (fun K => He.ma K (He.ga K "Calendar") "__init__") "holidays" K))]) F1 2 (fun z => by cases z) (fun z => by cases z) rfl
    (fun T D doc pm an cdv ct us its ks h1 h2 h3 => match us, its, ks, h1, h2, h3 with | [_, _], [_], [_, _, _], _, _, _ => ⟨_, rfl, _, _, _, _, _, _, rfl, rfl, _, _, _, _, _, _, rfl, rfl, _, _, _, _, _, _, rfl, rfl, rfl⟩)
theorem mk_Calendar {X : Cx} {k : Nat} {t : TA} {e : Expr} {es : List Expr} {np pos : Pos} (T : Tx K mg) (hr : Room k X.A) (ha : PA X (e :: es) t) (hk : 7 ≤ k := by decide) (hK : X.K = K := by rfl) (hm : X.mg = mg := by rfl)
    (hg : Gl X "Calendar" := by rfl) (hse : starEach (e :: es) X.env = (false, eval e X.env) :: starEach es X.env := by rfl) (hpl : (backTo pos (starEach es X.env)).any (·.1) = false := by rfl) :
    PE X (.Call (.Name "Calendar" np) (e :: es) [] pos) (StX.tMakeR (CA K) (fun vs H Q E => sp_cinit K (vs ++ [V.int 7, V.int 0, .ref (My.kwAt (fun K => He.ma K (He.ga K "Calendar") "__init__") "rest" K), .ref (My.kwAt (fun K => He.ma K (He.ga K "Calendar") "__init__") "holidays" K)]) H Q E) E0 t) := by
  subst hK
  subst hm
  exact StX.pe_makeR T.mk_CA (okc_dfl T) (hr.mono hk) hg T.g_Calendar pass0 ha (by decide) hse hpl
theorem mkk_Calendar_holidays_rest_first_week_years {X : Cx} {k : Nat} {tk : TA} {kws : List Keyword} {np pos : Pos} (T : Tx K mg) (hr : Room k X.A) (hkw : PK X kws tk) (hk : 7 ≤ k := by decide) (hK : X.K = K := by rfl) (hm : X.mg = mg := by rfl)
    (hg : Gl X "Calendar" := by rfl) (hall : (backToKw pos (keywordEach kws X.env)).all (·.1.isSome) = true := by rfl) (hks : (backToKw pos (keywordEach kws X.env)).filterMap (·.1) = [("holidays" : Str), ("rest" : Str), ("first" : Str), ("week" : Str), ("years" : Str)] := by rfl)
    (hpl : ((backTo pos (starEach [] X.env)).any (·.1) || (backToKw pos (keywordEach kws X.env)).any (·.1.isNone)) = false := by rfl) : PE X (.Call (.Name "Calendar" np) [] kws pos) (tMkK0 (CA K) 5 [0, 5, 4, 3, 2, 1] (sp_cinit K) E0 tk) := by
  subst hK
  subst hm
  exact pe_mkK0 (ks := [("holidays" : Str), ("rest" : Str), ("first" : Str), ("week" : Str), ("years" : Str)]) T.mk_CA ((oka_cinit T).kw 1 [("holidays" : Str), ("rest" : Str), ("first" : Str), ("week" : Str), ("years" : Str)] [0, 5, 4, 3, 2, 1] (fun z => by cases z) (fun _ _ _ _ _ _ _ us its ws h1 h2 h3 => match us, its, ws, h1, h2, h3 with | [_], [_], [_, _, _, _, _], _, _, _ => ⟨_, rfl, rfl⟩)) (hr.mono hk) hg T.g_Calendar pass0 hkw hall hks (by decide) hpl
end
end Lw

namespace Lw
open PySem PySem.Spec PyProof.Rows L2 My
section
variable {P : Program} {w : World} {K : Fg} {mg : Str → Option Value} {base : Heap}
end
end Lw

namespace Lw
open PySem PySem.Spec PyProof.Rows L2 My
/-! ### the pen -/
def penD (l : Addr) (t z : Int) : List (Key × V) := [(.inr "cells", .ref l), (.inr "turn", .int t), (.inr "left", .int z)]
theorem k_ct : ¬ (("cells" : Str) = "turn") := by decide +kernel
theorem k_cl : ¬ (("cells" : Str) = "left") := by decide +kernel
theorem k_tl : ¬ (("turn" : Str) = "left") := by decide +kernel
theorem kk {a b : Str} (h : ¬ a = b) : ¬ ((Sum.inr a : Key) = Sum.inr b) := fun e => h (Sum.inr.inj e)
section
variable {l : Addr} {t z t' z' : Int} {H : Hp} {p : Addr}
theorem pen_cells : valV (penD l t z) (.inr "cells") = some (.ref l) := valV_pos rfl
theorem pen_turn : valV (penD l t z) (.inr "turn") = some (.int t) := (valV_neg (kk k_ct)).trans (valV_pos rfl)
theorem pen_left : valV (penD l t z) (.inr "left") = some (.int z) := (valV_neg (kk k_cl)).trans ((valV_neg (kk k_tl)).trans (valV_pos rfl))
theorem pen_setT : putK (penD l t z) (.inr "turn") (.int t') = penD l t' z := by
  have h1 : ¬ (("left" : Str) = "turn") := fun e => k_tl e.symm
  simp [putK, penD, k_ct, h1]
theorem pen_setL : putK (penD l t z) (.inr "left") (.int z') = penD l t z' := by
  simp [putK, penD, k_cl, k_tl]
theorem dg_cells (h : H p = some (.dK (penD l t z))) : DGet H p (.str "cells") (some (.ref l)) := by
  rw [← pen_cells]
  exact DGet.k (k := .inr "cells") h
theorem dg_turn (h : H p = some (.dK (penD l t z))) : DGet H p (.str "turn") (some (.int t)) := by
  rw [← pen_turn (l := l) (t := t) (z := z)]
  exact DGet.k (k := .inr "turn") h
theorem dg_left (h : H p = some (.dK (penD l t z))) : DGet H p (.str "left") (some (.int z)) := by
  rw [← pen_left (l := l) (t := t) (z := z)]
  exact DGet.k (k := .inr "left") h
theorem dp_turn (h : H p = some (.dK (penD l t z))) : DPut H p (.str "turn") (.int t') (upd H p (.dK (penD l t' z))) := by
  have e := DPut.k (k := .inr "turn") (v := .int t') h (by show 3 < sizeLine; decide)
  rw [pen_setT] at e
  exact e
theorem dp_left (h : H p = some (.dK (penD l t z))) : DPut H p (.str "left") (.int z') (upd H p (.dK (penD l t z'))) := by
  have e := DPut.k (k := .inr "left") (v := .int z') h (by show 3 < sizeLine; decide)
  rw [pen_setL] at e
  exact e
end
/-- a pen at p, its cells at l, that has drawn from at most n cells -/
def PenAt (H : Hp) (p l : Addr) (n : Nat) : Prop := ∃ (cs : List Int) (t z : Int), H p = some (.dK (penD l t z)) ∧ H l = some (.lst (cs.map V.int)) ∧ cs.length ≤ 63 ∧ 0 ≤ t ∧ t ≤ (n : Int) ∧ 0 ≤ z
section
variable {H H' : Hp} {p l q : Addr} {n m : Nat}
theorem PenAt.mono (h : PenAt H p l n) (hm : n ≤ m) : PenAt H p l m := by
  obtain ⟨cs, t, z, h1, h2, h3, h4, h5, h6⟩ := h
  exact ⟨cs, t, z, h1, h2, h3, h4, by omega, h6⟩
theorem PenAt.same (h : PenAt H p l n) (s : Same H H') : PenAt H' p l n := by
  obtain ⟨cs, t, z, h1, h2, h3⟩ := h
  exact ⟨cs, t, z, s _ _ h1, s _ _ h2, h3⟩
theorem PenAt.dict (h : PenAt H p l n) : ∃ kvs, H p = some (.dK kvs) := by
  obtain ⟨cs, t, z, h1, _⟩ := h
  exact ⟨_, h1⟩
theorem PenAt.cells (h : PenAt H p l n) : ∃ xs, H l = some (.lst xs) := by
  obtain ⟨cs, t, z, h1, h2, _⟩ := h
  exact ⟨_, h2⟩
theorem PenAt.ne (h : PenAt H p l n) {o : HO} (hq : H q = some o) (ho : ∀ kvs, o ≠ .dK kvs) : q ≠ p := by
  obtain ⟨kvs, hk⟩ := h.dict
  exact ne_dict hk hq (ho kvs)
theorem PenAt.free (h : PenAt H' p l n) (k : Kx p H H') {a : Addr} (ha : H' a = none) : H a = none := by
  obtain ⟨kvs, hk⟩ := h.dict
  exact k.free (by rw [hk]; intro e; cases e) ha
/-- a new address is none of the pen's -/
theorem PenAt.new (h : PenAt H p l n) {a : Addr} (ha : H a = none) : a ≠ p ∧ a ≠ l := by
  obtain ⟨kvs, hk⟩ := h.dict
  obtain ⟨xs, hx⟩ := h.cells
  exact ⟨(ne_of_none hk ha).symm, (ne_of_none hx ha).symm⟩
/-- another object is written -/
theorem PenAt.set (h : PenAt H p l n) {a : Addr} {o : HO} (h1 : a ≠ p) (h2 : a ≠ l) : PenAt (upd H a o) p l n := by
  obtain ⟨cs, t, z, e1, e2, h3⟩ := h
  exact ⟨cs, t, z, by rw [upd_ne h1.symm]; exact e1, by rw [upd_ne h2.symm]; exact e2, h3⟩
theorem PenAt.keepL (h : PenAt H p l n) (k : Kx p H H') {xs : List V} (hq : H q = some (.lst xs)) : H' q = some (.lst xs) := k _ _ hq (h.ne hq (by intro kvs z; cases z))
theorem PenAt.keepT (h : PenAt H p l n) (k : Kx p H H') {xs : List V} (hq : H q = some (.tup xs)) : H' q = some (.tup xs) := k _ _ hq (h.ne hq (by intro kvs z; cases z))
end
theorem kx_new {p D : Addr} {H H1 : Hp} {o : HO} (k : Kx p H H1) (hD : H D = none) : Kx p H (upd H1 D o) := fun b u e n => by
  rw [upd_ne (ne_of_none e hD)]
  exact k b u e n
def primesL : List Int := [2147483629, 2147483647, 2147483587, 2147483563, 2147483579]
theorem primes_at : ∀ j : Nat, j < 5 → ∃ q : Int, primesL[j]? = some q ∧ 0 < q ∧ q < 2147483648
  | 0, _ => ⟨_, rfl, by decide, by decide⟩
  | 1, _ => ⟨_, rfl, by decide, by decide⟩
  | 2, _ => ⟨_, rfl, by decide, by decide⟩
  | 3, _ => ⟨_, rfl, by decide, by decide⟩
  | 4, _ => ⟨_, rfl, by decide, by decide⟩
  | n + 5, h => absurd h (by omega)
section
variable {P : Program} {w : World} {K : Fg} {mg : Str → Option Value} {base : Heap}
def sp_pen (K : Fg) : Sp := fun vs H Q _ => ∃ (a : Addr) (ns : List Int), vs = [.ref a] ∧ SqL K H a (ns.map V.int) ∧ ∀ (p l : Addr) (H' : Hp), Same H H' → H p = none → PenAt H' p l 0 → Q (.ref p) H'
theorem ok__law_pen (T : Tx K mg) : FnR P w K mg base CX0 1 (He.ga K "_law_pen") (sp_pen K) := by
  refine (T.fnR 27 (st := s__law_pen) (at_ := fun K => He.ga K "_law_pen") rfl sc__law_pen (fun _ _ _ _ _ _ us hl => match us, hl with | [_], _ => rfl)) (fun vs H Q E h => ?_) (fun cdv A outer s H vs Q E hr h => ?_)
  · obtain ⟨a, ns, rfl, _⟩ := h
    rfl
  · obtain ⟨a, ns, rfl, hS, k⟩ := h
    refine ⟨_, (pss_one (ps_ret (pe_disp (pps_cons pe_str (pe_callTy (lst_k T) (by rfl) T.n_list (by decide +kernel) (pa_cons (pe_slice (sll T) (pv 0) po_none (po_some pe_int)) pa_nil)) (pps_cons pe_str pe_int (pps_cons pe_str pe_int pps_nil))) (by rfl) (by rfl) (fun z => by cases z) (by decide)))), ?_⟩
    intro p hp
    have s1 := same_upd (o := .dK []) hp
    refine ⟨_, rfl, _, rfl, a, _, rfl, s1.seq hS, fun l hl => ?_⟩
    have s2 := same_upd (o := .lst (cutV (ns.map V.int) none (some 63))) hl
    refine ⟨l, _, rfl, .inl (SqL.of upd_same), fun l2 hl2 => ?_⟩
    have s3 := same_upd (o := .lst (cutV (ns.map V.int) none (some 63))) hl2
    have hp3 := (s2.trans s3) _ _ (upd_same (H := H) (a := p) (o := .dK []))
    have hne : p ≠ l2 := ne_of_none (s2 _ _ (upd_same (H := H) (a := p) (o := .dK []))) hl2
    refine ⟨hp3, penD l2 0 0, rfl, (by show 3 ≤ 15; decide), ?_⟩
    have em : mergeK [] (penD l2 0 0) = penD l2 0 0 := by
      simp [mergeK, penD, putK, k_ct, k_cl, k_tl]
    rw [em]
    refine k p l2 _ ?_ hp ⟨ns.take 63, 0, 0, upd_same, ?_, ?_, by omega, by omega, by omega⟩
    · exact same_under (s1.trans (s2.trans s3)) hp
    · rw [upd_ne hne.symm, upd_same, show (63 : Int) = ((63 : Nat) : Int) from rfl, cut_to, mapInt_take]
    · rw [List.length_take]
      omega
theorem c__law_pen {X : Cx} {k : Nat} {t : TA} {e : Expr} {es : List Expr} {np pos : Pos} (T : Tx K mg) (hr : Room k X.A) (ha : PA X (e :: es) t) (hk : 1 ≤ k := by decide) (hK : X.K = K := by rfl) (hm : X.mg = mg := by rfl)
    (hg : Gl X "_law_pen" := by rfl) (hse : starEach (e :: es) X.env = (false, eval e X.env) :: starEach es X.env := by rfl) (hpl : (backTo pos (starEach es X.env)).any (·.1) = false := by rfl) :
    PE X (.Call (.Name "_law_pen" np) (e :: es) [] pos) (tFn (sp_pen K) E0 t) := by
  subst hK
  subst hm
  exact pe_fR (ok__law_pen T) T.kp__law_pen T.g__law_pen (hr.mono hk) pass0 ha hg (by decide) hse hpl
def sp_draw : Sp := fun vs H Q _ => ∃ (p l : Addr) (many : Int) (n : Nat), vs = [.ref p, .int many] ∧ PenAt H p l n ∧ n ≤ 1000000000000 ∧ 0 < many ∧ many < 1073741824 ∧
  ∀ (r : Int) (H' : Hp), 0 ≤ r → r < many → PenAt H' p l (n + 1) → Kx p H H' → Q (.int r) H'
theorem ok__law_draw (T : Tx K mg) : FnR P w K mg base CX0 1 (He.ga K "_law_draw") sp_draw := by
  refine (T.fnR 28 (st := s__law_draw) (at_ := fun K => He.ga K "_law_draw") rfl sc__law_draw (fun _ _ _ _ _ _ us hl => match us, hl with | [_, _], _ => rfl)) (fun vs H Q E h => ?_) (fun cdv A outer s H vs Q E hr h => ?_)
  · obtain ⟨p, l, many, n, rfl, _⟩ := h
    rfl
  · obtain ⟨p, l, many, n, rfl, ⟨cs, t, z, hp, hl, hc, ht0, htn, hz⟩, hn, hm0, hm1, k⟩ := h
    refine ⟨_, (pss_cons (ps_if (pt_cmpR op_gt (pe_dget (hu_of hr) (pv 0) pe_str (fun _ _ => rfl)) pe_int (nomark _))
 (pss_cons (ps_set (i := 2) sc__law_draw.nd rfl (Or.inl rfl) (pe_op op_mod (pe_dget (hu_of hr) (pv 0) pe_str (fun _ _ => rfl)) (pv 1)))
 (pss_cons (ps_dput (hu_of hr) (pv 0) pe_str (pe_op op_fdiv (pe_dget (hu_of hr) (pv 0) pe_str (fun _ _ => rfl)) (pv 1)) rfl)
 (pss_one (ps_ret (pv 2)))))
 pss_nil)
 (pss_cons (ps_set (i := 3) sc__law_draw.nd rfl (Or.inl rfl) (pe_dget (hu_of hr) (pv 0) pe_str (fun _ _ => rfl)))
 (pss_cons (ps_dput (hu_of hr) (pv 0) pe_str (pe_op op_add (pv 3) pe_int) rfl)
 (pss_cons (ps_set (i := 4) sc__law_draw.nd rfl (Or.inl rfl) (pe_op op_add (pe_op op_mul pe_int (pv 3)) pe_int))
 (pss_mid (ps_if (pt_cmpR (nei T hr.units) (pe_dget (hu_of hr) (pv 0) pe_str (fun _ _ => rfl)) (pe_lst pa_nil) (nomark _))
 (pss_one (ps_set (i := 4) sc__law_draw.nd rfl (Or.inl rfl) (pe_ix (ixl T) (pe_dget (hu_of hr) (pv 0) pe_str (fun _ _ => rfl)) (pe_op op_mod (pv 3) (pe_callB (len_k T) (by rfl) T.n_len (by decide +kernel) (pa_cons (pe_dget (hu_of hr) (pv 0) pe_str (fun _ _ => rfl)) pa_nil))) (fun _ _ => rfl))))
 pss_nil)
 (pss_mid (ps_if (PW.pt (pw_and (pt_cmpR op_lt (pv 3) (pe_callB (len_k T) (by rfl) T.n_len (by decide +kernel) (pa_cons (pe_dget (hu_of hr) (pv 0) pe_str (fun _ _ => rfl)) pa_nil)) (nomark _)) (pw_and1 (pt_cmpR op_ge (pe_callB call_abs (by rfl) T.n_abs (by decide +kernel) (pa_cons (pv 4) pa_nil)) (pe_op op_pow pe_int pe_int) (nomark _)))))
 (pss_cons (ps_dput (hu_of hr) (pv 0) pe_str (pe_op op_fdiv (pe_op op_sub (pe_callB call_abs (by rfl) T.n_abs (by decide +kernel) (pa_cons (pv 4) pa_nil)) (pe_op op_pow pe_int pe_int)) (pv 1)) rfl)
 (pss_one (ps_ret (pe_op op_mod (pe_op op_sub (pe_callB call_abs (by rfl) T.n_abs (by decide +kernel) (pa_cons (pv 4) pa_nil)) (pe_op op_pow pe_int pe_int)) (pv 1)))))
 pss_nil)
 (pss_cons (ps_set (i := 5) sc__law_draw.nd rfl (Or.inl rfl) (pe_lst (pa_cons pe_int (pa_cons pe_int (pa_cons pe_int (pa_cons pe_int (pa_cons pe_int pa_nil)))))))
 (pss_cons (ps_set (i := 6) sc__law_draw.nd rfl (Or.inl rfl) (pe_ix (ixl T) (pv 5) (pe_op op_mod (pv 3) pe_int) (fun _ _ => rfl)))
 (pss_cons (ps_set (i := 7) sc__law_draw.nd rfl (Or.inl rfl) (pe_op op_mod (pe_op op_add (pe_op op_add (pe_op op_add (pe_op op_mul (pe_op op_mod (pv 4) (pv 6)) pe_int) (pe_op op_mul (pe_op op_mul pe_int (pv 3)) (pv 3))) (pe_op op_mul pe_int (pv 3))) pe_int) (pv 6)))
 (pss_cons (ps_set (i := 7) sc__law_draw.nd rfl (Or.inl rfl) (pe_op op_mod (pe_op op_mul (pv 7) (pe_op op_add (pv 7) pe_int)) (pe_ix (ixl T) (pv 5) (pe_op op_mod (pe_op op_add (pv 3) pe_int) pe_int) (fun _ _ => rfl))))
 (pss_one (ps_ret (pe_op op_mod (pe_op op_fdiv (pe_op op_mod (pe_op op_add (pe_op op_add (pe_op op_mul (pv 7) (pv 7)) (pe_op op_mul pe_int (pv 7))) (pv 3)) pe_int) pe_int) (pv 1)))))))))))))), ?_⟩
    have hlp : l ≠ p := ne_dict hp hl (by intro q; cases q)
    refine ⟨_, rfl, p, _, rfl, dg_left hp, _, _, rfl, rfl, _, rfl, ?_⟩
    refine ite2 (fun hc1 => ?_) (fun hc1 => ?_)
    · refine ⟨_, rfl, p, _, rfl, dg_left hp, _, rfl, _, _, rfl, rfl, hm0, ?_⟩
      refine ⟨_, rfl, p, _, rfl, dg_left hp, _, rfl, _, _, rfl, rfl, ⟨hm0, hm1⟩, _, rfl, p, _, rfl, dp_left hp, ?_⟩
      refine ⟨_, rfl, ?_⟩
      refine k _ _ (Int.emod_nonneg _ (by omega)) (Int.emod_lt_of_pos _ hm0) ⟨cs, t, z / many, upd_same, by rw [upd_ne hlp]; exact hl, hc, ht0, by omega, Int.ediv_nonneg hz (by omega)⟩ kx_upd
    · refine ⟨_, rfl, p, _, rfl, dg_turn hp, ?_⟩
      refine ⟨_, rfl, _, _, rfl, rfl, _, rfl, p, _, rfl, dp_turn hp, ?_⟩
      have hp1 : upd H p (.dK (penD l (t + 1) z)) p = some (.dK (penD l (t + 1) z)) := upd_same
      have hl1 : upd H p (.dK (penD l (t + 1) z)) l = some (.lst (cs.map V.int)) := by rw [upd_ne hlp]; exact hl
      have kx1 : Kx p H (upd H p (.dK (penD l (t + 1) z))) := kx_upd
      generalize upd H p (.dK (penD l (t + 1) z)) = H1 at hp1 hl1 kx1
      refine ⟨_, rfl, _, _, rfl, rfl, .inl ⟨by decide, by decide⟩, _, _, rfl, rfl, ?_⟩
      refine ⟨fun σ H2 => ∃ cell : Int, σ = [some (.ref p), some (.int many), none, some (.int t), some (.int cell), none, none, none] ∧ Same H1 H2, ?_, ?_⟩
      · refine ⟨_, rfl, p, _, rfl, dg_cells hp1, by show 0 ≤ sizeLine; decide, fun e he => ?_⟩
        have s2 := same_upd (o := .lst []) he
        refine ⟨l, e, cs, [], rfl, rfl, .inl ⟨SqL.of (s2 _ _ hl1), SqL.of upd_same⟩, _, rfl, ?_⟩
        refine ite2 (fun hne => ?_) (fun hne => ?_)
        · have hcs : 0 < cs.length := by
            cases cs with
            | nil => simp at hne
            | cons c r => simp
          have h0 : 0 ≤ t % (cs.length : Int) := Int.emod_nonneg _ (by omega)
          have hx := off_get hcs t
          refine ⟨_, rfl, p, _, rfl, dg_cells (s2 _ _ hp1), _, rfl, _, rfl, p, _, rfl, dg_cells (s2 _ _ hp1), l, _, rfl, .inl (SqL.of (s2 _ _ hl1)), _, _, rfl, rfl, ?_, l, _, _, V.int (off cs t), rfl, rfl, SqL.of (s2 _ _ hl1), at_of (j := (t % (cs.length : Int)).toNat) ?_ (mapInt_get hx), ?_⟩
          · rw [List.length_map]
            omega
          · rw [List.length_map, Int.toNat_of_nonneg h0]
          · exact ⟨_, rfl, s2⟩
        · exact ⟨_, rfl, s2⟩
      · rintro σ H2 ⟨cell, rfl, s2⟩
        have hp2 := s2 _ _ hp1
        have hl2 := s2 _ _ hl1
        have kx2 := kx1.trans (kx_same s2)
        refine ⟨fun σ H3 => σ = [some (.ref p), some (.int many), none, some (.int t), some (.int cell), none, none, none] ∧ H3 = H2, ?_, ?_⟩
        · refine ⟨_, rfl, _, rfl, p, _, rfl, dg_cells hp2, l, _, rfl, .inl (SqL.of hl2), _, _, rfl, rfl, _, rfl, ?_⟩
          refine ite2 (fun h1 => ?_) (fun h1 => ?_)
          · refine ⟨_, rfl, _, rfl, _, _, rfl, rfl, ⟨by decide, by decide, by decide⟩, _, _, rfl, rfl, _, rfl, ?_⟩
            refine ite2 (fun h2 => ?_) (fun h2 => ?_)
            · have hge : (0 : Int) ≤ (if cell < 0 then -cell else cell) - 10 ^ (18 : Int).toNat := by
                have h3 := of_decide_eq_true h2
                omega
              refine ⟨_, rfl, _, rfl, _, _, rfl, rfl, ⟨by decide, by decide, by decide⟩, _, _, rfl, rfl, _, rfl, _, _, rfl, rfl, ⟨hm0, hm1⟩, _, rfl, p, _, rfl, dp_left hp2, ?_⟩
              have hlp2 : l ≠ p := hlp
              refine ⟨_, rfl, _, rfl, _, _, rfl, rfl, ⟨by decide, by decide, by decide⟩, _, _, rfl, rfl, _, rfl, _, _, rfl, rfl, hm0, ?_⟩
              refine k _ _ (Int.emod_nonneg _ (by omega)) (Int.emod_lt_of_pos _ hm0) ⟨cs, t + 1, _, upd_same, by rw [upd_ne hlp2]; exact hl2, hc, by omega, by omega, Int.ediv_nonneg hge (by omega)⟩ (kx2.trans kx_upd)
            · exact ⟨rfl, rfl⟩
          · exact ⟨rfl, rfl⟩
        · rintro σ H3 ⟨rfl, rfl⟩
          refine ⟨by show 5 ≤ sizeLine; decide, fun pl hpl => ?_⟩
          have s3 := same_upd (o := .lst [V.int 2147483629, V.int 2147483647, V.int 2147483587, V.int 2147483563, V.int 2147483579]) hpl
          have hP : upd H3 pl (.lst [V.int 2147483629, V.int 2147483647, V.int 2147483587, V.int 2147483563, V.int 2147483579]) pl = some (.lst (primesL.map V.int)) := upd_same
          have h5 : 0 ≤ t % 5 := Int.emod_nonneg _ (by decide)
          have h55 : t % 5 < 5 := Int.emod_lt_of_pos _ (by decide)
          have h6 : 0 ≤ (t + 2) % 5 := Int.emod_nonneg _ (by decide)
          have h66 : (t + 2) % 5 < 5 := Int.emod_lt_of_pos _ (by decide)
          obtain ⟨q1, e1, a1, b1⟩ := primes_at (t % 5).toNat (by omega)
          obtain ⟨q2, e2, a2, b2⟩ := primes_at ((t + 2) % 5).toNat (by omega)
          have hp3 := s3 _ _ hp2
          have hl3 := s3 _ _ hl2
          have kx3 := kx2.trans (kx_same s3)
          generalize upd H3 pl (.lst [V.int 2147483629, V.int 2147483647, V.int 2147483587, V.int 2147483563, V.int 2147483579]) = H4 at hP hp3 hl3 kx3
          refine ⟨_, rfl, _, rfl, _, _, rfl, rfl, (by show (0 : Int) < 5; decide), pl, _, _, V.int q1, rfl, rfl, SqL.of hP, at_of (j := (t % 5).toNat) (by rw [Int.toNat_of_nonneg h5]) (mapInt_get e1), ?_⟩
          refine ⟨_, rfl, _, rfl, _, _, rfl, rfl, a1, _, _, rfl, rfl, .inr ⟨by decide, by decide⟩, _, rfl, _, _, rfl, rfl, .inl ⟨by decide, by decide⟩, _, rfl, _, _, rfl, rfl, .inr ⟨by omega, by omega⟩, _, _, rfl, rfl, _, rfl, _, _, rfl, rfl, .inl ⟨by decide, by decide⟩, _, _, rfl, rfl, _, _, rfl, rfl, _, rfl, _, _, rfl, rfl, a1, ?_⟩
          have d0 : 0 ≤ (cell % q1 * 39373 + 30011 * t * t + 8117 * t + 23) % q1 := Int.emod_nonneg _ (by omega)
          have d1 : (cell % q1 * 39373 + 30011 * t * t + 8117 * t + 23) % q1 < q1 := Int.emod_lt_of_pos _ a1
          generalize hd : (cell % q1 * 39373 + 30011 * t * t + 8117 * t + 23) % q1 = dr at d0 d1
          dsimp only
          rw [hd]
          refine ⟨_, rfl, _, rfl, _, _, rfl, rfl, _, _, rfl, rfl, .inl ⟨by omega, by omega⟩, _, rfl, _, rfl, _, _, rfl, rfl, _, _, rfl, rfl, (by show (0 : Int) < 5; decide), pl, _, _, V.int q2, rfl, rfl, SqL.of hP, at_of (j := ((t + 2) % 5).toNat) (by rw [Int.toNat_of_nonneg h6]) (mapInt_get e2), _, _, rfl, rfl, a2, ?_⟩
          have f0 : 0 ≤ dr * (dr + 69621) % q2 := Int.emod_nonneg _ (by omega)
          have f1 : dr * (dr + 69621) % q2 < q2 := Int.emod_lt_of_pos _ a2
          generalize hf : dr * (dr + 69621) % q2 = df at f0 f1
          dsimp only
          rw [hf]
          refine ⟨_, rfl, _, rfl, _, _, rfl, rfl, .inl ⟨by omega, by omega⟩, _, rfl, _, _, rfl, rfl, .inl ⟨by decide, by decide⟩, _, _, rfl, rfl, _, rfl, _, _, rfl, rfl, _, _, rfl, rfl, (by show (0 : Int) < 2147483549; decide), _, _, rfl, rfl, ⟨by decide, by decide⟩, _, rfl, _, _, rfl, rfl, hm0, ?_⟩
          exact k _ _ (Int.emod_nonneg _ (by omega)) (Int.emod_lt_of_pos _ hm0) ⟨cs, t + 1, z, hp3, hl3, hc, by omega, by omega, hz⟩ kx3
theorem c__law_draw {X : Cx} {k : Nat} {t : TA} {e : Expr} {es : List Expr} {np pos : Pos} (T : Tx K mg) (hr : Room k X.A) (ha : PA X (e :: es) t) (hk : 1 ≤ k := by decide) (hK : X.K = K := by rfl) (hm : X.mg = mg := by rfl)
    (hg : Gl X "_law_draw" := by rfl) (hse : starEach (e :: es) X.env = (false, eval e X.env) :: starEach es X.env := by rfl) (hpl : (backTo pos (starEach es X.env)).any (·.1) = false := by rfl) :
    PE X (.Call (.Name "_law_draw" np) (e :: es) [] pos) (tFn sp_draw E0 t) := by
  subst hK
  subst hm
  exact pe_fR (ok__law_draw T) T.kp__law_draw T.g__law_draw (hr.mono hk) pass0 ha hg (by decide) hse hpl
end
end Lw

namespace Lw
open PySem PySem.Spec PyProof.Rows L2 My
section
variable {P : Program} {w : World} {K : Fg} {mg : Str → Option Value} {base : Heap}
def sp_pick (K : Fg) : Sp := fun vs H Q _ => ∃ (p l a : Addr) (xs : List V) (n : Nat), vs = [.ref p, .ref a] ∧ PenAt H p l n ∧ H a = some (.lst xs) ∧ n ≤ 1000000000000 ∧ 0 < xs.length ∧ xs.length ≤ 1000000 ∧
  ∀ (v : V) (j : Nat) (H' : Hp), xs[j]? = some v → PenAt H' p l (n + 1) → Kx p H H' → Q v H'
theorem ok__law_pick (T : Tx K mg) : FnR P w K mg base CX0 2 (He.ga K "_law_pick") (sp_pick K) := by
  refine (T.fnR 29 (st := s__law_pick) (at_ := fun K => He.ga K "_law_pick") rfl sc__law_pick (fun _ _ _ _ _ _ us hl => match us, hl with | [_, _], _ => rfl)) (fun vs H Q E h => ?_) (fun cdv A outer s H vs Q E hr h => ?_)
  · obtain ⟨p, l, a, xs, n, rfl, _⟩ := h
    rfl
  · obtain ⟨p, l, a, xs, n, rfl, hp, ha, hn, h0, h1, k⟩ := h
    refine ⟨_, (pss_one (ps_ret (pe_ix (ixl T) (pv 1) (c__law_draw T hr (pa_cons (pv 0) (pa_cons (pe_callB (len_k T) (by rfl) T.n_len (by decide +kernel) (pa_cons (pv 1) pa_nil)) pa_nil))) (fun _ _ => rfl)))), ?_⟩
    refine ⟨_, rfl, _, rfl, _, rfl, a, _, rfl, .inl (SqL.of ha), p, l, _, n, rfl, hp, hn, by omega, by omega, fun r H1 r0 r1 hp1 k1 => ?_⟩
    have hj : r.toNat < xs.length := by omega
    refine ⟨a, xs, r, xs[r.toNat], rfl, rfl, SqL.of (hp.keepL k1 ha), at_of (j := r.toNat) (by omega) (List.getElem?_eq_getElem hj), ?_⟩
    exact k _ r.toNat H1 (List.getElem?_eq_getElem hj) hp1 k1
theorem c__law_pick {X : Cx} {k : Nat} {t : TA} {e : Expr} {es : List Expr} {np pos : Pos} (T : Tx K mg) (hr : Room k X.A) (ha : PA X (e :: es) t) (hk : 2 ≤ k := by decide) (hK : X.K = K := by rfl) (hm : X.mg = mg := by rfl)
    (hg : Gl X "_law_pick" := by rfl) (hse : starEach (e :: es) X.env = (false, eval e X.env) :: starEach es X.env := by rfl) (hpl : (backTo pos (starEach es X.env)).any (·.1) = false := by rfl) :
    PE X (.Call (.Name "_law_pick" np) (e :: es) [] pos) (tFn (sp_pick K) E0 t) := by
  subst hK
  subst hm
  exact pe_fR (ok__law_pick T) T.kp__law_pick T.g__law_pick (hr.mono hk) pass0 ha hg (by decide) hse hpl
end
end Lw

namespace Lw
open PySem PySem.Spec PyProof.Rows L2 My
section
variable {P : Program} {w : World} {K : Fg} {mg : Str → Option Value} {base : Heap}
/-- values that are plain data as long as nothing but the pen and what is new is written -/
def Plain (K : Fg) (p : Addr) (H : Hp) (xs : List V) : Prop := ∃ dat : V → PyData, (∀ x ∈ xs, (dat x).canLay0 = true ∧ (dat x).depth ≤ 1) ∧ ∀ H', Kx p H H' → ∀ x ∈ xs, Dp K H' x (dat x)
theorem dpAll_of {H : Hp} {dat : V → PyData} : ∀ {xs : List V}, (∀ x ∈ xs, Dp K H x (dat x)) → DpAll K H xs (xs.map dat)
  | [], _ => .nil
  | x :: xs, h => .cons (h x (List.mem_cons_self ..)) (dpAll_of fun y hy => h y (List.mem_cons_of_mem _ hy))
theorem layAll_of {dat : V → PyData} : ∀ {xs : List V}, (∀ x ∈ xs, (dat x).canLay0 = true) → PyData.canLayAll0 (xs.map dat) = true
  | [], _ => rfl
  | x :: xs, h => by
    rw [List.map_cons, PyData.canLayAll0, h x (List.mem_cons_self ..), layAll_of fun y hy => h y (List.mem_cons_of_mem _ hy)]
    rfl
theorem depthAll_of {dat : V → PyData} : ∀ {xs : List V}, (∀ x ∈ xs, (dat x).depth ≤ 1) → PyData.depthAll (xs.map dat) ≤ 1
  | [], _ => Nat.zero_le _
  | x :: xs, h => by
    have h1 := h x (List.mem_cons_self ..)
    have h2 := depthAll_of (xs := xs) fun y hy => h y (List.mem_cons_of_mem _ hy)
    simp only [List.map_cons, PyData.depthAll]
    omega
theorem shapedL {dat : V → PyData} {xs : List V} (h1 : ∀ x ∈ xs, (dat x).canLay0 = true) (h2 : ∀ x ∈ xs, (dat x).depth ≤ 1) : SeqAt.shaped (.list (xs.map dat)) = true := by
  have h3 := depthAll_of h2
  show (PyData.canLay0 (.list (xs.map dat)) && decide (PyData.depth (.list (xs.map dat)) ≤ 64)) = true
  rw [Bool.and_eq_true]
  refine ⟨by simp only [PyData.canLay0]; exact layAll_of h1, decide_eq_true ?_⟩
  simp only [PyData.depth]
  omega
theorem nilL {dat : V → PyData} (xs : List V) : PyData.eqv (.list (xs.map dat)) (.list []) = xs.isEmpty := by
  cases xs with
  | nil => simp [PyData.eqv, PyData.eqvAll]
  | cons z zs => simp [PyData.eqv, PyData.eqvAll]
theorem erasePermV : ∀ (left : List V) (j : Nat) (h : j < left.length), ([left[j]] ++ left.eraseIdx j).Perm left
  | [], _, h => absurd h (Nat.not_lt_zero _)
  | x :: xs, 0, _ => List.Perm.refl _
  | x :: xs, j + 1, h => by
    have ih := erasePermV xs j (Nat.lt_of_succ_lt_succ h)
    exact (List.Perm.swap x _ _).trans (ih.cons x)
def sp_shufV (K : Fg) : Sp := fun vs H Q _ => ∃ (p l a : Addr) (xs : List V) (n : Nat), vs = [.ref p, .ref a] ∧ PenAt H p l n ∧ H a = some (.lst xs) ∧ n + xs.length ≤ 1000000000000 ∧ xs.length ≤ 1000000 ∧ Plain K p H xs ∧
  ∀ (b : Addr) (ys : List V) (H' : Hp), ys.Perm xs → H b = none → H' b = some (.lst ys) → PenAt H' p l (n + xs.length) → Kx p H H' → Q (.ref b) H'
theorem ok__law_shuffled (T : Tx K mg) : FnR P w K mg base CX0 2 (He.ga K "_law_shuffled") (sp_shufV K) := by
  refine (T.fnR 30 (st := s__law_shuffled) (at_ := fun K => He.ga K "_law_shuffled") rfl sc__law_shuffled (fun _ _ _ _ _ _ us hl => match us, hl with | [_, _], _ => rfl)) (fun vs H Q E h => ?_) (fun cdv A outer s H vs Q E hr h => ?_)
  · obtain ⟨p, l, a, xs, n, rfl, _⟩ := h
    rfl
  · obtain ⟨p, l, a, xs, n, rfl, hp, ha, hn, h1, ⟨dat, hd1, hd2⟩, k⟩ := h
    refine ⟨_, (pss_cons (ps_par (i := 2) (j := 3) (by rfl) sc__law_shuffled.nd rfl rfl (by decide) rfl rfl (pa_cons (pe_callTy (lst_k T) (by rfl) T.n_list (by decide +kernel) (pa_cons (pv 1) pa_nil)) (pa_cons (pe_lst pa_nil) pa_nil)) (by rfl))
 (pss_cons (ps_while PassesOwn.never (pt_cmpR (ned T hr.units) (pv 2) (pe_lst pa_nil) (nomark _))
 (pss_one (ps_expr (bmk T PySem.F.plainAttrs_list PySem.F.slot_list_append PySem.F.type_list_append mt_append (pv 3) (pa_cons (bmk T PySem.F.plainAttrs_list PySem.F.slot_list_pop PySem.F.type_list_pop mt_popAt (pv 2) (pa_cons (c__law_draw T hr (pa_cons (pv 0) (pa_cons (pe_callB (len_k T) (by rfl) T.n_len (by decide +kernel) (pa_cons (pv 2) pa_nil)) pa_nil))) pa_nil)) pa_nil)))))
 (pss_one (ps_ret (pv 3))))), ?_⟩
    refine ⟨_, rfl, a, _, rfl, .inl (SqL.of ha), fun L hL => ?_⟩
    have s1 := same_upd (o := .lst xs) hL
    refine ⟨by show 0 ≤ sizeLine; decide, fun F hF => ?_⟩
    have s2 := same_upd (o := .lst ([] : List V)) hF
    have hF0 : H F = none := s1.free hF
    have hLF : L ≠ F := fun e => by
      rw [← e, upd_same] at hF
      cases hF
    have nL := hp.new hL
    have nF := hp.new hF0
    refine ⟨_, _, rfl, ?_⟩
    refine ⟨fun m σ H' => ∃ (left found : List V), σ = [some (.ref p), some (.ref a), some (.ref L), some (.ref F)] ∧ H' L = some (.lst left) ∧ H' F = some (.lst found) ∧ (found ++ left).Perm xs ∧
      PenAt H' p l (n + found.length) ∧ Kx p H H' ∧ m = left.length, ⟨_, xs, [], rfl, ?_, upd_same, by simp, (hp.same (s1.trans s2)), kx_same (s1.trans s2), rfl⟩, ?_⟩
    · rw [upd_ne hLF, upd_same]
    · rintro m σ H' ⟨left, found, rfl, eL, eF, perm, hp', kx, rfl⟩
      refine ⟨_, rfl, by show 0 ≤ sizeLine; decide, fun z hz => ?_⟩
      have s3 := same_upd (o := .lst ([] : List V)) hz
      have eL3 := s3 _ _ eL
      have eF3 := s3 _ _ eF
      have hp3 := hp'.same s3
      have kx3 := kx.trans (kx_same s3)
      have ez : upd H' z (.lst ([] : List V)) z = some (.lst ([] : List V)) := upd_same
      generalize upd H' z (.lst ([] : List V)) = H3 at s3 eL3 eF3 hp3 kx3 ez
      have pl : found.length + left.length = xs.length := by
        have := perm.length_eq
        rw [List.length_append] at this
        exact this
      have lm : ∀ x ∈ left, x ∈ xs := fun x hx => perm.mem_iff.mp (List.mem_append_right _ hx)
      refine ⟨.list (left.map dat), .list [], .lst (SqL.of eL3) (dpAll_of fun x hx => hd2 H3 kx3 x (lm x hx)), .lst (SqL.of ez) .nil, shapedL (fun x hx => (hd1 x (lm x hx)).1) (fun x hx => (hd1 x (lm x hx)).2), by decide, ?_⟩
      rw [nilL]
      refine ⟨_, rfl, ?_⟩
      refine ite2 (fun hc => wh_go ?_) (fun hc => ?_)
      · have hl0 : 0 < left.length := by
          cases left with
          | nil => simp at hc
          | cons c r => simp
        refine ⟨_, rfl, .inl ⟨rfl, _, SqL.of eF3⟩, _, rfl, .inl ⟨rfl, _, SqL.of eL3⟩, _, rfl, _, rfl, L, _, rfl, .inl (SqL.of eL3), p, l, _, n + found.length, rfl, hp3, by omega, by omega, by omega, fun r H4 r0 r1 hp4 kx4 => ?_⟩
        have hj : r.toNat < left.length := by omega
        have eL4 := hp3.keepL kx4 eL3
        have eF4 := hp3.keepL kx4 eF3
        refine ⟨L, _, r, r.toNat, left[r.toNat], rfl, rfl, eL4, by omega, by omega, PySem.seqIndex_of r0 r1, List.getElem?_eq_getElem hj, ?_⟩
        have eF5 : upd H4 L (.lst (left.eraseIdx r.toNat)) F = some (.lst found) := by rw [upd_ne hLF.symm]; exact eF4
        refine ⟨F, _, _, rfl, rfl, eF5, szl (by omega), ?_⟩
        refine ⟨(left.eraseIdx r.toNat).length, by rw [List.length_eraseIdx_of_lt hj]; omega, left.eraseIdx r.toNat, found ++ [left[r.toNat]], rfl, ?_, ?_, ?_, ?_, ?_, rfl⟩
        · rw [upd_ne hLF, upd_same]
        · rw [upd_same]
        · refine List.Perm.trans ?_ perm
          rw [List.append_assoc]
          refine List.Perm.append_left _ ?_
          exact erasePermV left r.toNat hj
        · rw [List.length_append, List.length_singleton, ← Nat.add_assoc]
          exact (hp4.set nL.1 nL.2).set nF.1 nF.2
        · exact kx_new (kx_new (kx3.trans kx4) hL) hF0
      · have hl0 : left = [] := by
          cases left with
          | nil => rfl
          | cons c r => simp at hc
        subst hl0
        rw [List.append_nil] at perm
        refine ⟨_, rfl, ?_⟩
        refine k F found H3 perm hF0 eF3 ?_ kx3
        rw [← perm.length_eq]
        exact hp3
theorem c__law_shuffled {X : Cx} {k : Nat} {t : TA} {e : Expr} {es : List Expr} {np pos : Pos} (T : Tx K mg) (hr : Room k X.A) (ha : PA X (e :: es) t) (hk : 2 ≤ k := by decide) (hK : X.K = K := by rfl) (hm : X.mg = mg := by rfl)
    (hg : Gl X "_law_shuffled" := by rfl) (hse : starEach (e :: es) X.env = (false, eval e X.env) :: starEach es X.env := by rfl) (hpl : (backTo pos (starEach es X.env)).any (·.1) = false := by rfl) :
    PE X (.Call (.Name "_law_shuffled" np) (e :: es) [] pos) (tFn (sp_shufV K) E0 t) := by
  subst hK
  subst hm
  exact pe_fR (ok__law_shuffled T) T.kp__law_shuffled T.g__law_shuffled (hr.mono hk) pass0 ha hg (by decide) hse hpl
end
end Lw

namespace Lw
open PySem PySem.Spec PyProof.Rows L2 My
section
variable {P : Program} {w : World} {K : Fg} {mg : Str → Option Value} {base : Heap}
def sp_gcd : Sp := fun vs H Q _ => ∃ a b : Nat, vs = [.int (a : Int), .int (b : Int)] ∧ Q (.int (Nat.gcd a b : Nat)) H
theorem ok__law_gcd (T : Tx K mg) : FnR P w K mg base CX0 1 (He.ga K "_law_gcd") sp_gcd := by
  refine (T.fnR 31 (st := s__law_gcd) (at_ := fun K => He.ga K "_law_gcd") rfl sc__law_gcd (fun _ _ _ _ _ _ us hl => match us, hl with | [_, _], _ => rfl)) (fun vs H Q E h => ?_) (fun cdv A outer s H vs Q E hr h => ?_)
  · obtain ⟨a, b, rfl, _⟩ := h
    rfl
  · obtain ⟨a, b, rfl, q⟩ := h
    refine ⟨_, (pss_cons (ps_par (i := 0) (j := 1) (by rfl) sc__law_gcd.nd rfl rfl (by decide) rfl rfl (pa_cons (pe_callB call_abs (by rfl) T.n_abs (by decide +kernel) (pa_cons (pv 0) pa_nil)) (pa_cons (pe_callB call_abs (by rfl) T.n_abs (by decide +kernel) (pa_cons (pv 1) pa_nil)) pa_nil)) (by rfl))
 (pss_cons (ps_while PassesOwn.never (pt_cmpR op_gt (pv 1) pe_int (nomark _))
 (pss_one (ps_par (i := 0) (j := 1) (by rfl) sc__law_gcd.nd rfl rfl (by decide) rfl rfl (pa_cons (pv 1) (pa_cons (pe_op op_mod (pv 0) (pv 1)) pa_nil)) (by rfl))))
 (pss_one (ps_ret (pv 0))))), ?_⟩
    refine ⟨_, rfl, _, rfl, _, rfl, _, rfl, _, _, rfl, ?_⟩
    refine ⟨fun m σ H' => ∃ x y : Nat, σ = [some (.int (x : Int)), some (.int (y : Int))] ∧ H' = H ∧ Nat.gcd x y = Nat.gcd a b ∧ m = y, ⟨b, a, b, ?_, rfl, rfl, rfl⟩, ?_⟩
    · rw [abs_nat, abs_nat]
      rfl
    · rintro m σ H' ⟨x, y, rfl, rfl, hg, rfl⟩
      refine ⟨_, rfl, _, _, rfl, rfl, _, rfl, ?_⟩
      refine ite2 (fun hc => wh_go ?_) (fun hc => ?_)
      · have hy : 0 < m := by
          have := of_decide_eq_true hc
          omega
        refine ⟨_, rfl, _, rfl, _, rfl, _, _, rfl, rfl, (by show (0 : Int) < (m : Int); omega), _, _, rfl, ?_⟩
        refine ⟨x % m, Nat.mod_lt _ hy, m, x % m, ?_, rfl, ?_, rfl⟩
        · show [some (V.int (m : Int)), some (V.int ((x : Int) % (m : Int)))] = _
          rw [Int.natCast_emod]
        · rw [← hg, Nat.gcd_comm x m, Nat.gcd_rec m x]
          exact Nat.gcd_comm _ _
      · have hy : m = 0 := by
          have := of_decide_eq_false (Bool.eq_false_iff.mpr hc)
          omega
        subst hy
        refine ⟨_, rfl, ?_⟩
        rw [Nat.gcd_zero_right] at hg
        rw [hg]
        exact q
theorem c__law_gcd {X : Cx} {k : Nat} {t : TA} {e : Expr} {es : List Expr} {np pos : Pos} (T : Tx K mg) (hr : Room k X.A) (ha : PA X (e :: es) t) (hk : 1 ≤ k := by decide) (hK : X.K = K := by rfl) (hm : X.mg = mg := by rfl)
    (hg : Gl X "_law_gcd" := by rfl) (hse : starEach (e :: es) X.env = (false, eval e X.env) :: starEach es X.env := by rfl) (hpl : (backTo pos (starEach es X.env)).any (·.1) = false := by rfl) :
    PE X (.Call (.Name "_law_gcd" np) (e :: es) [] pos) (tFn sp_gcd E0 t) := by
  subst hK
  subst hm
  exact pe_fR (ok__law_gcd T) T.kp__law_gcd T.g__law_gcd (hr.mono hk) pass0 ha hg (by decide) hse hpl
end
end Lw

namespace Lw
open PySem PySem.Spec PyProof.Rows L2 My
/-! ### the pen and what stays while nothing but the pen is written -/
def Stay (p : Addr) (F : Hp → Prop) : Prop := ∀ (H H' : Hp) (l : Addr) (n : Nat), PenAt H p l n → Kx p H H' → F H → F H'
structure Bd (H : Hp) (p l : Addr) (n : Nat) (Fs : List (Hp → Prop)) : Prop where
  pen : PenAt H p l n
  all : ∀ F ∈ Fs, Stay p F ∧ F H
section
variable {H H' : Hp} {p l q a : Addr} {n m : Nat} {Fs Gs : List (Hp → Prop)} {F : Hp → Prop} {K : Fg} {f : Int → Int} {xs : List V}
theorem Bd.start (h : PenAt H p l n) : Bd H p l n [] := ⟨h, fun F h => by cases h⟩
theorem Bd.drawn (b : Bd H p l n Fs) (k : Kx p H H') (hp : PenAt H' p l m) : Bd H' p l m Fs := ⟨hp, fun F h => ⟨(b.all F h).1, (b.all F h).1 H H' l n b.pen k (b.all F h).2⟩⟩
theorem Bd.same (b : Bd H p l n Fs) (s : Same H H') : Bd H' p l n Fs := b.drawn (kx_same s) (b.pen.same s)
theorem Bd.mono (b : Bd H p l n Fs) (h : n ≤ m) : Bd H p l m Fs := ⟨b.pen.mono h, b.all⟩
theorem Bd.add (b : Bd H p l n Fs) (s : Stay p F) (h : F H) : Bd H p l n (F :: Fs) := ⟨b.pen, fun G hG => by
  rcases List.mem_cons.mp hG with rfl | hG
  · exact ⟨s, h⟩
  · exact b.all G hG⟩
theorem Bd.at_ (b : Bd H p l n Fs) (i : Nat) (h : Fs[i]? = some F := by rfl) : F H := (b.all F (List.mem_of_getElem? h)).2
theorem Bd.sub (b : Bd H p l n Fs) (h : ∀ F ∈ Gs, F ∈ Fs) : Bd H p l n Gs := ⟨b.pen, fun F hF => b.all F (h F hF)⟩
theorem Bd.last (b : Bd H p l n (Fs ++ Gs)) : Bd H p l n Gs := b.sub fun F h => List.mem_append_right _ h
theorem Bd.tl (b : Bd H p l n (F :: Fs)) : Bd H p l n Fs := b.sub fun F h => List.mem_cons_of_mem _ h
theorem stay_lst : Stay p (fun H => H a = some (.lst xs)) := fun _ _ _ _ hp k h => hp.keepL k h
theorem stay_tup : Stay p (fun H => H a = some (.tup xs)) := fun _ _ _ _ hp k h => hp.keepT k h
theorem Bd.addL (b : Bd H p l n Fs) (h : H a = some (.lst xs)) : Bd H p l n ((fun H => H a = some (.lst xs)) :: Fs) := b.add stay_lst h
theorem Bd.addT (b : Bd H p l n Fs) (h : H a = some (.tup xs)) : Bd H p l n ((fun H => H a = some (.tup xs)) :: Fs) := b.add stay_tup h
end
/-! ### what stays while nothing is written -/
def Stil (F : Hp → Prop) : Prop := ∀ H H' : Hp, Same H H' → F H → F H'
def Bs (H : Hp) (Fs : List (Hp → Prop)) : Prop := ∀ F ∈ Fs, Stil F ∧ F H
section
variable {H H' : Hp} {q a : Addr} {Fs Gs : List (Hp → Prop)} {F : Hp → Prop} {K : Fg} {f : Int → Int} {xs : List V}
theorem Bs.start : Bs H [] := fun F h => by cases h
theorem Bs.same (b : Bs H Fs) (s : Same H H') : Bs H' Fs := fun F h => ⟨(b F h).1, (b F h).1 H H' s (b F h).2⟩
theorem Bs.add (b : Bs H Fs) (s : Stil F) (h : F H) : Bs H (F :: Fs) := fun G hG => by
  rcases List.mem_cons.mp hG with rfl | hG
  · exact ⟨s, h⟩
  · exact b G hG
theorem Bs.at_ (b : Bs H Fs) (i : Nat) (h : Fs[i]? = some F := by rfl) : F H := (b F (List.mem_of_getElem? h)).2
theorem Bs.tl (b : Bs H (F :: Fs)) : Bs H Fs := fun G hG => b G (List.mem_cons_of_mem _ hG)
theorem Bs.addL (b : Bs H Fs) (h : H a = some (.lst xs)) : Bs H ((fun H => H a = some (.lst xs)) :: Fs) := b.add (fun _ _ s h => s _ _ h) h
theorem Bs.addT (b : Bs H Fs) (h : H a = some (.tup xs)) : Bs H ((fun H => H a = some (.tup xs)) :: Fs) := b.add (fun _ _ s h => s _ _ h) h
end
end Lw

namespace Lw
open PySem PySem.Spec PyProof.Rows L2 My
/-! what stays, for the walker -/
section
variable {H H' H1 : Hp} {p l q a : Addr} {n m : Nat} {Fs : List (Hp → Prop)} {F : Hp → Prop} {K : Fg} {f : Int → Int} {xs : List V} {o : HO}
theorem stay_ins {C dx : Addr} {fs : List (Str × V)} : Stay p (fun H => H a = some (.ins C dx fs)) := fun _ _ _ _ hp k h => k _ _ h (hp.ne h (by intro kvs z; cases z))
theorem map1 {a1 : Int} (h : H a = some (.lst [V.int a1])) : H a = some (.lst ([a1].map V.int)) := h
theorem map2 {a1 a2 : Int} (h : H a = some (.lst [V.int a1, V.int a2])) : H a = some (.lst ([a1, a2].map V.int)) := h
theorem map3 {a1 a2 a3 : Int} (h : H a = some (.lst [V.int a1, V.int a2, V.int a3])) : H a = some (.lst ([a1, a2, a3].map V.int)) := h
theorem map4 {a1 a2 a3 a4 : Int} (h : H a = some (.lst [V.int a1, V.int a2, V.int a3, V.int a4])) : H a = some (.lst ([a1, a2, a3, a4].map V.int)) := h
theorem map5 {a1 a2 a3 a4 a5 : Int} (h : H a = some (.lst [V.int a1, V.int a2, V.int a3, V.int a4, V.int a5])) : H a = some (.lst ([a1, a2, a3, a4, a5].map V.int)) := h
def insD : Option HO → Addr
  | some (.ins _ dx _) => dx
  | _ => 0
def insF : Option HO → List (Str × V)
  | some (.ins _ _ fs) => fs
  | _ => []
theorem ins_any {C dx : Addr} {fs : List (Str × V)} (h : H q = some (.ins C dx fs)) : H q = some (.ins C (insD (H q)) (insF (H q))) := by rw [h]; rfl
theorem sqNil (h : H a = some (.lst [])) : SqL K H a (([] : List Int).map V.int) := SqL.of h
/-- in a text's hypotheses: the walker keeps of each list that it was new -/
def KeepNone : Prop := True
theorem Bd.ob (i : Nat) (b : Bd H p l n Fs) (h : Fs[i]? = some fun H => H a = some o) : H a = some o := b.at_ (F := fun H => H a = some o) i h
theorem Bd.newL (b : Bd H p l n Fs) (e : upd H a (.lst xs) = H') (h : H a = none) : Bd H' p l n ((fun H => H a = some (.lst xs)) :: Fs) := (b.same (newS e h)).addL (newO e)
theorem Bd.newT (b : Bd H p l n Fs) (e : upd H a (.tup xs) = H') (h : H a = none) : Bd H' p l n ((fun H => H a = some (.tup xs)) :: Fs) := (b.same (newS e h)).addT (newO e)
theorem stay_dct {kvs : List (Key × V)} (ne : a ≠ p) : Stay p (fun H => H a = some (.dK kvs)) := fun _ _ _ _ _ k h => k _ _ h ne
theorem Bd.newD {kvs : List (Key × V)} (b : Bd H p l n Fs) (e : upd H a (.dK kvs) = H') (h : H a = none) : Bd H' p l n ((fun H => H a = some (.dK kvs)) :: Fs) := (b.same (newS e h)).add (stay_dct (b.pen.new h).1) (newO e)
theorem stay_kx {H0 : Hp} : Stay p (fun H => Kx p H0 H) := fun _ _ _ _ _ k h => h.trans k
theorem Bd.begin (h : PenAt H p l n) : Bd H p l n [fun H1 => Kx p H H1] := (Bd.start h).add stay_kx (Kx.refl H)
theorem Bd.penM (b : Bd H p l n Fs) : PenAt H p l n := b.pen
end
end Lw

local macro_rules | `(tactic| fail "f") => `(tactic| first
  | assumption
  | (apply Lw.Bd.ob 0; (focus assumption); exact rfl)
  | (apply Lw.Bd.ob 1; (focus assumption); exact rfl)
  | (apply Lw.Bd.ob 2; (focus assumption); exact rfl)
  | (apply Lw.Bd.ob 3; (focus assumption); exact rfl)
  | (apply Lw.Bd.ob 4; (focus assumption); exact rfl)
  | (apply Lw.Bd.ob 5; (focus assumption); exact rfl)
  | (apply Lw.Bd.ob 6; (focus assumption); exact rfl)
  | (apply Lw.Bd.ob 7; (focus assumption); exact rfl)
  | (apply Lw.Bd.ob 8; (focus assumption); exact rfl)
  | (apply Lw.Bd.ob 9; (focus assumption); exact rfl)
  | (apply My.Same.use; (focus assumption); fail "f"))
local macro_rules | `(tactic| fail "a") => `(tactic| first
  | exact rfl
  | with_reducible assumption
  | ((with_reducible show (_ : Int) < _); omega)
  | ((with_reducible show (_ : Int) ≤ _); omega)
  | assumption
  | (show _ = some _; fail "f")
  | (apply L2.SqL.of; fail "f")
  | (apply L2.SqT.of; fail "f")
  | (apply Or.inl; apply L2.SqL.of; fail "f")
  | (apply Or.inr; apply L2.SqT.of; fail "f")
  | (show ∃ xs : List L2.V, L2.SqL _ _ _ xs; apply Exists.intro; apply L2.SqL.of; fail "f")
  | (show ∃ xs : List L2.V, L2.SqT _ _ _ xs; apply Exists.intro; apply L2.SqT.of; fail "f")
  | (apply Lw.Tx.cl_CA; assumption)
  | (show PySem.W.notFirst _ _ _ = true; apply And.right; apply Lw.Tx.fst_CA; assumption)
  | (apply Lw.Tx.no_CA_all_years; assumption)
  | (apply Lw.Tx.no_CA_days_of_week; assumption)
  | (apply Lw.Tx.no_CA_begins; assumption)
  | (apply Lw.Tx.no_CA_rests; assumption)
  | (apply Lw.Tx.no_CA_free_days; assumption)
  | (apply Lw.Tx.no_CA_lengths; assumption)
  | (apply Lw.Tx.no_CA_starts; assumption)
  | (apply Lw.Tx.no_CA_turn; assumption)
  | (apply Lw.Tx.no_CA_works; assumption)
  | (apply Lw.Bd.pen; assumption)
  | (apply Or.inl; fail "f")
  | (apply Or.inr; fail "f")
  | (apply L2.at_of rfl; assumption)
  | (apply My.at_add; assumption)
  | (apply Or.inl; refine ⟨rfl, ?_⟩; apply Exists.intro; apply L2.SqL.of; fail "f")
  | exact L2.Same.refl _
  | (show L2.Same _ _; refine My.Same.via (by assumption) ?_; fail "a")
  | omega
  | decide
  | exact ⟨by omega, by omega⟩
  | (apply My.mulR; omega)
  | (apply My.mulL; omega)
  | (show 0 < List.length _; simp; done)
  | (show List.length _ ≤ _; simp; done)
  | (apply My.log10 (B := 60) (by decide); omega)
  | (apply My.sz; first | omega | (simp <;> omega))
  | (apply My.szl; first | omega | (simp <;> omega))
  | (apply Or.inl; refine ⟨?_, ?_⟩; (focus apply L2.SqL.of; fail "f"); apply Lw.sqNil; fail "f")
  | (apply Lw.map1; fail "f")
  | (apply L2.SqL.of; apply Lw.map1; fail "f")
  | (apply Lw.map2; fail "f")
  | (apply L2.SqL.of; apply Lw.map2; fail "f")
  | (apply Lw.map3; fail "f")
  | (apply L2.SqL.of; apply Lw.map3; fail "f")
  | (apply Lw.map4; fail "f")
  | (apply L2.SqL.of; apply Lw.map4; fail "f")
  | (apply Lw.map5; fail "f")
  | (apply L2.SqL.of; apply Lw.map5; fail "f"))
local macro_rules | `(tactic| fail "c") => `(tactic| first
  | (apply Exists.intro; fail "c")
  | (apply And.intro; (focus fail "a")))
local macro_rules | `(tactic| rfl') => `(tactic| first
  | (fail "c"; rfl')
  | ((have kn : Lw.KeepNone := by assumption); intro q hq; generalize e : L2.upd _ _ _ = H'; (fail_if_success (refine @Exists.intro (Nat → _) _ ?_ ?_)); have B := Lw.Bd.newL (by assumption) e hq; clear e kn; rfl')
  | (intro q hq; generalize e : L2.upd _ _ _ = H'; (fail_if_success (refine @Exists.intro (Nat → _) _ ?_ ?_)); have B := Lw.Bd.newL (by assumption) e hq; clear e hq; rfl')
  | (intro q hq; generalize e : L2.upd _ _ _ = H'; (fail_if_success (refine @Exists.intro (Nat → _) _ ?_ ?_)); have B := Lw.Bd.newT (by assumption) e hq; clear e hq; rfl')
  | (intro q hq; refine And.intro (show L2.upd _ _ (L2.HO.dK []) _ = some (L2.HO.dK []) from L2.upd_same) ?_)
  | (intro q hq; generalize e : L2.upd _ _ _ = H'; (fail_if_success (refine @Exists.intro (Nat → _) _ ?_ ?_)); have B := Lw.Bd.newD (by assumption) e hq; clear e hq; rfl')
  | (intro p hp; generalize e : L2.upd _ _ _ = H'; (fail_if_success (refine @Exists.intro (Nat → _) _ ?_ ?_)); (have s := My.newS e hp); (have f := My.newO e); clear e; rfl')
  | (intro (v : L2.V) (j : Nat) H' hv hp hk; have B := Lw.Bd.drawn (by assumption) hk hp; clear hp hk)
  | (intro r H' r0 r1 hp hk; have B := Lw.Bd.drawn (by assumption) hk hp; clear hp hk; rfl')
  | (intro y H' yb hp hk; have B := Lw.Bd.drawn (by assumption) hk hp; clear hp hk; rfl')
  | (intro v j H' hv hp hk; have B := Lw.Bd.drawn (by assumption) hk hp; clear hp hk)
  | (intro H' s; have B := Lw.Bd.same (by assumption) s; clear s; rfl')
  | (intro x H' s hx m; have B := Lw.Bd.addM (Lw.Bd.same (by assumption) s) m; clear s hx m; rfl')
  | (intro t H' s e; have B := Lw.Bd.addT (Lw.Bd.same (by assumption) s) e; clear s e; rfl')
  | (intro t H' s e; have B := Lw.Bd.addL (Lw.Bd.same (by assumption) s) e; clear s e; rfl')
  | (intro b r H' r0 r1 rb hb e hp hk; have B := Lw.Bd.addL (Lw.Bd.drawn (by assumption) hk hp) e; clear hb e hp hk; rfl')
  | (intro t H' s nt e; have B := Lw.Bd.addT (Lw.Bd.same (by assumption) s) e; clear s e nt; rfl')
  | (intro t H' s nt e; have B := Lw.Bd.addL (Lw.Bd.same (by assumption) s) e; clear s e nt; rfl')
  | (intro o H' s ho; have B := Lw.Bd.same (by assumption) s; clear s; rfl')
  | (intro o H' (s : L2.Same _ _) ho; rfl')
  | (intro H' (s : L2.Same _ _); rfl')
  | ((with_reducible refine L2.iteT ?_); rfl')
  | ((with_reducible refine L2.iteF ?_); rfl')
  | skip)

--autob
namespace Lw
open PySem PySem.Spec PyProof.Rows L2 My
section
variable {P : Program} {w : World} {K : Fg} {mg : Str → Option Value} {base : Heap}
/-! ### a calendar as plain values -/
def plD (y r h d b : Addr) (C : Cal) (cyc per : Nat) : List (Key × V) := [(.inr "years", .ref y), (.inr "week", natV C.week), (.inr "first", natV C.first), (.inr "rest", .ref r), (.inr "holidays", .ref h), (.inr "days", .ref d), (.inr "begins", .ref b), (.inr "months", natV C.mon), (.inr "cycle", natV cyc), (.inr "period", natV per)]
def RowsL (H : Hp) (ts : List Addr) (rows : List (List Nat)) : Prop := Paired (fun t r => H t = some (.lst (r.map natV))) ts rows
theorem RowsL.rows {H : Hp} : ∀ {ts : List Addr} {rows : List (List Nat)}, RowsL H ts rows → RowsV H ts rows
  | _, _, .nil => .nil
  | _, _, .cons h t => .cons (.inl h) (RowsL.rows t)
theorem RowsL.get {H : Hp} : ∀ {ts : List Addr} {rows : List (List Nat)}, RowsL H ts rows → ∀ {i : Nat} {r : List Nat}, rows[i]? = some r → ∃ t, ts[i]? = some t ∧ H t = some (.lst (r.map natV))
  | _, _, .nil, _, _, h => by cases h
  | _, _, .cons h _, 0, _, e => by
    cases e
    exact ⟨_, rfl, h⟩
  | _, _, .cons _ t, i + 1, _, e => RowsL.get t (i := i) e
theorem RowsL.len {H : Hp} {ts : List Addr} {rows : List (List Nat)} (h : RowsL H ts rows) : ts.length = rows.length := Paired.length h
theorem RowsL.kx {p : Addr} {H H' : Hp} {kvs : List (Key × V)} (hp : H p = some (.dK kvs)) (k : Kx p H H') : ∀ {ts : List Addr} {rows : List (List Nat)}, RowsL H ts rows → RowsL H' ts rows
  | _, _, .nil => .nil
  | _, _, .cons h t => .cons (k _ _ h (ne_dict hp h (by intro z; cases z))) (RowsL.kx hp k t)
theorem RowsL.same {H H' : Hp} (s : Same H H') : ∀ {ts : List Addr} {rows : List (List Nat)}, RowsL H ts rows → RowsL H' ts rows
  | _, _, .nil => .nil
  | _, _, .cons h t => .cons (s _ _ h) (RowsL.same s t)
theorem PrT.kx {p : Addr} {H H' : Hp} {kvs : List (Key × V)} (hp : H p = some (.dK kvs)) (k : Kx p H H') : ∀ {ts : List Addr} {ps : List (Int × Int)}, PrT H ts ps → PrT H' ts ps
  | _, _, .nil => .nil
  | _, _, .cons h t => .cons (k _ _ h (ne_dict hp h (by intro z; cases z))) (PrT.kx hp k t)
/-- what the table tells of a day of the cycle -/
def teV (C : Cal) (d : Nat) : List V := [natV (C.teY d), natV (C.teM d), natV (C.teD d), natV (C.teL d)]
def DaysT (H : Hp) (C : Cal) (ds : List Addr) (n : Nat) : Prop := ds.length = n ∧ ∀ (d : Nat) (t : Addr), ds[d]? = some t → H t = some (.tup (teV C d))
structure PlB (H : Hp) (C : Cal) (y r h d b : Addr) : Prop where
  yr : ∃ ts, H y = some (.lst (ts.map V.ref)) ∧ RowsL H ts C.rows
  rest : H r = some (.lst (C.rest.map V.int))
  hol : ∃ ts, H h = some (.lst (ts.map V.ref)) ∧ PrT H ts C.hol
  days : ∃ ds, H d = some (.lst (ds.map V.ref)) ∧ DaysT H C ds C.ls.sum
  beg : H b = some (.lst ((List.range C.ls.length).map fun k => natV (pre C.ls k)))
theorem PlB.kx {p : Addr} {H H' : Hp} {kvs : List (Key × V)} {C : Cal} {y r h d b : Addr} (hp : H p = some (.dK kvs)) (k : Kx p H H') (B : PlB H C y r h d b) : PlB H' C y r h d b := by
  obtain ⟨⟨t1, a1, a2⟩, b1, ⟨t2, c1, c2⟩, ⟨ds, d1, d2, d3⟩, e⟩ := B
  have L : ∀ {a : Addr} {xs : List V}, H a = some (.lst xs) → H' a = some (.lst xs) := fun h => k _ _ h (ne_dict hp h (by intro z; cases z))
  exact ⟨⟨t1, L a1, a2.kx hp k⟩, L b1, ⟨t2, L c1, c2.kx hp k⟩, ⟨ds, L d1, d2, fun i t e => k _ _ (d3 i t e) (ne_dict hp (d3 i t e) (by intro z; cases z))⟩, L e⟩
/-- a plain calendar at q -/
def PlainF (H : Hp) (q : Addr) (C : Cal) (ws : List (Key × V)) : Prop := ∃ y r h d b : Addr, H q = some (.dK (plD y r h d b C C.ls.sum C.per ++ ws)) ∧ PlB H C y r h d b ∧ C.Ok
/-- the entries that come last -/
def WkP (H : Hp) (C : Cal) (ws : List (Key × V)) : Prop := ∃ f g : Addr, ws = [(.inr "works", .ref f), (.inr "ahead", .ref g)] ∧ H f = some (.lst ((C.wrkN C.per).map natV)) ∧ H g = some (.lst ((List.range (C.per + 1)).map fun i => natV (C.wrkN i).length))
def PlainAt (H : Hp) (q : Addr) (C : Cal) : Prop := ∃ ws, PlainF H q C ws ∧ WkP H C ws
section
variable {p q : Addr} {H H' : Hp} {kvs ws : List (Key × V)} {C : Cal}
theorem PlainF.kx (hp : H p = some (.dK kvs)) (k : Kx p H H') (hq : q ≠ p) (h : PlainF H q C ws) : PlainF H' q C ws := by
  obtain ⟨y, r, h, d, b, e, B, ok⟩ := h
  exact ⟨y, r, h, d, b, k _ _ e hq, B.kx hp k, ok⟩
theorem PlainF.same (h : PlainF H q C ws) (s : Same H H') : PlainF H' q C ws := by
  obtain ⟨y, r, h, d, b, e, ⟨⟨t1, a1, a2⟩, b1, ⟨t2, c1, c2⟩, ⟨ds, d1, d2, d3⟩, e2⟩, ok⟩ := h
  exact ⟨y, r, h, d, b, s _ _ e, ⟨⟨t1, s _ _ a1, a2.same s⟩, s _ _ b1, ⟨t2, s _ _ c1, c2.same s⟩, ⟨ds, s _ _ d1, d2, fun i t e => s _ _ (d3 i t e)⟩, s _ _ e2⟩, ok⟩
theorem PlainAt.same (h : PlainAt H q C) (s : Same H H') : PlainAt H' q C := by
  obtain ⟨ws, h, f, g, e, h1, h2⟩ := h
  exact ⟨ws, h.same s, f, g, e, s _ _ h1, s _ _ h2⟩
theorem PlainAt.kx (hp : H p = some (.dK kvs)) (k : Kx p H H') (hq : q ≠ p) (h : PlainAt H q C) : PlainAt H' q C := by
  obtain ⟨ws, h, f, g, e, h1, h2⟩ := h
  have L : ∀ {a : Addr} {xs : List V}, H a = some (.lst xs) → H' a = some (.lst xs) := fun h => k _ _ h (ne_dict hp h (by intro z; cases z))
  exact ⟨ws, h.kx hp k hq, f, g, e, L h1, L h2⟩
theorem stay_pl (hq : q ≠ p) : Stay p (fun H => PlainAt H q C) := fun _ _ _ _ hp k h => by
  obtain ⟨kvs, e⟩ := hp.dict
  exact h.kx e k hq
theorem PlainAt.ok (h : PlainAt H q C) : C.Ok := by
  obtain ⟨ws, ⟨y, r, h, d, b, e, B, ok⟩, _⟩ := h
  exact ok
theorem PlainAt.f (h : PlainAt H q C) : ∃ ws, PlainF H q C ws := by
  obtain ⟨ws, h, _⟩ := h
  exact ⟨ws, h⟩
theorem dg_of {k : Str} {v : V} (h : H q = some (.dK kvs)) (e : valV kvs (.inr k) = some v) : DGet H q (.str k) (some v) := by
  rw [← e]
  exact DGet.k (k := .inr k) h
theorem plv {y r h d b : Addr} {cyc per : Nat} : valV (plD y r h d b C cyc per ++ ws) (.inr "years") = some (.ref y) ∧ valV (plD y r h d b C cyc per ++ ws) (.inr "week") = some (natV C.week) ∧ valV (plD y r h d b C cyc per ++ ws) (.inr "first") = some (natV C.first) ∧ valV (plD y r h d b C cyc per ++ ws) (.inr "rest") = some (.ref r)
    ∧ valV (plD y r h d b C cyc per ++ ws) (.inr "holidays") = some (.ref h) ∧ valV (plD y r h d b C cyc per ++ ws) (.inr "days") = some (.ref d) ∧ valV (plD y r h d b C cyc per ++ ws) (.inr "months") = some (natV C.mon) ∧ valV (plD y r h d b C cyc per ++ ws) (.inr "cycle") = some (natV cyc) ∧ valV (plD y r h d b C cyc per ++ ws) (.inr "period") = some (natV per) := by
  refine ⟨?_, ?_, ?_, ?_, ?_, ?_, ?_, ?_, ?_⟩ <;> rfl
end
def sp_facts : Sp := fun vs H Q _ => ∃ (q : Addr) (C : Cal) (ws : List (Key × V)) (d : Int), vs = [.ref q, .int d] ∧ PlainF H q C ws ∧ ∀ (t : Addr) (H' : Hp), Same H H' → H' t = some (.tup [.int (C.yr d), .int (C.mth d), .int (C.day d), .int (ml C.ls (C.num d))]) → Q (.ref t) H'
theorem ok__law_facts (T : Tx K mg) : FnR P w K mg base CX0 1 (He.ga K "_law_facts") sp_facts := by
  refine (T.fnR 34 (st := s__law_facts) (at_ := fun K => He.ga K "_law_facts") rfl sc__law_facts (fun _ _ _ _ _ _ us hl => match us, hl with | [_, _], _ => rfl)) (fun vs H Q E h => ?_) (fun cdv A outer s H vs Q E hr h => ?_)
  · obtain ⟨q, C, ws, d, rfl, _⟩ := h
    rfl
  · obtain ⟨q, C, ws, d, rfl, ⟨y, r, hh, dd, b, e, B, ok⟩, k⟩ := h
    obtain ⟨v1, v2, v3, v4, v5, v6, v7, v8, v9⟩ := plv (ws := ws) (C := C) (y := y) (r := r) (h := hh) (d := dd) (b := b) (cyc := C.ls.sum) (per := C.per)
    obtain ⟨u, hu, e0, e1, e2, e3, e4⟩ := ok.te_tell d
    obtain ⟨ds, d1, d2, d3⟩ := B.days
    obtain ⟨t, ht⟩ : ∃ t, ds[u]? = some t := ⟨_, List.getElem?_eq_getElem (by omega)⟩
    refine ⟨_, (pss_cons (ps_asg (pe_ix (ixl T) (pe_dget (hu_of hr) (pv 0) pe_str (fun _ _ => rfl)) (pe_op op_mod (pv 1) (pe_dget (hu_of hr) (pv 0) pe_str (fun _ _ => rfl))) (fun _ _ => rfl)) (pgt T (n := 4) rfl (pgs_cons (pg_name (i := 2) sc__law_facts.nd rfl (Or.inl rfl)) (pgs_cons (pg_name (i := 3) sc__law_facts.nd rfl (Or.inl rfl)) (pgs_cons (pg_name (i := 4) sc__law_facts.nd rfl (Or.inl rfl)) (pgs_cons (pg_name (i := 5) sc__law_facts.nd rfl (Or.inl rfl)) pgs_nil))))))
 (pss_one (ps_ret (pe_tup (pa_cons (pe_op op_add (pv 2) (pe_op op_mul (pe_op op_fdiv (pv 1) (pe_dget (hu_of hr) (pv 0) pe_str (fun _ _ => rfl))) (pe_callB (len_k T) (by rfl) T.n_len (by decide +kernel) (pa_cons (pe_dget (hu_of hr) (pv 0) pe_str (fun _ _ => rfl)) pa_nil)))) (pa_cons (pv 3) (pa_cons (pv 4) (pa_cons (pv 5) pa_nil)))))))), ?_⟩
    have s0 := ok.s0
    have s1 := ok.s1
    have yl := ok.yr.le
    obtain ⟨ys, y1, y2⟩ := B.yr
    have ly : ys.length = C.rows.length := y2.len
    rfl'
    refine ⟨dg_of e v6, ?_⟩
    rfl'
    refine ⟨dg_of e v8, ?_⟩
    refine ⟨_, _, rfl, rfl, (by show (0 : Int) < (C.ls.sum : Int); omega), ?_⟩
    show rIxL K (V.ref dd) (V.int (d % (C.ls.sum : Int))) H _
    rw [← e0]
    refine ⟨dd, _, _, V.ref t, rfl, rfl, SqL.of d1, at_of (j := u) rfl (by rw [List.getElem?_map, ht]; rfl), ?_⟩
    refine ⟨t, _, rfl, SqT.of (d3 _ _ ht), rfl, ?_⟩
    rfl'
    refine ⟨dg_of e v8, ?_⟩
    refine ⟨_, _, rfl, rfl, ⟨by show (0 : Int) < (C.ls.sum : Int); omega, by show (C.ls.sum : Int) < 1073741824; omega⟩, ?_⟩
    rfl'
    refine ⟨dg_of e v1, ?_⟩
    refine ⟨y, _, rfl, .inl (SqL.of y1), ?_⟩
    refine ⟨_, _, rfl, rfl, .inr ⟨?_, ?_⟩, ?_⟩
    · rw [List.length_map, ly]
      omega
    · rw [List.length_map, ly]
      omega
    rfl'
    rename_i t2 n2 H2 s2 f2
    refine k t2 H2 s2 ?_
    rw [f2, e1, e2, e3, e4, List.length_map, ly]
    rfl
theorem c__law_facts {X : Cx} {k : Nat} {t : TA} {e : Expr} {es : List Expr} {np pos : Pos} (T : Tx K mg) (hr : Room k X.A) (ha : PA X (e :: es) t) (hk : 1 ≤ k := by decide) (hK : X.K = K := by rfl) (hm : X.mg = mg := by rfl)
    (hg : Gl X "_law_facts" := by rfl) (hse : starEach (e :: es) X.env = (false, eval e X.env) :: starEach es X.env := by rfl) (hpl : (backTo pos (starEach es X.env)).any (·.1) = false := by rfl) :
    PE X (.Call (.Name "_law_facts" np) (e :: es) [] pos) (tFn sp_facts E0 t) := by
  subst hK
  subst hm
  exact pe_fR (ok__law_facts T) T.kp__law_facts T.g__law_facts (hr.mono hk) pass0 ha hg (by decide) hse hpl
def sp_wkd : Sp := fun vs H Q _ => ∃ (q : Addr) (C : Cal) (ws : List (Key × V)) (d : Int), vs = [.ref q, .int d] ∧ PlainF H q C ws ∧ Q (.int (C.wkd d)) H
theorem ok__law_weekday (T : Tx K mg) : FnR P w K mg base CX0 1 (He.ga K "_law_weekday") sp_wkd := by
  refine (T.fnR 35 (st := s__law_weekday) (at_ := fun K => He.ga K "_law_weekday") rfl sc__law_weekday (fun _ _ _ _ _ _ us hl => match us, hl with | [_, _], _ => rfl)) (fun vs H Q E h => ?_) (fun cdv A outer s H vs Q E hr h => ?_)
  · obtain ⟨q, C, ws, d, rfl, _⟩ := h
    rfl
  · obtain ⟨q, C, ws, d, rfl, ⟨y, r, hh, dd, b, e, B, ok⟩, k⟩ := h
    obtain ⟨v1, v2, v3, v4, v5, v6, v7, v8, v9⟩ := plv (ws := ws) (C := C) (y := y) (r := r) (h := hh) (d := dd) (b := b) (cyc := C.ls.sum) (per := C.per)
    have w0 := ok.w0
    refine ⟨_, (pss_one (ps_ret (pe_op op_mod (pe_op op_add (pv 1) (pe_dget (hu_of hr) (pv 0) pe_str (fun _ _ => rfl))) (pe_dget (hu_of hr) (pv 0) pe_str (fun _ _ => rfl))))), ?_⟩
    rfl'
    refine ⟨dg_of e v3, ?_⟩
    rfl'
    refine ⟨dg_of e v2, ?_⟩
    refine ⟨_, _, rfl, rfl, (by show (0 : Int) < (C.week : Int); omega), ?_⟩
    exact k
theorem c__law_weekday {X : Cx} {k : Nat} {t : TA} {e : Expr} {es : List Expr} {np pos : Pos} (T : Tx K mg) (hr : Room k X.A) (ha : PA X (e :: es) t) (hk : 1 ≤ k := by decide) (hK : X.K = K := by rfl) (hm : X.mg = mg := by rfl)
    (hg : Gl X "_law_weekday" := by rfl) (hse : starEach (e :: es) X.env = (false, eval e X.env) :: starEach es X.env := by rfl) (hpl : (backTo pos (starEach es X.env)).any (·.1) = false := by rfl) :
    PE X (.Call (.Name "_law_weekday" np) (e :: es) [] pos) (tFn sp_wkd E0 t) := by
  subst hK
  subst hm
  exact pe_fR (ok__law_weekday T) T.kp__law_weekday T.g__law_weekday (hr.mono hk) pass0 ha hg (by decide) hse hpl
def sp_isw : Sp := fun vs H Q _ => ∃ (q : Addr) (C : Cal) (ws : List (Key × V)) (d : Int), vs = [.ref q, .int d] ∧ PlainF H q C ws ∧ ∀ H' : Hp, Same H H' → Q (.bl (C.isW d)) H'
theorem ok__law_is_work (T : Tx K mg) : FnR P w K mg base CX0 2 (He.ga K "_law_is_work") sp_isw := by
  refine (T.fnR 36 (st := s__law_is_work) (at_ := fun K => He.ga K "_law_is_work") rfl sc__law_is_work (fun _ _ _ _ _ _ us hl => match us, hl with | [_, _], _ => rfl)) (fun vs H Q E h => ?_) (fun cdv A outer s H vs Q E hr h => ?_)
  · obtain ⟨q, C, ws, d, rfl, _⟩ := h
    rfl
  · obtain ⟨q, C, ws, d, rfl, pf, k⟩ := h
    refine ⟨_, (pss_cons (ps_asg (c__law_facts T hr (pa_cons (pv 0) (pa_cons (pv 1) pa_nil))) (pgt T (n := 4) rfl (pgs_cons (pg_name (i := 2) sc__law_is_work.nd rfl (Or.inl rfl)) (pgs_cons (pg_name (i := 3) sc__law_is_work.nd rfl (Or.inl rfl)) (pgs_cons (pg_name (i := 4) sc__law_is_work.nd rfl (Or.inl rfl)) (pgs_cons (pg_name (i := 5) sc__law_is_work.nd rfl (Or.inl rfl)) pgs_nil))))))
 (pss_one (ps_ret (pe_and (pe_cmpR (ninq T) (c__law_weekday T hr (pa_cons (pv 0) (pa_cons (pv 1) pa_nil))) (pe_dget (hu_of hr) (pv 0) pe_str (fun _ _ => rfl)) (by rfl)) (pe_one (pe_cmpR (ninP T hr.units) (pe_tup (pa_cons (pv 3) (pa_cons (pv 4) pa_nil))) (pe_dget (hu_of hr) (pv 0) pe_str (fun _ _ => rfl)) (by rfl))))))), ?_⟩
    refine ⟨_, rfl, _, rfl, q, C, ws, d, rfl, pf, fun t H1 s1 ht => ?_⟩
    replace pf : PlainF H1 q C ws := pf.same s1
    have pf0 := pf
    obtain ⟨y, r, hh, dd, b, e, B, ok⟩ := pf0
    obtain ⟨v1, v2, v3, v4, v5, v6, v7, v8, v9⟩ := plv (ws := ws) (C := C) (y := y) (r := r) (h := hh) (d := dd) (b := b) (cyc := C.ls.sum) (per := C.per)
    obtain ⟨hs, h1, h2⟩ := B.hol
    refine ⟨t, _, rfl, SqT.of ht, rfl, ?_⟩
    rfl'
    refine ⟨dg_of e v4, ?_⟩
    refine ⟨r, _, rfl, .inl (SqL.of B.rest), rfl, flatC _, ?_⟩
    rw [if_pos rfl, inC]
    refine ⟨_, rfl, ?_⟩
    have iw : C.isW d = (!decide (C.wkd d ∈ C.rest) && !decide ((C.mth d, C.day d) ∈ C.hol)) := rfl
    refine ite2 (fun c1 => ?_) (fun c1 => ?_)
    · rw [c1, Bool.true_and] at iw
      rw [iw] at k
      rfl'
      rename_i p1 hp1 H2 s2 f2
      refine ⟨dg_of (s2 _ _ e) v5, ?_⟩
      exact ⟨p1, hh, (C.mth d, C.day d), hs, C.hol, rfl, rfl, SqT.of f2, .inl (SqL.of (s2 _ _ h1)), (h2.same s2).prs, k _ (s1.trans s2)⟩
    · rw [Bool.eq_false_iff.mpr c1, Bool.false_and] at iw
      rw [iw] at k
      exact k _ s1
theorem c__law_is_work {X : Cx} {k : Nat} {t : TA} {e : Expr} {es : List Expr} {np pos : Pos} (T : Tx K mg) (hr : Room k X.A) (ha : PA X (e :: es) t) (hk : 2 ≤ k := by decide) (hK : X.K = K := by rfl) (hm : X.mg = mg := by rfl)
    (hg : Gl X "_law_is_work" := by rfl) (hse : starEach (e :: es) X.env = (false, eval e X.env) :: starEach es X.env := by rfl) (hpl : (backTo pos (starEach es X.env)).any (·.1) = false := by rfl) :
    PE X (.Call (.Name "_law_is_work" np) (e :: es) [] pos) (tFn sp_isw E0 t) := by
  subst hK
  subst hm
  exact pe_fR (ok__law_is_work T) T.kp__law_is_work T.g__law_is_work (hr.mono hk) pass0 ha hg (by decide) hse hpl
end
end Lw

--autob
namespace Lw
open PySem PySem.Spec PyProof.Rows L2 My
section
variable {P : Program} {w : World} {K : Fg} {mg : Str → Option Value} {base : Heap}
/-- days of the cycle in the list at D, after those of H -/
def DaysAt (H : Hp) (cy : Addr) (C : Cal) (n : Nat) : Prop := ∃ ds, H cy = some (.lst (ds.map V.ref)) ∧ DaysT H C ds n
def begL (C : Cal) (k : Nat) : List V := (List.range k).map fun k => natV (pre C.ls k)
def DInv (H : Hp) (C : Cal) (cy bg : Addr) (n : Nat) (H' : Hp) : Prop := Same H H' ∧ DaysAt H' cy C (pre C.ls n) ∧ H' bg = some (.lst (begL C n))
def TAcc (H3 : Hp) (D : Addr) (f : Nat → List V) (i : Nat) (H' : Hp) : Prop := Same H3 H' ∧ ∃ us : List Addr, H' D = some (.lst (us.map V.ref)) ∧ us.length = i ∧ ∀ (e : Nat) (t : Addr), us[e]? = some t → H' t = some (.tup (f e))
theorem TAcc.same {H3 H5 H6 : Hp} {D : Addr} {f : Nat → List V} {i : Nat} (h : TAcc H3 D f i H5) (s : Same H5 H6) : TAcc H3 D f i H6 := by
  obtain ⟨s1, us, e, ul, hu⟩ := h
  exact ⟨s1.trans s, us, s _ _ e, ul, fun d t z => s _ _ (hu d t z)⟩
theorem tup_push {H3 H5 : Hp} {D l : Addr} {f : Nat → List V} {i : Nat} (hD : H3 D = none) (h : TAcc H3 D f i H5) (hl : H5 l = some (.tup (f i))) (hi : i < 1000000) :
    ∃ acc, H5 D = some (.lst acc) ∧ acc.length < sizeLine ∧ TAcc H3 D f (i + 1) (upd H5 D (.lst (acc ++ [.ref l]))) := by
  obtain ⟨s, us, e, ul, hu⟩ := h
  refine ⟨_, e, by rw [List.length_map, sizeLine_eq]; omega, same_under s hD, us ++ [l], by rw [upd_same, List.map_append]; rfl, by rw [List.length_append, ul]; rfl, fun d t ht => ?_⟩
  have key : ∀ {t : Addr} {xs : List V}, H5 t = some (.tup xs) → upd H5 D (.lst (us.map V.ref ++ [.ref l])) t = some (.tup xs) := fun {t xs} z => by
    rw [upd_ne (fun y => by rw [y, e] at z; cases z)]
    exact z
  rcases Nat.lt_or_ge d us.length with c | c
  · rw [List.getElem?_append_left c] at ht
    exact key (hu d t ht)
  · rw [List.getElem?_append_right c] at ht
    have : d - us.length = 0 := by
      cases z : d - us.length with
      | zero => rfl
      | succ n => rw [z] at ht; simp at ht
    rw [this] at ht
    cases ht
    rw [show d = i by omega]
    exact key hl
/-- the days of one more month -/
theorem days_push {H H5 : Hp} {C : Cal} {cy bg : Addr} {ds us : List Addr} {k l : Nat} (hcy : H cy = none) (s : Same H H5) (ne : cy ≠ bg) (d1 : H5 cy = some (.lst (ds.map V.ref))) (d : DaysT H5 C ds (pre C.ls k)) (b : H5 bg = some (.lst (begL C (k + 1)))) (ul : us.length = l) (hu : ∀ (e : Nat) (t : Addr), us[e]? = some t → H5 t = some (.tup (teV C (pre C.ls k + e))))
    (ps : pre C.ls (k + 1) = pre C.ls k + l) : DInv H C cy bg (k + 1) (upd H5 cy (.lst (ds.map V.ref ++ us.map V.ref))) := by
  have key : ∀ {t : Addr} {xs : List V}, H5 t = some (.tup xs) → upd H5 cy (.lst (ds.map V.ref ++ us.map V.ref)) t = some (.tup xs) := fun {t xs} z => by
    rw [upd_ne (fun y => by rw [y, d1] at z; cases z)]
    exact z
  refine ⟨same_under s hcy, ⟨ds ++ us, by rw [upd_same, List.map_append], by rw [List.length_append, d.1, ul, ps], fun e t ht => ?_⟩, by rw [upd_ne ne.symm]; exact b⟩
  rcases Nat.lt_or_ge e ds.length with c | c
  · rw [List.getElem?_append_left c] at ht
    exact key (d.2 e t ht)
  · rw [List.getElem?_append_right c] at ht
    have := hu _ t ht
    rw [show pre C.ls k + (e - ds.length) = e by have := d.1; omega] at this
    exact key this
theorem begL_succ {C : Cal} {k : Nat} : begL C (k + 1) = begL C k ++ [natV (pre C.ls k)] := by
  unfold begL
  rw [List.range_succ, List.map_append]
  rfl
theorem begL_len {C : Cal} {k : Nat} : (begL C k).length = k := by
  unfold begL
  rw [List.length_map, List.length_range]
def sp_wd : Sp := fun vs H Q _ => ∃ (y r h : Addr) (ts hs : List Addr) (C : Cal), vs = [.ref y, natV C.week, natV C.first, .ref r, .ref h] ∧ H y = some (.lst (ts.map V.ref)) ∧ RowsL H ts C.rows ∧ H r = some (.lst (C.rest.map V.int)) ∧ H h = some (.lst (hs.map V.ref)) ∧ PrT H hs C.hol ∧ C.Ok ∧
  ∀ (q : Addr) (H' : Hp), Same H H' → H q = none → PlainAt H' q C → Q (.ref q) H'
theorem ok__law_with_days (T : Tx K mg) : FnR P w K mg base CX0 3 (He.ga K "_law_with_days") sp_wd := by
  refine (T.fnR 33 (st := s__law_with_days) (at_ := fun K => He.ga K "_law_with_days") rfl sc__law_with_days (fun _ _ _ _ _ _ us hl => match us, hl with | [_, _, _, _, _], _ => rfl)) (fun vs H Q E h => ?_) (fun cdv A outer s H vs Q E hr h => ?_)
  · obtain ⟨y, r, hh, ts, hs, C, rfl, _⟩ := h
    rfl
  · obtain ⟨y, r, hh, ts, hs, C, rfl, hy, hrw, hrs, hhs, hps, ok, k⟩ := h
    refine ⟨_, (pss_cons (ps_par (i := 5) (j := 6) (by rfl) sc__law_with_days.nd rfl rfl (by decide) rfl rfl (pa_cons (pe_lst pa_nil) (pa_cons (pe_lst pa_nil) pa_nil)) (by rfl))
 (pss_cons (ps_for PassesOwn.never rfl (pi_range1 rfl T.n_range (pa_cons (pe_callB (len_k T) (by rfl) T.n_len (by decide +kernel) (pa_cons (pv 0) pa_nil)) pa_nil)) (pg_name (i := 7) sc__law_with_days.nd rfl (Or.inr rfl))
 (pss_one (ps_for PassesOwn.never rfl (pi_range1 rfl T.n_range (pa_cons (pe_callB (len_k T) (by rfl) T.n_len (by decide +kernel) (pa_cons (pe_ix (ixl T) (pv 0) (pv 7) (fun _ _ => rfl)) pa_nil)) pa_nil)) (pg_name (i := 8) sc__law_with_days.nd rfl (Or.inr rfl))
 (pss_cons (ps_expr (bmk T PySem.F.plainAttrs_list PySem.F.slot_list_append PySem.F.type_list_append mt_append (pv 6) (pa_cons (pe_callB (len_k T) (by rfl) T.n_len (by decide +kernel) (pa_cons (pv 5) pa_nil)) pa_nil)))
 (pss_cons (ps_set (i := 9) sc__law_with_days.nd rfl (Or.inr rfl) (pe_ix (ixl T) (pe_ix (ixl T) (pv 0) (pv 7) (fun _ _ => rfl)) (pv 8) (fun _ _ => rfl)))
 (pss_one (ps_expr (bmk T PySem.F.plainAttrs_list PySem.F.slot_list_extend PySem.F.type_list_extend mt_extend (pv 5) (pa_cons (pe_lc (own := [("_law_day", 15)]) rfl sc__law_with_days.nd (pi_range1 rfl T.n_range (pa_cons (pv 9) pa_nil)) (blkOk_by (own := [("_law_day", 15)]) (N := N__law_with_days) (sc := defScope s__law_with_days) (by decide +kernel)) (fun _ _ _ _ _ => (pg_name (i := 15) sc__law_with_days.nd rfl (Or.inl rfl))) (fun _ _ _ _ _ => pts_nil) (fun _ _ _ _ _ => (pe_tup (pa_cons (pv 7) (pa_cons (pe_op op_add (pv 8) pe_int) (pa_cons (pe_op op_add (pv 15) pe_int) (pa_cons (pv 9) pa_nil))))))) pa_nil)))))))))
 (pss_cons (ps_set (i := 10) sc__law_with_days.nd rfl (Or.inr rfl) (pe_disp (pps_cons pe_str (pv 0) (pps_cons pe_str (pv 1) (pps_cons pe_str (pv 2) (pps_cons pe_str (pv 3) (pps_cons pe_str (pv 4) (pps_cons pe_str (pv 5) pps_nil)))))) (by rfl) (by rfl) (fun z => by cases z) (by decide)))
 (pss_cons (ps_expr (bmk T PySem.F.plainAttrs_dict PySem.F.slot_dict_update PySem.F.type_dict_update mt_updateD (pv 10) (pa_cons (pe_disp (pps_cons pe_str (pv 6) (pps_cons pe_str (pe_callB (len_k T) (by rfl) T.n_len (by decide +kernel) (pa_cons (pe_ix (ixl T) (pv 0) pe_int (fun _ _ => rfl)) pa_nil)) (pps_cons pe_str (pe_callB (len_k T) (by rfl) T.n_len (by decide +kernel) (pa_cons (pv 5) pa_nil)) pps_nil))) (by rfl) (by rfl) (fun z => by cases z) (by decide)) pa_nil)))
 (pss_cons (ps_dput (hu_of hr) (pv 10) pe_str (pe_op op_mul (pe_op op_fdiv (pe_callB (len_k T) (by rfl) T.n_len (by decide +kernel) (pa_cons (pv 5) pa_nil)) (c__law_gcd T hr (pa_cons (pe_callB (len_k T) (by rfl) T.n_len (by decide +kernel) (pa_cons (pv 5) pa_nil)) (pa_cons (pv 1) pa_nil)))) (pv 1)) rfl)
 (pss_cons (ps_asg (pe_tup (pa_cons (pe_lc (own := [("_law_date", 14)]) rfl sc__law_with_days.nd (pi_range1 rfl T.n_range (pa_cons (pe_dget (hu_of hr) (pv 10) pe_str (fun _ _ => rfl)) pa_nil)) (blkOk_by (own := [("_law_date", 14)]) (N := N__law_with_days) (sc := defScope s__law_with_days) (by decide +kernel)) (fun _ _ _ _ _ => (pg_name (i := 14) sc__law_with_days.nd rfl (Or.inl rfl))) (fun _ _ _ _ _ => pts_nil) (fun _ _ _ _ _ => (c__law_is_work T hr (pa_cons (pv 10) (pa_cons (pv 14) pa_nil))))) (pa_cons (pe_lst (pa_cons pe_int pa_nil)) pa_nil))) (pgt T (n := 2) rfl (pgs_cons (pg_name (i := 11) sc__law_with_days.nd rfl (Or.inr rfl)) (pgs_cons (pg_name (i := 12) sc__law_with_days.nd rfl (Or.inl rfl)) pgs_nil))))
 (pss_cons (ps_for PassesOwn.never rfl (pil T (pv 11)) (pg_name (i := 13) sc__law_with_days.nd rfl (Or.inl rfl))
 (pss_one (ps_expr (bmk T PySem.F.plainAttrs_list PySem.F.slot_list_append PySem.F.type_list_append mt_append (pv 12) (pa_cons (pe_op op_add (pe_ix (ixl T) (pv 12) (pe_un un_neg pe_int) (fun _ _ => rfl)) (pe_callTy call_int1 (by rfl) T.n_int (by decide +kernel) (pa_cons (pv 13) pa_nil))) pa_nil)))))
 (pss_cons (ps_dput (hu_of hr) (pv 10) pe_str (pe_lc (own := [("_law_date", 14)]) rfl sc__law_with_days.nd (pi_range1 rfl T.n_range (pa_cons (pe_dget (hu_of hr) (pv 10) pe_str (fun _ _ => rfl)) pa_nil)) (blkOk_by (own := [("_law_date", 14)]) (N := N__law_with_days) (sc := defScope s__law_with_days) (by decide +kernel)) (fun _ _ _ _ _ => (pg_name (i := 14) sc__law_with_days.nd rfl (Or.inl rfl))) (fun _ _ _ _ _ => (pts_one (pt_val (pe_ix (ixl T) (pv 11) (pv 14) (fun _ _ => rfl))))) (fun _ _ _ _ _ => (pv 14))) rfl)
 (pss_cons (ps_dput (hu_of hr) (pv 10) pe_str (pv 12) rfl)
 (pss_one (ps_ret (pv 10)))))))))))), ?_⟩
    have s0 := ok.s0
    have s1 := ok.s1
    have yl := ok.yr.le
    have m1 := ok.m1
    have lt := hrw.len
    refine ⟨by show 0 ≤ sizeLine; decide, fun cy hcy => ?_⟩
    have s1 := same_upd (o := .lst ([] : List V)) hcy
    refine ⟨by show 0 ≤ sizeLine; decide, fun bg hbg => ?_⟩
    have s2 := same_upd (o := .lst ([] : List V)) hbg
    have hbg0 : H bg = none := s1.free hbg
    have ne : cy ≠ bg := fun z => by
      rw [← z, upd_same] at hbg
      cases hbg
    refine ⟨_, _, rfl, ?_⟩
    have ecy : upd (upd H cy (.lst ([] : List V))) bg (.lst ([] : List V)) cy = some (.lst ([] : List V)) := by rw [upd_ne ne, upd_same]
    have ebg : upd (upd H cy (.lst ([] : List V))) bg (.lst ([] : List V)) bg = some (.lst ([] : List V)) := upd_same
    have s12 := s1.trans s2
    generalize upd (upd H cy (.lst ([] : List V))) bg (.lst ([] : List V)) = H2 at ecy ebg s12
    have hy2 := s12 _ _ hy
    rfl'
    skip
    have en : (((ts.map V.ref).length : Nat) : Int).toNat = C.rows.length := by rw [Int.toNat_natCast, List.length_map, lt]
    refine ⟨by rw [List.length_map, lt]; omega, ?_⟩
    refine for_range (n := (((ts.map V.ref).length : Nat) : Int).toNat) (fun i σ H' => ∃ v7 v8 v9 : Option V, σ = [some (.ref y), some (natV C.week), some (natV C.first), some (.ref r), some (.ref hh), some (.ref cy), some (.ref bg), v7, v8, v9, none, none, none, none, none, none] ∧ DInv H C cy bg (i * C.mon) H') ⟨none, none, none, rfl, by rw [Nat.zero_mul]; exact ⟨s12, ⟨[], ecy, rfl, fun d t z => by cases z⟩, ebg⟩⟩ ?_ ?_
    · rintro i σ H' hi ⟨v7, v8, v9, rfl, I⟩
      rw [en] at hi
      obtain ⟨row, hrow⟩ : ∃ row, C.rows[i]? = some row := ⟨_, List.getElem?_eq_getElem hi⟩
      obtain ⟨t, ht, etr⟩ := hrw.get hrow
      have rl : row.length = C.mon := ok.yr.eq _ (List.mem_of_getElem? hrow)
      have hy3 := I.1 _ _ hy
      have et3 := I.1 _ _ etr
      have eix : atI (ts.map V.ref) (0 + (i : Int)) = some (V.ref t) := at_of (j := i) (by omega) (by rw [List.getElem?_map, ht]; rfl)
      have er : (((row.map natV).length : Nat) : Int).toNat = C.mon := by rw [Int.toNat_natCast, List.length_map, rl]
      rfl'
      refine for_range (n := (((row.map natV).length : Nat) : Int).toNat) (fun j σ H' => ∃ v8 v9 : Option V, σ = [some (.ref y), some (natV C.week), some (natV C.first), some (.ref r), some (.ref hh), some (.ref cy), some (.ref bg), some (.int (0 + (i : Int))), v8, v9, none, none, none, none, none, none] ∧ DInv H C cy bg (i * C.mon + j) H') ⟨_, _, rfl, by rw [Nat.add_zero]; exact I⟩ ?_ ?_
      · rintro j σ H3 hj ⟨v8, v9, rfl, I3⟩
        rw [er] at hj
        obtain ⟨sm, ⟨ds, d1, d2, d3⟩, b1⟩ := I3
        have te := fun e (he : e < row.getD j 0) => ok.te_at hrow hj he
        have hk : i * C.mon + j < C.ls.length := by
          rw [ok.len]
          have := Nat.mul_le_mul_right C.mon (show i + 1 ≤ C.rows.length from hi)
          rw [Nat.add_mul] at this
          omega
        have el := flat_at ok.yr.eq hrow hj
        have ps := pre_succ hk
        rw [show C.ls.getD (i * C.mon + j) 0 = row.getD j 0 from el] at ps
        have cl := ok.le
        have pl : pre C.ls (i * C.mon + j) ≤ 224000 := Nat.le_trans (by have := pre_le ok.pos (Nat.le_of_lt hk) (Nat.le_refl _); rw [pre_all] at this; exact this) ok.s1
        have l40 : row.getD j 0 ≤ 40 := by
          rw [← el]
          exact ok.top _ (getD_mem hk)
        have ej : (row.map natV)[j]? = some (natV (row.getD j 0)) := by
          rw [List.getElem?_map, List.getD_eq_getElem?_getD, List.getElem?_eq_getElem (by omega)]
          rfl
        obtain ⟨k0, hk0⟩ : ∃ k0, i * C.mon + j = k0 := ⟨_, rfl⟩
        rw [hk0] at te hk ps pl d2 b1
        rfl'
        refine ⟨by rw [begL_len, sizeLine_eq]; omega, ?_⟩
        rw [show begL C k0 ++ [V.int ((ds.map V.ref).length : Int)] = begL C (k0 + 1) by rw [begL_succ, List.length_map, d2]; rfl]
        have k4 : ∀ {a : Addr} {o : HO}, a ≠ bg → H3 a = some o → upd H3 bg (.lst (begL C (k0 + 1))) a = some o := fun ne z => by
          rw [upd_ne ne]
          exact z
        have sm4 : Same H (upd H3 bg (.lst (begL C (k0 + 1)))) := same_under sm hbg0
        have e4 : upd H3 bg (.lst (begL C (k0 + 1))) bg = some (.lst (begL C (k0 + 1))) := upd_same
        have d4 := k4 ne d1
        have dd4 : DaysT (upd H3 bg (.lst (begL C (k0 + 1)))) C ds (pre C.ls k0) := ⟨d2, fun d t z => k4 (fun y => by have := d3 d t z; rw [y, b1] at this; cases this) (d3 d t z)⟩
        generalize upd H3 bg (.lst (begL C (k0 + 1))) = H4 at sm4 e4 d4 dd4
        have hy4 := sm4 _ _ hy
        have et4 := sm4 _ _ etr
        have ej4 : atI (row.map natV) (0 + (j : Int)) = some (natV (row.getD j 0)) := at_of (j := j) (by omega) ej
        rfl'
        intro D hD
        refine walk_w walk_range (TAcc H4 D fun e => teV C (pre C.ls k0 + e)) ⟨same_upd hD, [], upd_same, rfl, fun e t z => by cases z⟩ (fun _ _ _ _ => trivial) ?_ ?_
        · rintro e x H5 _ he I5 ⟨rfl, rfl⟩
          rw [Int.toNat_natCast] at he
          obtain ⟨_, t1, t2, t3, t4⟩ := te e he
          rfl'
          rename_i pt npt H6 s6 e6
          refine tup_push hD (I5.same s6) ?_ (by omega)
          rw [e6]
          unfold teV natV
          dsimp only
          rw [t1, t2, t3, t4, Int.zero_add, Int.zero_add, Int.zero_add]
          rfl
        · rintro H5 ⟨s5, us, e5, ul, hu⟩
          rw [Int.toNat_natCast] at ul
          have c5 := s5 _ _ d4
          rfl'
          have dd5 : DaysT H5 C ds (pre C.ls k0) := ⟨dd4.1, fun d t z => s5 _ _ (dd4.2 d t z)⟩
          rw [show i * C.mon + (j + 1) = k0 + 1 by omega]
          exact days_push hcy (sm4.trans s5) ne c5 dd5 (s5 _ _ e4) ul hu ps
      · rintro σ H3 ⟨v8, v9, rfl, I3⟩
        rw [er] at I3
        refine ⟨_, _, _, rfl, ?_⟩
        rw [Nat.add_mul, Nat.one_mul]
        exact I3
    · rintro σ H3 ⟨v7, v8, v9, rfl, I3⟩
      rw [en, ← ok.len] at I3
      obtain ⟨sm, ⟨ds, d1, dd⟩, b1⟩ := I3
      rw [pre_all] at dd
      have hy4 := sm _ _ hy
      rfl'
      rename_i q nq0 H4 s4 e4
      refine ⟨[(.inr "years", .ref y), (.inr "week", natV C.week), (.inr "first", natV C.first), (.inr "rest", .ref r), (.inr "holidays", .ref hh), (.inr "days", .ref cy)], rfl, by show 6 ≤ 15; decide, ?_⟩
      rw [show mergeK [] [((.inr "years" : Key), V.ref y), (.inr "week", natV C.week), (.inr "first", natV C.first), (.inr "rest", .ref r), (.inr "holidays", .ref hh), (.inr "days", .ref cy)] = [(.inr "years", .ref y), (.inr "week", natV C.week), (.inr "first", natV C.first), (.inr "rest", .ref r), (.inr "holidays", .ref hh), (.inr "days", .ref cy)] from rfl]
      obtain ⟨row0, hrow0⟩ : ∃ row, C.rows[0]? = some row := ⟨_, List.getElem?_eq_getElem ok.yr.ne⟩
      have rl0 : row0.length = C.mon := ok.yr.eq _ (List.mem_of_getElem? hrow0)
      obtain ⟨t0, ht0, et0⟩ := hrw.get hrow0
      have eix0 : atI (ts.map V.ref) 0 = some (V.ref t0) := at_of (j := 0) rfl (by rw [List.getElem?_map, ht0]; rfl)
      have q0 : H q = none := sm.free nq0
      have smq : Same H (upd H4 q (.dK [(.inr "years", .ref y), (.inr "week", natV C.week), (.inr "first", natV C.first), (.inr "rest", .ref r), (.inr "holidays", .ref hh), (.inr "days", .ref cy)])) := same_under (sm.trans s4) q0
      have s3q : Same H3 (upd H4 q (.dK [(.inr "years", .ref y), (.inr "week", natV C.week), (.inr "first", natV C.first), (.inr "rest", .ref r), (.inr "holidays", .ref hh), (.inr "days", .ref cy)])) := same_under s4 nq0
      have eq : upd H4 q (.dK [(.inr "years", .ref y), (.inr "week", natV C.week), (.inr "first", natV C.first), (.inr "rest", .ref r), (.inr "holidays", .ref hh), (.inr "days", .ref cy)]) q = some (.dK [(.inr "years", .ref y), (.inr "week", natV C.week), (.inr "first", natV C.first), (.inr "rest", .ref r), (.inr "holidays", .ref hh), (.inr "days", .ref cy)]) := upd_same
      generalize upd H4 q (.dK [(.inr "years", .ref y), (.inr "week", natV C.week), (.inr "first", natV C.first), (.inr "rest", .ref r), (.inr "holidays", .ref hh), (.inr "days", .ref cy)]) = H5 at smq s3q eq
      have d5 := s3q _ _ d1
      have hy5 := smq _ _ hy
      have et05 := smq _ _ et0
      have b5 := s3q _ _ b1
      refine ⟨_, rfl, .inr (.inr (.inl ⟨rfl, .inl ⟨_, eq⟩⟩)), ?_⟩
      rfl'
      rename_i o no H6 s6 e6
      rw [List.length_map, rl0, List.length_map, dd.1]
      refine ⟨[(.inr "begins", .ref bg), (.inr "months", natV C.mon), (.inr "cycle", natV C.ls.sum)], rfl, by show 3 ≤ 15; decide, ?_⟩
      rw [show mergeK [] [((.inr "begins" : Key), V.ref bg), (.inr "months", natV C.mon), (.inr "cycle", natV C.ls.sum)] = [(.inr "begins", .ref bg), (.inr "months", natV C.mon), (.inr "cycle", natV C.ls.sum)] from rfl]
      have qo : q ≠ o := ne_of_none eq no
      have s7 : Same H5 (upd H6 o (.dK [(.inr "begins", .ref bg), (.inr "months", natV C.mon), (.inr "cycle", natV C.ls.sum)])) := same_under s6 no
      have e7 : upd H6 o (.dK [(.inr "begins", .ref bg), (.inr "months", natV C.mon), (.inr "cycle", natV C.ls.sum)]) o = some (.dK [(.inr "begins", .ref bg), (.inr "months", natV C.mon), (.inr "cycle", natV C.ls.sum)]) := upd_same
      generalize upd H6 o (.dK [(.inr "begins", .ref bg), (.inr "months", natV C.mon), (.inr "cycle", natV C.ls.sum)]) = H7 at s7 e7
      refine ⟨q, o, _, _, rfl, rfl, s7 _ _ eq, e7, qo, by show 9 ≤ sizeLine; decide, ?_⟩
      rw [show mergeK [((.inr "years" : Key), V.ref y), (.inr "week", natV C.week), (.inr "first", natV C.first), (.inr "rest", .ref r), (.inr "holidays", .ref hh), (.inr "days", .ref cy)] [(.inr "begins", .ref bg), (.inr "months", natV C.mon), (.inr "cycle", natV C.ls.sum)] = [(.inr "years", .ref y), (.inr "week", natV C.week), (.inr "first", natV C.first), (.inr "rest", .ref r), (.inr "holidays", .ref hh), (.inr "days", .ref cy), (.inr "begins", .ref bg), (.inr "months", natV C.mon), (.inr "cycle", natV C.ls.sum)] from rfl]
      have sm8 : Same H (upd H7 q (.dK [(.inr "years", .ref y), (.inr "week", natV C.week), (.inr "first", natV C.first), (.inr "rest", .ref r), (.inr "holidays", .ref hh), (.inr "days", .ref cy), (.inr "begins", .ref bg), (.inr "months", natV C.mon), (.inr "cycle", natV C.ls.sum)])) := same_under (smq.trans s7) q0
      have s8 : Same H3 (upd H7 q (.dK [(.inr "years", .ref y), (.inr "week", natV C.week), (.inr "first", natV C.first), (.inr "rest", .ref r), (.inr "holidays", .ref hh), (.inr "days", .ref cy), (.inr "begins", .ref bg), (.inr "months", natV C.mon), (.inr "cycle", natV C.ls.sum)])) := same_under (s3q.trans s7) nq0
      have e8 : upd H7 q (.dK [(.inr "years", .ref y), (.inr "week", natV C.week), (.inr "first", natV C.first), (.inr "rest", .ref r), (.inr "holidays", .ref hh), (.inr "days", .ref cy), (.inr "begins", .ref bg), (.inr "months", natV C.mon), (.inr "cycle", natV C.ls.sum)]) q = some (.dK [(.inr "years", .ref y), (.inr "week", natV C.week), (.inr "first", natV C.first), (.inr "rest", .ref r), (.inr "holidays", .ref hh), (.inr "days", .ref cy), (.inr "begins", .ref bg), (.inr "months", natV C.mon), (.inr "cycle", natV C.ls.sum)]) := upd_same
      generalize upd H7 q (.dK [(.inr "years", .ref y), (.inr "week", natV C.week), (.inr "first", natV C.first), (.inr "rest", .ref r), (.inr "holidays", .ref hh), (.inr "days", .ref cy), (.inr "begins", .ref bg), (.inr "months", natV C.mon), (.inr "cycle", natV C.ls.sum)]) = H8 at sm8 s8 e8
      have d8 := s8 _ _ d1
      rfl'
      have w0 := ok.w0
      have w1 := ok.w1
      have g0 : 0 < Nat.gcd C.ls.sum C.week := Nat.gcd_pos_of_pos_left _ s0
      have g1 : Nat.gcd C.ls.sum C.week ≤ C.ls.sum := Nat.gcd_le_left _ s0
      have ss := ok.s1
      rw [List.length_map, dd.1]
      refine ⟨⟨by omega, by omega⟩, ?_⟩
      have eper : ((C.ls.sum : Int) / ((Nat.gcd C.ls.sum C.week : Nat) : Int)) * (C.week : Int) = (C.per : Int) := by
        unfold Cal.per
        rw [← Int.natCast_ediv, ← Int.natCast_mul, Nat.lcm, Nat.mul_comm (C.ls.sum / Nat.gcd C.ls.sum C.week) C.week, ← Nat.mul_div_assoc _ (Nat.gcd_dvd_left C.ls.sum C.week), Nat.mul_comm]
      refine ⟨_, rfl, _, _, rfl, rfl, .inr ⟨by omega, by omega⟩, ?_⟩
      have dp := DPut.k (k := .inr "period") (v := natV C.per) e8 (by show 9 < sizeLine; decide)
      rw [show putK [((.inr "years" : Key), V.ref y), (.inr "week", natV C.week), (.inr "first", natV C.first), (.inr "rest", .ref r), (.inr "holidays", .ref hh), (.inr "days", .ref cy), (.inr "begins", .ref bg), (.inr "months", natV C.mon), (.inr "cycle", natV C.ls.sum)] (.inr "period") (natV C.per) = plD y r hh cy bg C C.ls.sum C.per from rfl] at dp
      have dp' : DPut H8 q (.str "period") (V.int (((C.ls.sum : Int) / ((Nat.gcd C.ls.sum C.week : Nat) : Int)) * (C.week : Int))) (upd H8 q (.dK (plD y r hh cy bg C C.ls.sum C.per))) := by
        rw [eper]
        exact dp
      refine ⟨_, rfl, q, _, rfl, dp', ?_⟩
      have sm9 : Same H (upd H8 q (.dK (plD y r hh cy bg C C.ls.sum C.per))) := same_under sm8 q0
      have s9 : Same H3 (upd H8 q (.dK (plD y r hh cy bg C C.ls.sum C.per))) := same_under s8 nq0
      have e9 : upd H8 q (.dK (plD y r hh cy bg C C.ls.sum C.per)) q = some (.dK (plD y r hh cy bg C C.ls.sum C.per)) := upd_same
      clear dp dp' e8 e7 eq
      generalize upd H8 q (.dK (plD y r hh cy bg C C.ls.sum C.per)) = H9 at sm9 s9 e9
      have pf : PlainF H9 q C [] := ⟨y, r, hh, cy, bg, by rw [List.append_nil]; exact e9, ⟨⟨ts, sm9 _ _ hy, hrw.same sm9⟩, sm9 _ _ hrs, ⟨hs, sm9 _ _ hhs, hps.same sm9⟩, ⟨ds, s9 _ _ d1, dd.1, fun d t z => s9 _ _ (dd.2 d t z)⟩, s9 _ _ b1⟩, ok⟩
      have vp9 : valV (plD y r hh cy bg C C.ls.sum C.per) (.inr "period") = some (natV C.per) := rfl
      have pp := ok.per
      have p0 := ok.p0
      rfl'
      refine ⟨dg_of e9 vp9, ?_⟩
      rfl'
      intro fl hfl
      refine walk_w walk_range (Acc H9 fl fun i => V.bl (C.isW (i : Int))) (Acc.start hfl) (fun _ _ _ _ => trivial) ?_ ?_
      · rintro e x H10 _ he A ⟨rfl, rfl⟩
        rw [Int.toNat_natCast] at he
        have pf10 := pf.same A.1
        rfl'
        rename_i H11 s11
        exact A.push hfl s11 (by omega) (by rw [Int.zero_add])
      rintro H10 ⟨s10, e10⟩
      rw [Int.toNat_natCast] at e10
      have e10q := s10 _ _ e9
      rfl'
      rename_i ah nah H11 s11 e11 tp ntp H12 s12' e12
      have ef12 := s12' _ _ (s11 _ _ e10)
      refine for_list (xs := (List.range C.per).map fun i : Nat => V.bl (C.isW (i : Int))) (fun i σ H' => ∃ v13 : Option V, σ = [some (.ref y), some (natV C.week), some (natV C.first), some (.ref r), some (.ref hh), some (.ref cy), some (.ref bg), v7, v8, v9, some (.ref q), some (.ref fl), some (.ref ah), v13, none, none] ∧ Same H10 H' ∧ H' ah = some (.lst ((List.range (i + 1)).map fun i => natV (C.wrkN i).length))) ⟨none, rfl, s11.trans s12', s12' _ _ e11⟩ ?_ ?_ ?_
      · rintro i σ H' hi ⟨v13, rfl, s, e⟩
        exact SqL.of (s _ _ e10)
      · rintro i x σ H' hx ⟨v13, rfl, s, e⟩
        have hi : i < C.per := by
          have := (List.getElem?_eq_some_iff.mp hx).1
          rw [List.length_map, List.length_range] at this
          exact this
        have ex : V.bl (C.isW (i : Int)) = x := by
          rw [List.getElem?_map, List.getElem?_range hi] at hx
          exact Option.some.inj hx
        subst ex
        have ea : atI ((List.range (i + 1)).map fun i => natV (C.wrkN i).length) (-1) = some (natV (C.wrkN i).length) := at_last (n := i) (by simp) (by rw [List.getElem?_map, List.getElem?_range (by omega)]; rfl)
        have wl := C.wrkN_len i
        rfl'
        refine .inr ⟨_, rfl, _, _, rfl, rfl, ?_⟩
        refine ⟨ah, _, _, rfl, rfl, e, by rw [List.length_map, List.length_range, sizeLine_eq]; omega, ?_⟩
        refine ⟨_, rfl, same_under s nah, ?_⟩
        rw [upd_same, List.range_succ (n := i + 1), List.map_append]
        have en : natV (C.wrkN (i + 1)).length = V.int (((C.wrkN i).length : Int) + (if C.isW (i : Int) = true then 1 else 0)) := by
          rw [Cal.wrkN_succ, List.length_append]
          cases C.isW (i : Int) <;> rfl
        show _ = some (HO.lst (_ ++ [natV (C.wrkN (i + 1)).length]))
        rw [en]
      rintro σ H13 ⟨v13, rfl, s13, e13⟩
      rw [List.length_map, List.length_range] at e13
      have e13q := s13 _ _ e10q
      have e13f := s13 _ _ e10
      have pf13 := (pf.same s10).same s13
      rfl'
      refine ⟨dg_of e13q vp9, ?_⟩
      rfl'
      intro wa hwa
      refine walk_w walk_range (fun i H' => Same H13 H' ∧ H' wa = some (.lst ((C.wrkN i).map natV))) ⟨same_upd hwa, upd_same⟩ (fun _ _ _ _ => trivial) ?_ ?_
      · rintro i x H14 _ hi ⟨s14, e14⟩ ⟨rfl, rfl⟩
        rw [Int.toNat_natCast] at hi
        have e14f := s14 _ _ e13f
        have ef : atI ((List.range C.per).map fun i : Nat => V.bl (C.isW (i : Int))) (0 + (i : Int)) = some (V.bl (C.isW (i : Int))) := at_of (j := i) (by omega) (by rw [List.getElem?_map, List.getElem?_range hi]; rfl)
        have wl := C.wrkN_len i
        rfl'
        refine ite2 (fun c => ?_) (fun c => ?_)
        · refine ⟨_, rfl, _, e14, by rw [List.length_map, sizeLine_eq]; omega, same_under s14 hwa, ?_⟩
          rw [upd_same, Cal.wrkN_succ, if_pos c, List.map_append]
          show some (HO.lst (_ ++ [V.int (0 + (i : Int))])) = some (HO.lst (_ ++ [V.int (i : Int)]))
          rw [Int.zero_add]
        · refine ⟨s14, ?_⟩
          rw [Cal.wrkN_succ, if_neg c, List.append_nil]
          exact e14
      rintro H14 ⟨s14, e14⟩
      rw [Int.toNat_natCast] at e14
      have e14q := s14 _ _ e13q
      have pf14 := pf13.same s14
      have dp1 := DPut.k (k := .inr "works") (v := .ref wa) e14q (by show 10 < sizeLine; decide)
      rw [show putK (plD y r hh cy bg C C.ls.sum C.per) (.inr "works") (.ref wa) = plD y r hh cy bg C C.ls.sum C.per ++ [(.inr "works", .ref wa)] from rfl] at dp1
      refine ⟨_, rfl, q, _, rfl, dp1, ?_⟩
      have dp2 := DPut.k (k := .inr "ahead") (v := .ref ah) (upd_same (H := H14) (a := q) (o := .dK (plD y r hh cy bg C C.ls.sum C.per ++ [(.inr "works", .ref wa)]))) (by show 11 < sizeLine; decide)
      rw [show putK (plD y r hh cy bg C C.ls.sum C.per ++ [(.inr "works", .ref wa)]) (.inr "ahead") (.ref ah) = plD y r hh cy bg C C.ls.sum C.per ++ [(.inr "works", .ref wa), (.inr "ahead", .ref ah)] from rfl] at dp2
      refine ⟨_, rfl, _, rfl, q, _, rfl, dp2, _, rfl, ?_⟩
      have smz : Same H H14 := ((sm9.trans s10).trans s13).trans s14
      have kx : Kx q H14 (upd (upd H14 q (.dK (plD y r hh cy bg C C.ls.sum C.per ++ [(.inr "works", .ref wa)]))) q (.dK (plD y r hh cy bg C C.ls.sum C.per ++ [(.inr "works", .ref wa), (.inr "ahead", .ref ah)]))) := fun b u e n => by
        rw [upd_ne n, upd_ne n]
        exact e
      refine k q _ (same_under (same_under smz q0) q0) q0 ?_
      have L : ∀ {a : Addr} {xs : List V}, H14 a = some (.lst xs) → a ≠ q := fun h z => by
        rw [z, e14q] at h
        cases h
      obtain ⟨y', r', h', d', b', eq', B', ok'⟩ := pf14
      rw [List.append_nil, e14q] at eq'
      injection eq' with eq'
      injection eq' with eq'
      injection eq' with t1 eq'
      injection eq' with t2 eq'
      injection eq' with t3 eq'
      injection eq' with t4 eq'
      injection eq' with t5 eq'
      injection eq' with t6 eq'
      injection eq' with t7 eq'
      cases t1
      cases t4
      cases t5
      cases t6
      cases t7
      refine ⟨_, ⟨y, r, hh, cy, bg, upd_same, B'.kx e14q kx, ok⟩, wa, ah, rfl, kx _ _ e14 (L e14), kx _ _ (s14 _ _ e13) (L (s14 _ _ e13))⟩
theorem c__law_with_days {X : Cx} {k : Nat} {t : TA} {e : Expr} {es : List Expr} {np pos : Pos} (T : Tx K mg) (hr : Room k X.A) (ha : PA X (e :: es) t) (hk : 3 ≤ k := by decide) (hK : X.K = K := by rfl) (hm : X.mg = mg := by rfl)
    (hg : Gl X "_law_with_days" := by rfl) (hse : starEach (e :: es) X.env = (false, eval e X.env) :: starEach es X.env := by rfl) (hpl : (backTo pos (starEach es X.env)).any (·.1) = false := by rfl) :
    PE X (.Call (.Name "_law_with_days" np) (e :: es) [] pos) (tFn sp_wd E0 t) := by
  subst hK
  subst hm
  exact pe_fR (ok__law_with_days T) T.kp__law_with_days T.g__law_with_days (hr.mono hk) pass0 ha hg (by decide) hse hpl
end
end Lw

--autob
namespace Lw
open PySem PySem.Spec PyProof.Rows L2 My
section
variable {P : Program} {w : World} {K : Fg} {mg : Str → Option Value} {base : Heap}
def RowI (H5 : Hp) (Lr p l : Addr) (m L j : Nat) (H' : Hp) : Prop := Kx p H5 H' ∧ PenAt H' p l (m + j) ∧ ∃ row : List Nat, H' Lr = some (.lst (row.map natV)) ∧ row.length = j ∧ ∀ x ∈ row, 1 ≤ x ∧ x ≤ L
theorem RowI.push {H5 H' H2 : Hp} {Lr p l : Addr} {m L j x : Nat} (h : RowI H5 Lr p l m L j H') (k : Kx p H' H2) (hp : PenAt H2 p l (m + j + 1)) (nL : H5 Lr = none) (pn : PenAt H5 p l m) (hx : 1 ≤ x ∧ x ≤ L) (hj : j < 1000) :
    ∃ acc, H2 Lr = some (.lst acc) ∧ acc.length < sizeLine ∧ RowI H5 Lr p l m L (j + 1) (upd H2 Lr (.lst (acc ++ [natV x]))) := by
  obtain ⟨k1, p1, row, e, rl, hr⟩ := h
  have nn := pn.new nL
  refine ⟨_, p1.keepL k e, by rw [List.length_map, sizeLine_eq]; omega, kx_new (k1.trans k) nL, hp.set nn.1 nn.2, row ++ [x], by rw [upd_same, List.map_append]; rfl, by rw [List.length_append, rl]; rfl, fun z hz => ?_⟩
  rcases List.mem_append.mp hz with hz | hz
  · exact hr z hz
  · rw [List.mem_singleton.mp hz]
    exact hx
def RowsI (H5 : Hp) (D p l : Addr) (m mon L i : Nat) (H' : Hp) : Prop := Kx p H5 H' ∧ PenAt H' p l (m + 14 * i) ∧ ∃ (ts : List Addr) (rows : List (List Nat)), H' D = some (.lst (ts.map V.ref)) ∧ RowsL H' ts rows ∧ (∀ t ∈ ts, t ≠ D) ∧ rows.length = i ∧ ∀ r ∈ rows, r.length = mon ∧ ∀ x ∈ r, 1 ≤ x ∧ x ≤ L
theorem RowsL.at_ne {H H' : Hp} : ∀ {ts : List Addr} {rows : List (List Nat)}, RowsL H ts rows → (∀ t ∈ ts, H' t = H t) → RowsL H' ts rows
  | _, _, .nil, _ => .nil
  | _, _, .cons h t, e => .cons (by show H' _ = _; rw [e _ (List.mem_cons_self ..)]; exact h) (RowsL.at_ne t fun x hx => e x (List.mem_cons_of_mem _ hx))
theorem RowsL.snoc {H : Hp} {t : Addr} {row : List Nat} (ht : H t = some (.lst (row.map natV))) : ∀ {ts : List Addr} {rows : List (List Nat)}, RowsL H ts rows → RowsL H (ts ++ [t]) (rows ++ [row])
  | _, _, .nil => .cons ht .nil
  | _, _, .cons h r => .cons h (RowsL.snoc ht r)
theorem RowsI.push {H5 H' H2 : Hp} {D Lr p l : Addr} {m mon L i : Nat} (h : RowsI H5 D p l m mon L i H') (nL : H' Lr = none) (r : RowI H' Lr p l (m + 14 * i) L mon H2) (nD : H5 D = none) (pn : PenAt H5 p l m) (m14 : mon ≤ 14) (hi : i < 1000) :
    ∃ acc, H2 D = some (.lst acc) ∧ acc.length < sizeLine ∧ RowsI H5 D p l m mon L (i + 1) (upd H2 D (.lst (acc ++ [.ref Lr]))) := by
  obtain ⟨k1, p1, ts, rows, e, hr, nt, rl, hx⟩ := h
  obtain ⟨k2, p2, row, eL, el, hz⟩ := r
  obtain ⟨kvs, hk⟩ := p1.dict
  have nn := pn.new nD
  have LD : Lr ≠ D := fun z => by
    rw [z, e] at nL
    cases nL
  have hl := hr.len
  refine ⟨_, p1.keepL k2 e, by rw [List.length_map, sizeLine_eq]; omega, kx_new (k1.trans k2) nD, (p2.set nn.1 nn.2).mono (by omega), ts ++ [Lr], rows ++ [row], by rw [upd_same, List.map_append]; rfl, ?_, ?_, by rw [List.length_append, rl]; rfl, ?_⟩
  · refine RowsL.at_ne (H := H2) (RowsL.snoc eL (hr.kx hk k2)) fun t ht => ?_
    rw [upd_ne]
    rcases List.mem_append.mp ht with ht | ht
    · exact nt t ht
    · rw [List.mem_singleton.mp ht]
      exact LD
  · intro t ht
    rcases List.mem_append.mp ht with ht | ht
    · exact nt t ht
    · rw [List.mem_singleton.mp ht]
      exact LD
  · intro z hz2
    rcases List.mem_append.mp hz2 with hz2 | hz2
    · exact hx z hz2
    · rw [List.mem_singleton.mp hz2]
      exact ⟨el, hz⟩
theorem stay_rowsL {p : Addr} {ts : List Addr} {rows : List (List Nat)} : Stay p (fun H => RowsL H ts rows) := fun _ _ _ _ hp k h => by
  obtain ⟨kvs, e⟩ := hp.dict
  exact h.kx e k
theorem stay_prT {p : Addr} {ts : List Addr} {ps : List (Int × Int)} : Stay p (fun H => PrT H ts ps) := fun _ _ _ _ hp k h => by
  obtain ⟨kvs, e⟩ := hp.dict
  exact h.kx e k
theorem PrT.snoc {H : Hp} {t : Addr} {z : Int × Int} (ht : H t = some (.tup [.int z.1, .int z.2])) : ∀ {ts : List Addr} {ps : List (Int × Int)}, PrT H ts ps → PrT H (ts ++ [t]) (ps ++ [z])
  | _, _, .nil => .cons ht .nil
  | _, _, .cons h r => .cons h (PrT.snoc ht r)
/-- the rest days so far -/
def IdI (H5 : Hp) (D p l : Addr) (m i : Nat) (H' : Hp) : Prop := Kx p H5 H' ∧ PenAt H' p l (m + i) ∧ ∃ ds : List Int, H' D = some (.lst (ds.map V.int)) ∧ (∀ x ∈ ds, 0 ≤ x ∧ x < (i : Int)) ∧ ds.Nodup ∧ ds.length ≤ i
theorem IdI.skip {H5 H' H2 : Hp} {D p l : Addr} {m i : Nat} (h : IdI H5 D p l m i H') (k : Kx p H' H2) (hp : PenAt H2 p l (m + i + 1)) : IdI H5 D p l m (i + 1) H2 := by
  obtain ⟨k1, p1, ds, e, hx, nd, hl⟩ := h
  exact ⟨k1.trans k, hp, ds, p1.keepL k e, fun x hd => by have := hx x hd; omega, nd, by omega⟩
theorem IdI.push {H5 H' H2 : Hp} {D p l : Addr} {m i : Nat} (h : IdI H5 D p l m i H') (k : Kx p H' H2) (hp : PenAt H2 p l (m + i + 1)) (nD : H5 D = none) (pn : PenAt H5 p l m) (hi : i < 1000) :
    ∃ acc, H2 D = some (.lst acc) ∧ acc.length < sizeLine ∧ IdI H5 D p l m (i + 1) (upd H2 D (.lst (acc ++ [V.int (0 + (i : Int))]))) := by
  obtain ⟨k1, p1, ds, e, hx, nd, hl⟩ := h
  have nn := pn.new nD
  refine ⟨_, p1.keepL k e, by rw [List.length_map, sizeLine_eq]; omega, kx_new (k1.trans k) nD, hp.set nn.1 nn.2, ds ++ [(i : Int)], by rw [upd_same, List.map_append, Int.zero_add]; rfl, fun x hd => ?_, ?_, by rw [List.length_append, List.length_singleton]; omega⟩
  · rcases List.mem_append.mp hd with hd | hd
    · have := hx x hd
      omega
    · rw [List.mem_singleton.mp hd]
      omega
  · rw [List.nodup_append]
    refine ⟨nd, by simp, fun a ha b hb => ?_⟩
    rw [List.mem_singleton.mp hb]
    have := hx a ha
    omega
def sp_plain : Sp := fun vs H Q _ => ∃ (p l : Addr) (n : Nat), vs = [.ref p] ∧ PenAt H p l n ∧ n + 100 ≤ 1000000000000 ∧
  ∀ (q : Addr) (C : Cal) (H' : Hp), PenAt H' p l (n + 100) → Kx p H H' → q ≠ p → PlainAt H' q C → C.wrkN C.per ≠ [] → C.per ≤ 400 → Q (.ref q) H'
theorem ok__law_plain (T : Tx K mg) : FnR P w K mg base CX0 4 (He.ga K "_law_plain") sp_plain := by
  refine (T.fnR 32 (st := s__law_plain) (at_ := fun K => He.ga K "_law_plain") rfl sc__law_plain (fun _ _ _ _ _ _ us hl => match us, hl with | [_], _ => rfl)) (fun vs H Q E h => ?_) (fun cdv A outer s H vs Q E hr h => ?_)
  · obtain ⟨p, l, n, rfl, _⟩ := h
    rfl
  · obtain ⟨p, l, n, rfl, hp, hn, k⟩ := h
    refine ⟨_, (pss_cons (ps_asg (pe_tup (pa_cons (pe_op op_add pe_int (c__law_draw T hr (pa_cons (pv 0) (pa_cons pe_int pa_nil)))) (pa_cons (pe_op op_add pe_int (c__law_draw T hr (pa_cons (pv 0) (pa_cons pe_int pa_nil)))) pa_nil))) (pgt T (n := 2) rfl (pgs_cons (pg_name (i := 1) sc__law_plain.nd rfl (Or.inl rfl)) (pgs_cons (pg_name (i := 2) sc__law_plain.nd rfl (Or.inr rfl)) pgs_nil))))
 (pss_mid (ps_if (pt_cmpR op_eq (c__law_draw T hr (pa_cons (pv 0) (pa_cons pe_int pa_nil))) pe_int (nomark _))
 (pss_one (ps_asg (pe_tup (pa_cons pe_int (pa_cons (pe_op op_add pe_int (c__law_draw T hr (pa_cons (pv 0) (pa_cons pe_int pa_nil)))) pa_nil))) (pgt T (n := 2) rfl (pgs_cons (pg_name (i := 1) sc__law_plain.nd rfl (Or.inl rfl)) (pgs_cons (pg_name (i := 2) sc__law_plain.nd rfl (Or.inr rfl)) pgs_nil)))))
 pss_nil)
 (pss_cons (ps_asg (pe_tup (pa_cons (c__law_pick T hr (pa_cons (pv 0) (pa_cons (pe_lst (pa_cons pe_int (pa_cons pe_int (pa_cons pe_int (pa_cons pe_int (pa_cons (pe_op op_fdiv pe_int (pe_op op_mul (pv 1) (pv 2))) pa_nil)))))) pa_nil))) (pa_cons (pe_op op_add pe_int (c__law_draw T hr (pa_cons (pv 0) (pa_cons pe_int pa_nil)))) pa_nil))) (pgt T (n := 2) rfl (pgs_cons (pg_name (i := 3) sc__law_plain.nd rfl (Or.inr rfl)) (pgs_cons (pg_name (i := 4) sc__law_plain.nd rfl (Or.inl rfl)) pgs_nil))))
 (pss_cons (ps_setLc (i := 5) (own := [("_law_year", 12)]) rfl sc__law_plain.nd rfl rfl (sw_true rfl rfl rfl (by decide +kernel)) (pi_range1 rfl T.n_range (pa_cons (pv 1) pa_nil)) (blkOk_by (own := [("_law_year", 12)]) (N := N__law_plain) (sc := defScope s__law_plain) (by decide +kernel)) (fun _ _ _ _ _ => (pg_name (i := 12) sc__law_plain.nd rfl (Or.inl rfl))) (fun _ _ _ _ _ => pts_nil) (fun _ _ _ _ _ => (pe_lc (own := [("_law_month", 14)]) rfl sc__law_plain.nd (pi_range1 rfl T.n_range (pa_cons (pv 2) pa_nil)) (blkOk_nest (own := [("_law_month", 14)]) (N := N__law_plain) (by decide +kernel)) (fun _ _ _ _ _ => (pg_name (i := 14) sc__law_plain.nd rfl (Or.inl rfl))) (fun _ _ _ _ _ => pts_nil) (fun _ _ _ _ _ => (pe_op op_add pe_int (c__law_draw T hr (pa_cons (pv 0) (pa_cons (pv 3) pa_nil))))))))
 (pss_cons (ps_asg (pe_tup (pa_cons (c__law_draw T hr (pa_cons (pv 0) (pa_cons pe_int pa_nil))) (pa_cons (pe_lst pa_nil) pa_nil))) (pgt T (n := 2) rfl (pgs_cons (pg_name (i := 6) sc__law_plain.nd rfl (Or.inr rfl)) (pgs_cons (pg_name (i := 7) sc__law_plain.nd rfl (Or.inl rfl)) pgs_nil))))
 (pss_cons (ps_setLc (i := 8) (own := [("_law_day", 13)]) rfl sc__law_plain.nd rfl rfl (sw_true rfl rfl rfl (by decide +kernel)) (pi_range1 rfl T.n_range (pa_cons (pv 4) pa_nil)) (blkOk_by (own := [("_law_day", 13)]) (N := N__law_plain) (sc := defScope s__law_plain) (by decide +kernel)) (fun _ _ _ _ _ => (pg_name (i := 13) sc__law_plain.nd rfl (Or.inl rfl))) (fun _ _ _ _ _ => (pts_one (pt_cmpR op_lt (c__law_draw T hr (pa_cons (pv 0) (pa_cons pe_int pa_nil))) (pv 6) (nomark _)))) (fun _ _ _ _ _ => (pv 13)))
 (pss_cons (ps_for PassesOwn.never rfl (pi_range1 rfl T.n_range (pa_cons (c__law_draw T hr (pa_cons (pv 0) (pa_cons pe_int pa_nil))) pa_nil)) (pg_name (i := 9) sc__law_plain.nd rfl (Or.inl rfl))
 (pss_cons (ps_set (i := 10) sc__law_plain.nd rfl (Or.inl rfl) (pe_tup (pa_cons (pe_op op_add pe_int (c__law_draw T hr (pa_cons (pv 0) (pa_cons (pv 2) pa_nil)))) (pa_cons (pe_callB (call_min2 rfl) (by rfl) T.n_min (by decide +kernel) (pa_cons pe_int (pa_cons (pe_op op_add pe_int (c__law_draw T hr (pa_cons (pv 0) (pa_cons (pe_op op_add (pv 3) pe_int) pa_nil)))) pa_nil))) pa_nil))))
 (pss_one (ps_set (i := 7) sc__law_plain.nd rfl (Or.inl rfl) (pe_op op_cat (pv 7) (pe_op op_rep (pe_lst (pa_cons (pv 10) pa_nil)) (pe_callTy call_int1 (by rfl) T.n_int (by decide +kernel) (pa_cons (pe_cmpR (ninP T hr.units) (pv 10) (pv 7) (by rfl)) pa_nil))))))))
 (pss_cons (ps_set (i := 11) sc__law_plain.nd rfl (Or.inl rfl) (c__law_with_days T hr (pa_cons (pv 5) (pa_cons (pv 4) (pa_cons (c__law_draw T hr (pa_cons (pv 0) (pa_cons (pv 4) pa_nil))) (pa_cons (pv 8) (pa_cons (pv 7) pa_nil)))))))
 (pss_cons (ps_if (pt_cmpR (nei T hr.units) (pe_dget (hu_of hr) (pv 11) pe_str (fun _ _ => rfl)) (pe_lst pa_nil) (nomark _))
 (pss_one (ps_ret (pv 11)))
 pss_nil)
 (pss_one (ps_ret (c__law_with_days T hr (pa_cons (pv 5) (pa_cons (pv 4) (pa_cons (pe_dget (hu_of hr) (pv 11) pe_str (fun _ _ => rfl)) (pa_cons (pe_lst pa_nil) (pa_cons (pe_lst pa_nil) pa_nil))))))))))))))))), ?_⟩
    have B := Bd.begin hp
    rfl'
    rename_i r1 H1 a0 a1 B1 r2 H2 b0 b1 B2 q3 H3 B3
    refine ⟨fun σ H' => ∃ many months : Nat, σ = [some (.ref p), some (natV many), some (natV months), none, none, none, none, none, none, none, none, none, none, none, none] ∧ 1 ≤ many ∧ many ≤ 3 ∧ 1 ≤ months ∧ months ≤ 14 ∧ many * months ≤ 14 ∧ Bd H' p l (n + 4) [fun H1 => Kx p H H1], ?_, ?_⟩
    · rfl'
      rename_i r4 H4 c0 c1 B4
      refine ite2 (fun c => ?_) (fun c => ?_)
      · rfl'
        rename_i r5 H5 d0 d1 B5 q6 H6 B6
        refine ⟨1, 10 + r5.toNat, ?_, by omega, by omega, by omega, by omega, by omega, (B6.last (Fs := [_, _]) (Gs := [_])).mono (by omega)⟩
        show [_, some (V.int 1), some (V.int (10 + r5)), none, none, none, none, none, none, none, none, none, none, none, none] = _
        rw [show natV (10 + r5.toNat) = V.int (10 + r5) from congrArg V.int (by omega)]
        rfl
      · refine ⟨1 + r1.toNat, 1 + r2.toNat, ?_, by omega, by omega, by omega, by omega, ?_, (B4.last (Fs := [_]) (Gs := [_])).mono (by omega)⟩
        · show [_, some (V.int (1 + r1)), some (V.int (1 + r2)), none, none, none, none, none, none, none, none, none, none, none, none] = _
          rw [show natV (1 + r1.toNat) = V.int (1 + r1) from congrArg V.int (by omega), show natV (1 + r2.toNat) = V.int (1 + r2) from congrArg V.int (by omega)]
        · have := Nat.mul_le_mul (show 1 + r1.toNat ≤ 3 by omega) (show 1 + r2.toNat ≤ 4 by omega)
          omega
    clear B1 B2 B3 B
    rintro σ H4 ⟨many, months, rfl, m0, m1, n0, n1, mn, B⟩
    have mn0 : 1 ≤ many * months := Nat.mul_pos m0 n0
    have mnI : (many : Int) * (months : Int) = ((many * months : Nat) : Int) := (Int.natCast_mul _ _).symm
    rfl'
    rename_i q5 H5 B5 v j H6 hv B6
    obtain ⟨L, rfl, L0, L1, L2⟩ : ∃ L : Nat, v = natV L ∧ 1 ≤ L ∧ L ≤ 40 ∧ (L ≤ 5 ∨ L * (many * months) ≤ 40) := by
      match j, hv with
      | 0, hv => exact ⟨1, (Option.some.inj hv).symm, by omega, by omega, .inl (by omega)⟩
      | 1, hv => exact ⟨2, (Option.some.inj hv).symm, by omega, by omega, .inl (by omega)⟩
      | 2, hv => exact ⟨3, (Option.some.inj hv).symm, by omega, by omega, .inl (by omega)⟩
      | 3, hv => exact ⟨5, (Option.some.inj hv).symm, by omega, by omega, .inl (by omega)⟩
      | 4, hv =>
        refine ⟨40 / (many * months), ?_, ?_, Nat.div_le_self _ _, .inr (Nat.div_mul_le_self _ _)⟩
        · rw [← Option.some.inj hv]
          show V.int ((40 : Int) / ((many : Int) * (months : Int))) = V.int ((40 / (many * months) : Nat) : Int)
          rw [mnI, Int.natCast_ediv]
          rfl
        · exact (Nat.le_div_iff_mul_le (by omega)).mpr (by omega)
      | j + 5, hv => simp at hv
    rfl'
    rename_i r7 H7 c0 c1 B7 q8 H8 B8
    replace B8 := B8.last (Fs := [_, _]) (Gs := [_])
    clear B7 B6 B5 B hv
    intro D hD
    refine walk_w walk_range (RowsI H8 D p l (n + 6) months L) ?_ (fun _ _ _ _ => trivial) ?_ ?_
    · have nn := B8.pen.new hD
      exact ⟨kx_same (same_upd hD), B8.pen.same (same_upd hD), [], [], upd_same, .nil, (fun t ht => by cases ht), rfl, (fun r hr => by cases hr)⟩
    · rintro i x _ H9 hi I9 ⟨rfl, rfl⟩
      rw [Int.toNat_natCast] at hi
      have pn9 := I9.2.1
      rfl'
      intro Lr hLr
      refine walk_w walk_range (RowI H9 Lr p l (n + 6 + 14 * i) L) ⟨kx_same (same_upd hLr), pn9.same (same_upd hLr), [], upd_same, rfl, (fun r hr => by cases hr)⟩ (fun _ _ _ _ => trivial) ?_ ?_
      · rintro j x _ H10 hj I10 ⟨rfl, rfl⟩
        rw [Int.toNat_natCast] at hj
        have B10 := (Bd.start I10.2.1).add stay_kx (Kx.refl H10)
        rfl'
        rename_i ra Ha ra0 ra1 Ba
        have := I10.push (x := 1 + ra.toNat) (Ba.at_ 0) Ba.pen hLr pn9 ⟨by omega, by omega⟩ (by omega)
        rw [show natV (1 + ra.toNat) = V.int (1 + ra) from congrArg V.int (by omega)] at this
        exact this
      · rintro H10 I10
        rw [Int.toNat_natCast] at I10
        exact I9.push hLr I10 hD B8.pen n1 (by omega)
    rintro H9 I9
    rw [Int.toNat_natCast] at I9
    obtain ⟨k9, p9, ts, rows, e9, hrw, hne, rl, hrs⟩ := I9
    replace B8 := (((B8.drawn k9 p9).mono (show n + 6 + 14 * many ≤ n + 48 by omega)).add stay_rowsL hrw).addL e9
    obtain ⟨size, hsz⟩ : ∃ size : Nat, natV size = V.int (1 + r7) := ⟨1 + r7.toNat, congrArg V.int (by omega)⟩
    have hs := V.int.inj hsz
    clear k9 p9 hrw e9
    rfl'
    rename_i ra Ha a0 a1 Ba fr Hb Bb tp Hc Bc
    have hfr := Bc.ob 1 rfl
    replace Bc := Bc.last (Fs := [_, _]) (Gs := [_, _, _])
    clear Ba Bb
    intro Di hDi
    refine walk_w walk_range (IdI Hc Di p l (n + 49)) ⟨kx_same (same_upd hDi), Bc.pen.same (same_upd hDi), [], upd_same, by simp, by simp, by simp⟩ (fun _ _ _ _ => trivial) ?_ ?_
    · rintro i x _ H10 hi I10 ⟨rfl, rfl⟩
      have B10 := (Bd.start I10.2.1).add stay_kx (Kx.refl H10)
      rfl'
      rename_i rb Hb b0 b1 Bb
      refine ite2 (fun c => ?_) (fun c => ?_)
      · refine ⟨_, rfl, ?_⟩
        exact I10.push (Bb.at_ 0) Bb.pen hDi Bc.pen (by omega)
      · exact I10.skip (Bb.at_ 0) Bb.pen
    rintro H10 ⟨k10, p10, ds, e10, hds, nds, lds⟩
    replace Bc := ((Bc.addL hfr).drawn k10 p10).addL e10
    replace Bc := Bc.mono (show n + 49 + (1 + r7).toNat ≤ n + 60 by omega)
    clear k10 p10 e10 hfr
    rfl'
    rename_i rc Hd c0 c1 Bd1
    refine for_range (n := rc.toNat) (fun i σ H' => ∃ (fr : Addr) (v9 v10 : Option V) (us : List Addr) (ps : List (Int × Int)), σ = [some (.ref p), some (natV many), some (natV months), some (natV L), some (V.int (1 + r7)), some (.ref D), some (.int ra), some (.ref fr), some (.ref Di), v9, v10, none, none, none, none] ∧
      Bd H' p l (n + 61 + 2 * i) [fun H => PrT H us ps, fun H => H fr = some (.lst (us.map V.ref)), fun H => H Di = some (.lst (ds.map V.int)), fun H => H D = some (.lst (ts.map V.ref)), fun H => RowsL H ts rows, fun H1 => Kx p H H1] ∧ (∀ z ∈ ps, 1 ≤ z.1 ∧ z.1 ≤ (months : Int) ∧ 1 ≤ z.2 ∧ z.2 ≤ 40) ∧ ps.Nodup ∧ ps.length ≤ i) ⟨fr, none, none, [], [], rfl, ?_, by simp, by simp, by simp⟩ ?_ ?_
    · refine ⟨Bd1.pen, fun F hF => ?_⟩
      rcases List.mem_cons.mp hF with rfl | hF
      · exact ⟨stay_prT, .nil⟩
      · simp only [List.mem_cons, List.not_mem_nil, or_false] at hF
        rcases hF with rfl | rfl | rfl | rfl | rfl
        · exact ⟨stay_lst, Bd1.ob 1 rfl⟩
        · exact ⟨stay_lst, Bd1.ob 0 rfl⟩
        · exact ⟨stay_lst, Bd1.ob 2 rfl⟩
        · exact ⟨stay_rowsL, Bd1.at_ 3⟩
        · exact ⟨stay_kx, Bd1.at_ 4⟩
    · rintro i σ H11 hi ⟨fr, v9, v10, us, ps, rfl, B11, hps, nps, lps⟩
      generalize hR : My.rInP K true = R
      rfl'
      subst hR
      rename_i rd He d0 d1 Be re Hf f0 f1 Bf tq Hg Bg lq Hh Bh
      obtain ⟨z, hz1, hz2⟩ : ∃ z : Int × Int, z.1 = 1 + rd ∧ z.2 = (if 1 + re < 40 then 1 + re else 40) := ⟨(_, _), rfl, rfl⟩
      have ht : Hh tq = some (.tup [V.int z.1, V.int z.2]) := by
        rw [hz1, hz2]
        exact Bh.ob 1 rfl
      have z1 : 1 ≤ z.1 ∧ z.1 ≤ (months : Int) ∧ 1 ≤ z.2 ∧ z.2 ≤ 40 := by
        rw [hz1, hz2]
        split <;> omega
      have pr : PrT Hh us ps := Bh.at_ 2
      have hlq : Hh lq = some (.lst [V.ref tq]) := Bh.ob 0 rfl
      have hfr : Hh fr = some (.lst (us.map V.ref)) := Bh.ob 3 rfl
      have ul : us.length = ps.length := Paired.length pr
      replace Bh := Bh.mono (show n + 61 + 2 * i + 1 + 1 ≤ n + 61 + 2 * (i + 1) by omega)
      refine ⟨tq, fr, z, us, ps, rfl, rfl, SqT.of ht, .inl (SqL.of hfr), pr.prs, ?_⟩
      rw [if_pos rfl]
      by_cases hz : z ∈ ps
      · rw [decide_eq_true hz]
        refine .inr ⟨_, rfl, ?_⟩
        rfl'
        rename_i q1 Hi Bi q2 Hj Bj
        have hq2 : Hj q2 = some (.lst (us.map V.ref)) := (Bj.ob 0 rfl).trans (by
          show some (HO.lst (us.map V.ref ++ [])) = _
          rw [List.append_nil])
        exact ⟨((Bj.last (Fs := [_, _, _, _, _, _]) (Gs := [_, _, _, _])).addL hq2).add stay_prT (Bj.at_ 4), hps, nps, by omega⟩
      · rw [decide_eq_false hz]
        refine .inr ⟨_, rfl, ?_⟩
        rfl'
        rename_i q1 Hi Bi q2 Hj Bj
        have hq2 : Hj q2 = some (.lst ((us ++ [tq]).map V.ref)) := (Bj.ob 0 rfl).trans (by
          rw [List.map_append]
          rfl)
        have htq : Hj tq = some (.tup [V.int z.1, V.int z.2]) := by
          rw [hz1, hz2]
          exact Bj.ob 3 rfl
        refine ⟨((Bj.last (Fs := [_, _, _, _, _, _]) (Gs := [_, _, _, _])).addL hq2).add stay_prT (PrT.snoc htq (Bj.at_ 4)), fun y hy => ?_, ?_, by rw [List.length_append, List.length_singleton]; omega⟩
        · rcases List.mem_append.mp hy with hy | hy
          · exact hps y hy
          · rw [List.mem_singleton.mp hy]
            exact z1
        · rw [List.nodup_append]
          refine ⟨nps, by simp, fun a ha b hb e => ?_⟩
          rw [List.mem_singleton.mp hb] at e
          exact hz (e ▸ ha)
    rintro σ H11 ⟨fr, v9, v10, us, ps, rfl, B11, hps, nps, lps⟩
    clear Bd1 Bc
    rfl'
    rename_i fi Hk f0 f1 Bk
    have w1 : (1 : Int) ≤ (size : Int) ∧ (size : Int) ≤ 5 := by omega
    have ls1 : rows.flatten.length = many * months := (flat_len fun r hr => (hrs r hr).1).trans (by rw [rl])
    have g0 : (rows.getD 0 []).length = months := by
      cases rows with
      | nil => simp at rl; omega
      | cons r rs => exact (hrs r (List.mem_cons_self ..)).1
    have yo : YrOk rows := ⟨by omega, by omega, by omega, by omega, fun r hr => by rw [g0]; exact (hrs r hr).1, fun r hr x hx => by have := (hrs r hr).2 x hx; omega⟩
    have sl : rows.flatten.sum ≤ 70 := by
      have := sum_le (ls := rows.flatten) (B := L) fun x hx => by
        obtain ⟨r, hr, hx⟩ := List.mem_flatten.mp hx
        exact ((hrs r hr).2 x hx).2
      rw [ls1] at this
      rcases L2 with c | c
      · have := Nat.mul_le_mul mn c
        omega
      · rw [Nat.mul_comm] at c
        omega
    have s0 : 0 < rows.flatten.sum := sum_pos (by omega) fun x hx => by
      obtain ⟨r, hr, hx⟩ := List.mem_flatten.mp hx
      exact ((hrs r hr).2 x hx).1
    have per : Nat.lcm rows.flatten.sum size ≤ 350 := by
      have h1 : Nat.lcm rows.flatten.sum size ∣ rows.flatten.sum * size := Nat.lcm_dvd (Nat.dvd_mul_right _ _) (Nat.dvd_mul_left _ _)
      have h2 := Nat.le_of_dvd (Nat.mul_pos s0 (by omega)) h1
      have h3 := Nat.mul_le_mul sl (show size ≤ 5 by omega)
      omega
    have ok : ∀ (R : List Int) (F : List (Int × Int)), (∀ x ∈ R, 0 ≤ x ∧ x < (size : Int)) → R.Nodup → R.length < 64 → (∀ p ∈ F, 1 ≤ p.1 ∧ p.1 ≤ (months : Int) ∧ 1 ≤ p.2 ∧ p.2 ≤ 40) → F.Nodup → F.length < 64 → Cal.Ok ⟨rows, size, fi.toNat, R, F⟩ := fun R F h1 h2 h3 h4 h5 h6 =>
      ⟨yo, by show 0 < size; omega, by show size ≤ 10; omega, by show fi.toNat < size; omega, h1, h2, h3, fun p hp => by have := h4 p hp; show 1 ≤ p.1 ∧ p.1 ≤ ((rows.getD 0 []).length : Int) ∧ _; rw [g0]; exact this, h5, h6, Nat.le_trans per (by decide)⟩
    rw [show V.int fi = natV fi.toNat from congrArg V.int (by omega), ← hsz]
    have okc : Cal.Ok ⟨rows, size, fi.toNat, ds, ps⟩ := ok ds ps (fun x hx => by have := hds x hx; omega) nds (by omega) hps nps (by omega)
    refine ⟨D, Di, fr, ts, us, ⟨rows, size, fi.toNat, ds, ps⟩, rfl, Bk.ob 3 rfl, Bk.at_ 4, Bk.ob 2 rfl, Bk.ob 1 rfl, Bk.at_ 0, okc, fun q Hl sl2 nq pl => ?_⟩
    have qp := (Bk.pen.new nq).1
    have kxl : Kx p H Hl := (Bk.at_ 5 : Kx p H Hk).trans (kx_same sl2)
    have penl := (Bk.pen.same sl2).mono (show n + 61 + 2 * rc.toNat + 1 ≤ n + 100 by omega)
    have pl0 := pl
    obtain ⟨ws, ⟨y', r', h', d', b', eq, B', okp⟩, f, g, rfl, hf, hg⟩ := pl
    have vw : valV (plD y' r' h' d' b' ⟨rows, size, fi.toNat, ds, ps⟩ (Cal.ls ⟨rows, size, fi.toNat, ds, ps⟩).sum (Cal.per ⟨rows, size, fi.toNat, ds, ps⟩) ++ [(.inr "works", .ref f), (.inr "ahead", .ref g)]) (.inr "works") = some (.ref f) := rfl
    have vf : valV (plD y' r' h' d' b' ⟨rows, size, fi.toNat, ds, ps⟩ (Cal.ls ⟨rows, size, fi.toNat, ds, ps⟩).sum (Cal.per ⟨rows, size, fi.toNat, ds, ps⟩) ++ [(.inr "works", .ref f), (.inr "ahead", .ref g)]) (.inr "first") = some (natV fi.toNat) := rfl
    refine ⟨_, rfl, q, _, rfl, dg_of eq vw, ?_⟩
    refine ⟨by show 0 ≤ sizeLine; decide, fun e he => ?_⟩
    have se := same_upd (o := .lst ([] : List V)) he
    have ew : (Cal.wrkN ⟨rows, size, fi.toNat, ds, ps⟩ (Cal.per ⟨rows, size, fi.toNat, ds, ps⟩)).map natV = ((Cal.wrkN ⟨rows, size, fi.toNat, ds, ps⟩ (Cal.per ⟨rows, size, fi.toNat, ds, ps⟩)).map fun n : Nat => (n : Int)).map V.int := by
      rw [List.map_map]
      rfl
    refine ⟨f, e, _, [], rfl, rfl, .inl ⟨SqL.of (by rw [← ew]; exact se _ _ hf), SqL.of upd_same⟩, _, rfl, ?_⟩
    refine ite2 (fun c => ?_) (fun c => ?_)
    · refine ⟨_, rfl, ?_⟩
      refine k q _ _ (penl.same se) (kxl.trans (kx_same se)) qp (pl0.same se) (fun z => ?_) (Nat.le_trans per (by decide))
      rw [z] at c
      revert c
      decide
    have sle := sl2.trans se
    have eqe := se _ _ eq
    generalize upd Hl e (.lst ([] : List V)) = Hm at se sle eqe
    have Bm := Bk.same sle
    have oke : Cal.Ok ⟨rows, size, fi.toNat, [], []⟩ := ok [] [] (by simp) (by simp) (by simp) (by simp) (by simp) (by simp)
    refine ⟨_, rfl, _, rfl, _, rfl, q, _, rfl, dg_of eqe vf, ?_⟩
    refine ⟨by show 0 ≤ sizeLine; decide, fun a1 h1 => ?_⟩
    have t1 := same_upd (o := .lst ([] : List V)) h1
    have x1 : upd Hm a1 (.lst ([] : List V)) a1 = some (.lst ([] : List V)) := upd_same
    generalize upd Hm a1 (.lst ([] : List V)) = Hn at t1 x1
    refine ⟨by show 0 ≤ sizeLine; decide, fun a2 h2 => ?_⟩
    have t2 := same_upd (o := .lst ([] : List V)) h2
    have x2 : upd Hn a2 (.lst ([] : List V)) a2 = some (.lst ([] : List V)) := upd_same
    have x1' := t2 _ _ x1
    generalize upd Hn a2 (.lst ([] : List V)) = Ho at t2 x2 x1'
    have Bo := Bm.same (t1.trans t2)
    refine ⟨D, a1, a2, ts, [], ⟨rows, size, fi.toNat, [], []⟩, rfl, Bo.ob 3 rfl, Bo.at_ 4, x1', x2, .nil, oke, fun q2 Hp2 sp2 nq2 pl2 => ?_⟩
    have skk := (sle.trans (t1.trans t2)).trans sp2
    have p0 := oke.p0
    refine k q2 _ _ ((Bk.pen.same skk).mono (by omega)) ((Bk.at_ 5 : Kx p H Hk).trans (kx_same skk)) (Bo.pen.new nq2).1 pl2 (fun z => ?_) (Nat.le_trans per (by decide))
    have : (0 : Nat) ∈ Cal.wrkN ⟨rows, size, fi.toNat, [], []⟩ (Cal.per ⟨rows, size, fi.toNat, [], []⟩) := Cal.mem_wrkN.mpr ⟨p0, by unfold Cal.isW; simp⟩
    rw [z] at this
    cases this
theorem c__law_plain {X : Cx} {k : Nat} {t : TA} {e : Expr} {es : List Expr} {np pos : Pos} (T : Tx K mg) (hr : Room k X.A) (ha : PA X (e :: es) t) (hk : 4 ≤ k := by decide) (hK : X.K = K := by rfl) (hm : X.mg = mg := by rfl)
    (hg : Gl X "_law_plain" := by rfl) (hse : starEach (e :: es) X.env = (false, eval e X.env) :: starEach es X.env := by rfl) (hpl : (backTo pos (starEach es X.env)).any (·.1) = false := by rfl) :
    PE X (.Call (.Name "_law_plain" np) (e :: es) [] pos) (tFn sp_plain E0 t) := by
  subst hK
  subst hm
  exact pe_fR (ok__law_plain T) T.kp__law_plain T.g__law_plain (hr.mono hk) pass0 ha hg (by decide) hse hpl
end
end Lw

--autob
namespace Lw
open PySem PySem.Spec PyProof.Rows L2 My
section
variable {P : Program} {w : World} {K : Fg} {mg : Str → Option Value} {base : Heap}
/-! ### what a calendar shows -/
def rowsD (rows : List (List Nat)) : List PyData := rows.map fun r => .tuple (r.map fun l : Nat => .int (l : Int))
theorem natV_int (r : List Nat) : r.map natV = (r.map fun l : Nat => (l : Int)).map V.int := by
  rw [List.map_map]
  rfl
theorem shws_rows {H : Hp} : ∀ {ts : List Addr} {rows : List (List Nat)}, RowsT H ts rows → Shws K H (ts.map V.ref) (rowsD rows)
  | _, _, .nil => .nil
  | _, _, .cons (b := r) h t => .cons (.tup (SqT.of (xs := (r.map fun l : Nat => (l : Int)).map V.int) (by rw [← natV_int]; exact h)) (by
      have := shws_ints (K := K) (H := H) (r.map fun l : Nat => (l : Int))
      rw [List.map_map (f := fun l : Nat => (l : Int)) (g := PyData.int)] at this
      exact this)) (shws_rows t)
theorem shws_prs {H : Hp} : ∀ {ts : List Addr} {ps : List (Int × Int)}, PrT H ts ps → Shws K H (ts.map V.ref) (ps.map prP)
  | _, _, .nil => .nil
  | _, _, .cons h t => .cons (.tup (SqT.of h) (.cons (.int _) (.cons (.int _) .nil))) (shws_prs t)
theorem fits_rows : ∀ rows : List (List Nat), (∀ r ∈ rows, ∀ l ∈ r, l ≤ 10 ^ 6) → ∃ k, k ≤ 63 * (rows.map List.length).sum + 5 * rows.length ∧ Fits 60 (rowsD rows) k 1
  | [], _ => ⟨0, Nat.zero_le _, .nil⟩
  | r :: rows, h => by
    obtain ⟨k, hk, f⟩ := fits_rows rows fun v hv => h v (List.mem_cons_of_mem _ hv)
    have hr : ∀ v ∈ r.map fun l : Nat => (l : Int), v.natAbs < 10 ^ 60 := fun v hv => by
      obtain ⟨l, hl, rfl⟩ := List.mem_map.mp hv
      rw [Int.natAbs_natCast]
      exact Nat.lt_of_le_of_lt (h r List.mem_cons_self l hl) (by decide)
    have f1 := fits_ints (m := 0) (r.map fun l : Nat => (l : Int)) hr
    rw [List.map_map (f := fun l : Nat => (l : Int)) (g := PyData.int)] at f1
    refine ⟨_, ?_, .cons (.tup (m := 0) f1) (by decide) f⟩
    rw [List.map_cons, List.sum_cons, List.length_cons, List.length_map]
    omega
theorem fits_prs : ∀ ps : List (Int × Int), (∀ p ∈ ps, p.1.natAbs < 10 ^ 60 ∧ p.2.natAbs < 10 ^ 60) → ∃ k, k ≤ 200 * ps.length ∧ Fits 60 (ps.map prP) k 1
  | [], _ => ⟨0, Nat.zero_le _, .nil⟩
  | p :: ps, h => by
    obtain ⟨k, hk, f⟩ := fits_prs ps fun v hv => h v (List.mem_cons_of_mem _ hv)
    obtain ⟨h1, h2⟩ := h p List.mem_cons_self
    refine ⟨_, ?_, .cons (.tup (m := 0) (.cons (.int h1) (Nat.le_refl _) (.cons (.int h2) (Nat.le_refl _) .nil))) (by decide) f⟩
    rw [List.length_cons]
    omega
theorem sorted_uniq {l1 l2 : List Int} (p : l1.Perm l2) (h1 : l1.Pairwise (· ≤ ·)) (h2 : l2.Pairwise (· ≤ ·)) : l1 = l2 := List.Perm.eq_of_pairwise (fun _ _ _ _ h h' => Int.le_antisymm h h') h1 h2 p
theorem sorted_prs {l1 l2 : List (Int × Int)} (p : l1.Perm l2) (hb : ∀ z ∈ l2, 0 ≤ z.2 ∧ z.2 < 64) (h1 : l1.Pairwise fun a b => a.1 * 64 + a.2 ≤ b.1 * 64 + b.2) (h2 : l2.Pairwise fun a b => a.1 * 64 + a.2 ≤ b.1 * 64 + b.2) : l1 = l2 :=
  List.Perm.eq_of_pairwise (fun a b ha hb' h h' => by
    have ha2 := hb a (p.mem_iff.mp ha)
    have hb2 := hb b hb'
    exact Prod.ext (by omega) (by omega)) h1 h2 p
def calD (C : Cal) : PyData := .list [.tuple (rowsD C.rows), .int (C.week : Int), .int (C.first : Int), .tuple (C.rest.map .int), .tuple (C.hol.map prP), .int (C.mon : Int), .int (C.ls.sum : Int), .int (C.per : Int)]
theorem nat60 {n : Nat} (h : n ≤ 10 ^ 6) : ((n : Nat) : Int).natAbs < 10 ^ 60 := by
  rw [Int.natAbs_natCast]
  exact Nat.lt_of_le_of_lt h (by decide)
theorem show_cal {H : Hp} {a ay rr fr : Addr} {ts hs : List Addr} {C : Cal} {Q : VK} (ok : C.Ok) (hA : SqL K H a [.ref ay, .int (C.week : Int), .int (C.first : Int), .ref rr, .ref fr, .int (C.mon : Int), .int (C.ls.sum : Int), .int (C.per : Int)])
    (h1 : H ay = some (.tup (ts.map V.ref))) (h2 : RowsT H ts C.rows) (h3 : H rr = some (.tup (C.rest.map V.int))) (h4 : H fr = some (.tup (hs.map V.ref))) (h5 : PrT H hs C.hol) (q : Q (.str (calD C).shown) H) : rShow K [.ref a] H Q := by
  have e1 := ok.yr.le
  have e2 := ok.w1
  have e3 := ok.f
  have e4 := ok.m1
  have e5 := ok.s1
  have e6 := ok.per
  have e7 := ok.rl
  have e8 := ok.hl
  have sm : (C.rows.map List.length).sum ≤ 5600 := by
    rw [← List.length_flatten]
    exact ok.le
  obtain ⟨k1, b1, f1⟩ := fits_rows C.rows fun r hr l hl => by have := (ok.yr.ds r hr l hl).2; omega
  have rb : ∀ v ∈ C.rest, v.natAbs < 10 ^ 60 := fun v hv => by
    have := ok.rest v hv
    have : v.natAbs ≤ 10 := by omega
    exact Nat.lt_of_le_of_lt this (by decide)
  obtain ⟨k2, b2, f2⟩ := fits_prs C.hol fun p hp => by
    obtain ⟨x1, x2, x3, x4⟩ := ok.hol p hp
    have y1 : p.1.natAbs ≤ 14 := by omega
    have y2 : p.2.natAbs ≤ 40 := by omega
    exact ⟨Nat.lt_of_le_of_lt y1 (by decide), Nat.lt_of_le_of_lt y2 (by decide)⟩
  have f3 := fits_ints (m := 0) C.rest rb
  refine show_any (.lst hA (.cons (.tup (SqT.of h1) (shws_rows h2)) (.cons (.int _) (.cons (.int _) (.cons (.tup (SqT.of h3) (shws_ints _)) (.cons (.tup (SqT.of h4) (shws_prs h5)) (.cons (.int _) (.cons (.int _) (.cons (.int _) .nil)))))))))
    (.lst (m := 2) (.cons (.tup f1) (Nat.le_refl _) (.cons (.int (nat60 (by omega))) (by decide) (.cons (.int (nat60 (by omega))) (by decide) (.cons (.tup f3) (by decide) (.cons (.tup f2) (Nat.le_refl _) (.cons (.int (nat60 (by omega))) (by decide) (.cons (.int (nat60 (by omega))) (by decide) (.cons (.int (nat60 (by omega))) (by decide) .nil))))))))) (by decide) ?_ (by decide) q
  omega
def sp_shown (K : Fg) : Sp := fun vs H Q _ => ∃ (c : Addr) (C : Cal), vs = [.ref c] ∧ CalX K H c C ∧ ∀ H' : Hp, Same H H' → Q (.str (calD C).shown) H'
theorem ok__law_shown (T : Tx K mg) : FnG P w K mg base 3 (He.ga K "_law_shown") (sp_shown K) := by
  refine (T.fnG 37 (st := s__law_shown) (at_ := fun K => He.ga K "_law_shown") rfl sc__law_shown (fun _ _ _ _ _ _ us hl => match us, hl with | [_], _ => rfl)) (fun vs H Q E h => ?_) (fun cdv A outer s H vs Q E hG hr h => ?_)
  · obtain ⟨c, C, rfl, _⟩ := h
    rfl
  · obtain ⟨c, C, rfl, hX, k⟩ := h
    refine ⟨_, (pss_cons (ps_set (i := 1) sc__law_shown.nd rfl (Or.inl rfl) (pe_lst (pa_cons (pC_years T hr (pv 0)) (pa_cons (pC_week T hr (pv 0)) (pa_cons (pC_first T hr (pv 0)) (pa_cons (pC_rest T hr (pv 0)) (pa_cons (pC_holidays T hr (pv 0)) pa_nil)))))))
 (pss_one (ps_ret (pe_callB (show_k T hG hr) (by rfl) T.n_repr (by decide +kernel) (pa_cons (pe_op op_cat (pv 1) (pe_lst (pa_cons (pC_months T hr (pv 0)) (pa_cons (pC_cycle_days T hr (pv 0)) (pa_cons (pC_period T hr (pv 0)) pa_nil))))) pa_nil))))), ?_⟩
    obtain ⟨ws, hw, dx, ay0, rr0, fr0, l, st, hc, B, ok⟩ := id hX
    have k1 : (b8 ay0 rr0 fr0 l st C ++ ws).lookup ("years" : Str) = none := b8_none hw
    have k2 : (b8 ay0 rr0 fr0 l st C ++ ws).lookup ("week" : Str) = none := b8_none hw
    have k3 : (b8 ay0 rr0 fr0 l st C ++ ws).lookup ("first" : Str) = none := b8_none hw
    have k4 : (b8 ay0 rr0 fr0 l st C ++ ws).lookup ("rest" : Str) = none := b8_none hw
    have k5 : (b8 ay0 rr0 fr0 l st C ++ ws).lookup ("holidays" : Str) = none := b8_none hw
    have k6 : (b8 ay0 rr0 fr0 l st C ++ ws).lookup ("months" : Str) = none := b8_none hw
    have k7 : (b8 ay0 rr0 fr0 l st C ++ ws).lookup ("cycle_days" : Str) = none := b8_none hw
    have k8 : (b8 ay0 rr0 fr0 l st C ++ ws).lookup ("period" : Str) = none := b8_none hw
    rfl'
    intro ay ts a1 a2
    rfl'
    intro rr a3
    rfl'
    intro fr hs a4 a5
    rfl'
    rename_i La nLa H1 s1 f1
    have hc1 := s1 _ _ hc
    have hX1 := hX.same s1
    rfl'
    rename_i Lb nLb H2 s2 f2 Lc nLc H3 s3 f3
    have sz := (s1.trans s2).trans s3
    exact show_cal ok (SqL.of f3) (sz _ _ a1) (a2.same sz) (sz _ _ a3) (sz _ _ a4) (a5.same sz) (k _ sz)
theorem c__law_shown {X : Cx} {k : Nat} {t : TA} {e : Expr} {es : List Expr} {np pos : Pos} (T : Tx K mg) (hG : X.A.guards = some []) (hr : Room k X.A) (ha : PA X (e :: es) t) (hk : 3 ≤ k := by decide) (hK : X.K = K := by rfl) (hm : X.mg = mg := by rfl)
    (hg : Gl X "_law_shown" := by rfl) (hse : starEach (e :: es) X.env = (false, eval e X.env) :: starEach es X.env := by rfl) (hpl : (backTo pos (starEach es X.env)).any (·.1) = false := by rfl) :
    PE X (.Call (.Name "_law_shown" np) (e :: es) [] pos) (tFn (sp_shown K) E0 t) := by
  subst hK
  subst hm
  exact pe_fG (ok__law_shown T) hG T.kp__law_shown T.g__law_shown (hr.mono hk) pass0 ha hg (by decide) hse hpl
end
end Lw

--autob
namespace Lw
open PySem PySem.Spec PyProof.Rows L2 My
section
variable {P : Program} {w : World} {K : Fg} {mg : Str → Option Value} {base : Heap}
def sp_due (K : Fg) : Sp := fun vs H Q _ => ∃ (q : Addr) (C : Cal), vs = [.ref q] ∧ PlainAt H q C ∧ ∀ (rs : List Int) (ps : List (Int × Int)) (H' : Hp), Same H H' → rs.Perm C.rest → rs.Pairwise (· ≤ ·) → ps.Perm C.hol → ps.Pairwise (fun a b => a.1 * 64 + a.2 ≤ b.1 * 64 + b.2) → Q (.str (calD (C.re rs ps)).shown) H'
theorem ok__law_due (T : Tx K mg) : FnG P w K mg base 3 (He.ga K "_law_due") (sp_due K) := by
  refine (T.fnG 38 (st := s__law_due) (at_ := fun K => He.ga K "_law_due") rfl sc__law_due (fun _ _ _ _ _ _ us hl => match us, hl with | [_], _ => rfl)) (fun vs H Q E h => ?_) (fun cdv A outer s H vs Q E hG hr h => ?_)
  · obtain ⟨q, C, rfl, _⟩ := h
    rfl
  · obtain ⟨q, C, rfl, ⟨ws, ⟨y, r, hh, dd, b, e, B, ok⟩, _⟩, k⟩ := h
    obtain ⟨v1, v2, v3, v4, v5, v6, v7, v8, v9⟩ := plv (ws := ws) (C := C) (y := y) (r := r) (h := hh) (d := dd) (b := b) (cyc := C.ls.sum) (per := C.per)
    refine ⟨_, (pss_cons (ps_set (i := 1) sc__law_due.nd rfl (Or.inl rfl) (pe_callTy (tup_k T) (by rfl) T.n_tuple (by decide +kernel) (pa_cons (pe_lc (own := [("_law_row", 3)]) rfl sc__law_due.nd (pil T (pe_dget (hu_of hr) (pv 0) pe_str (fun _ _ => rfl))) (blkOk_by (own := [("_law_row", 3)]) (N := N__law_due) (sc := defScope s__law_due) (by decide +kernel)) (fun _ _ _ _ _ => (pg_name (i := 3) sc__law_due.nd rfl (Or.inl rfl))) (fun _ _ _ _ _ => pts_nil) (fun _ _ _ _ _ => (pe_callTy (tup_k T) (by rfl) T.n_tuple (by decide +kernel) (pa_cons (pv 3) pa_nil)))) pa_nil)))
 (pss_cons (ps_set (i := 2) sc__law_due.nd rfl (Or.inl rfl) (pe_lst (pa_cons (pv 1) (pa_cons (pe_dget (hu_of hr) (pv 0) pe_str (fun _ _ => rfl)) (pa_cons (pe_dget (hu_of hr) (pv 0) pe_str (fun _ _ => rfl)) (pa_cons (pe_callTy (tup_k T) (by rfl) T.n_tuple (by decide +kernel) (pa_cons (pe_callB (srtQ_k T) (by rfl) T.n_sorted (by decide +kernel) (pa_cons (pe_dget (hu_of hr) (pv 0) pe_str (fun _ _ => rfl)) pa_nil)) pa_nil)) (pa_cons (pe_callTy (tup_k T) (by rfl) T.n_tuple (by decide +kernel) (pa_cons (pe_callB (srtPQ_k T) (by rfl) T.n_sorted (by decide +kernel) (pa_cons (pe_dget (hu_of hr) (pv 0) pe_str (fun _ _ => rfl)) pa_nil)) pa_nil)) pa_nil)))))))
 (pss_one (ps_ret (pe_callB (show_k T hG hr) (by rfl) T.n_repr (by decide +kernel) (pa_cons (pe_op op_cat (pv 2) (pe_lst (pa_cons (pe_dget (hu_of hr) (pv 0) pe_str (fun _ _ => rfl)) (pa_cons (pe_dget (hu_of hr) (pv 0) pe_str (fun _ _ => rfl)) (pa_cons (pe_dget (hu_of hr) (pv 0) pe_str (fun _ _ => rfl)) pa_nil))))) pa_nil)))))), ?_⟩
    obtain ⟨ys, y1, y2⟩ := B.yr
    obtain ⟨hs, h1, h2⟩ := B.hol
    have yl := y2.len
    have yo := ok.yr.le
    rfl'
    refine ⟨dg_of e v1, ?_⟩
    rfl'
    intro D hD
    refine walk_w walk_list (fun i H' => Same H H' ∧ ∃ us : List Addr, H' D = some (.lst (us.map V.ref)) ∧ us.length = i ∧ RowsT H' us (C.rows.take i)) ⟨same_upd hD, [], upd_same, rfl, .nil⟩ (fun i H' _ h => SqL.of (h.1 _ _ y1)) ?_ ?_
    · rintro i x _ H4 hi ⟨s4, us, e4, ul, hu⟩ ⟨rfl, ex⟩
      obtain ⟨t, et, rfl⟩ := ref_at ex
      have hi2 : i < C.rows.length := by
        rw [List.length_map, yl] at hi
        exact hi
      obtain ⟨t', et', ht⟩ := y2.get (List.getElem?_eq_getElem hi2)
      obtain rfl : t = t' := Option.some.inj (et.symm.trans et')
      have ht4 := s4 _ _ ht
      refine ⟨rfl, ?_⟩
      refine yes_t ?_
      refine ⟨_, rfl, ?_⟩
      refine ⟨t, _, rfl, .inl ⟨SqL.of ht4, fun l hl => ?_⟩⟩
      have s6 := same_upd (o := .tup ((C.rows[i]).map natV)) hl
      exact row_push hD (s4.trans s6) (s6 _ _ e4) ul (hu.same s6) (List.getElem?_eq_getElem hi2) upd_same (by omega)
    rintro H4 ⟨s4, us, e4, ul, hu⟩
    rw [List.length_map, yl, List.take_length] at hu
    refine ⟨D, _, rfl, .inl ⟨SqL.of e4, fun ay hay => ?_⟩⟩
    have s5 := same_upd (o := .tup (us.map V.ref)) hay
    have a1 : upd H4 ay (.tup (us.map V.ref)) ay = some (.tup (us.map V.ref)) := upd_same
    generalize upd H4 ay (.tup (us.map V.ref)) = H5 at s5 a1
    have s45 := s4.trans s5
    have a2 := hu.same s5
    have e5 := s45 _ _ e
    rfl'
    refine ⟨dg_of e5 v2, ?_⟩
    rfl'
    refine ⟨dg_of e5 v3, ?_⟩
    rfl'
    refine ⟨dg_of e5 v4, ?_⟩
    rfl'
    refine ⟨.inl (SqL.of (s45 _ _ B.rest)), ok.rl, fun rs rp rsp rso hrp => ?_⟩
    have s6 := same_upd (o := .lst (rs.map V.int)) hrp
    have x6 : upd H5 rp (.lst (rs.map V.int)) rp = some (.lst (rs.map V.int)) := upd_same
    generalize upd H5 rp (.lst (rs.map V.int)) = H6 at s6 x6
    refine ⟨rp, _, rfl, .inl ⟨SqL.of x6, fun rr hrr => ?_⟩⟩
    have s7 := same_upd (o := .tup (rs.map V.int)) hrr
    have x7 : upd H6 rr (.tup (rs.map V.int)) rr = some (.tup (rs.map V.int)) := upd_same
    generalize upd H6 rr (.tup (rs.map V.int)) = H7 at s7 x7
    have s57 := s6.trans s7
    have e7 := s57 _ _ e5
    have s07 := s45.trans s57
    rfl'
    refine ⟨dg_of e7 v5, ?_⟩
    refine ⟨hh, hs, C.hol, rfl, .inl (SqL.of (s07 _ _ h1)), (h2.same s07).prs, ok.hl, fun p hp => ?_, fun hs' f hp ef hper hso hnp => ?_⟩
    · have := ok.hol p hp
      have := ok.m1
      omega
    have s8 := same_upd (o := .lst (hs'.map V.ref)) hnp
    have x8 : upd H7 hp (.lst (hs'.map V.ref)) hp = some (.lst (hs'.map V.ref)) := upd_same
    generalize upd H7 hp (.lst (hs'.map V.ref)) = H8 at s8 x8
    refine ⟨hp, _, rfl, .inl ⟨SqL.of x8, fun fr hfr => ?_⟩⟩
    have s9 := same_upd (o := .tup (hs'.map V.ref)) hfr
    have x9 : upd H8 fr (.tup (hs'.map V.ref)) fr = some (.tup (hs'.map V.ref)) := upd_same
    generalize upd H8 fr (.tup (hs'.map V.ref)) = H9 at s9 x9
    have s79 := s8.trans s9
    have e9 := s79 _ _ e7
    have s09 := s07.trans s79
    have hpt : PrT H9 hs' (hs'.map f) := PrT.of fun t ht => (h2.same s09).mem ef t (hper.mem_iff.mp ht)
    have pp : (hs'.map f).Perm C.hol := by
      rw [ef]
      exact hper.map f
    have okr := ok.re rsp pp
    rfl'
    rename_i La nLa Hb sb fb
    have eb := sb _ _ e9
    refine ⟨dg_of eb v7, ?_⟩
    rfl'
    refine ⟨dg_of eb v8, ?_⟩
    rfl'
    refine ⟨dg_of eb v9, ?_⟩
    rfl'
    rename_i Lb nLb Hc sc fc Ld nLd Hd sd fd
    have sz := sb.trans (sc.trans sd)
    have s5z := (s57.trans s79).trans sz
    exact show_cal okr (SqL.of fd) (s5z _ _ a1) (a2.same s5z) ((s79.trans sz) _ _ x7) (sz _ _ x9) (hpt.same sz) (k rs _ Hd (s09.trans sz) rsp rso pp hso)
theorem c__law_due {X : Cx} {k : Nat} {t : TA} {e : Expr} {es : List Expr} {np pos : Pos} (T : Tx K mg) (hG : X.A.guards = some []) (hr : Room k X.A) (ha : PA X (e :: es) t) (hk : 3 ≤ k := by decide) (hK : X.K = K := by rfl) (hm : X.mg = mg := by rfl)
    (hg : Gl X "_law_due" := by rfl) (hse : starEach (e :: es) X.env = (false, eval e X.env) :: starEach es X.env := by rfl) (hpl : (backTo pos (starEach es X.env)).any (·.1) = false := by rfl) :
    PE X (.Call (.Name "_law_due" np) (e :: es) [] pos) (tFn (sp_due K) E0 t) := by
  subst hK
  subst hm
  exact pe_fG (ok__law_due T) hG T.kp__law_due T.g__law_due (hr.mono hk) pass0 ha hg (by decide) hse hpl
end
end Lw

--autob
namespace Lw
open PySem PySem.Spec PyProof.Rows L2 My
section
variable {P : Program} {w : World} {K : Fg} {mg : Str → Option Value} {base : Heap}
theorem perm_inv {α β : Type} {f : α → β} {l1 l2 : List β} (h : l1.Perm l2) : ∀ xs : List α, l1 = xs.map f → ∃ zs : List α, l2 = zs.map f ∧ zs.Perm xs := by
  induction h with
  | nil =>
    intro xs e
    cases xs with
    | nil => exact ⟨[], rfl, .nil⟩
    | cons x xs => cases e
  | cons a _ ih =>
    intro xs e
    cases xs with
    | nil => cases e
    | cons x xs =>
      obtain ⟨rfl, e2⟩ := List.cons.inj e
      obtain ⟨zs, rfl, pz⟩ := ih xs e2
      exact ⟨x :: zs, rfl, pz.cons x⟩
  | swap a b l =>
    intro xs e
    match xs, e with
    | x :: y :: xs, e =>
      obtain ⟨rfl, e2⟩ := List.cons.inj e
      obtain ⟨rfl, rfl⟩ := List.cons.inj e2
      exact ⟨y :: x :: xs, rfl, List.Perm.swap x y xs⟩
  | trans _ _ ih1 ih2 =>
    intro xs e
    obtain ⟨zs, e1, p1⟩ := ih1 xs e
    obtain ⟨us, e2, p2⟩ := ih2 zs e1
    exact ⟨us, e2, p2.trans p1⟩
theorem plain_ints {p : Addr} {H : Hp} (zs : List Int) : Plain K p H (zs.map V.int) := by
  refine ⟨fun v => match v with | .int z => .int z | _ => .int 0, fun x hx => ?_, fun H' _ x hx => ?_⟩
  · obtain ⟨z, _, rfl⟩ := List.mem_map.mp hx
    exact ⟨rfl, by simp [PyData.depth]⟩
  · obtain ⟨z, _, rfl⟩ := List.mem_map.mp hx
    exact .int z
/-- the pair at an address -/
def prAt (H : Hp) (t : Addr) : Int × Int := match H t with
  | some (.tup [.int a, .int b]) => (a, b)
  | _ => (0, 0)
theorem PrT.fn {H : Hp} : ∀ {ts : List Addr} {ps : List (Int × Int)}, PrT H ts ps → ps = ts.map (prAt H)
  | _, _, .nil => rfl
  | _, _, .cons (b := p) h r => by
    rw [List.map_cons, ← PrT.fn r]
    unfold prAt
    rw [h]
theorem plain_prs {p l : Addr} {n : Nat} {H : Hp} {ts : List Addr} {ps : List (Int × Int)} (hp : PenAt H p l n) (h : PrT H ts ps) : Plain K p H (ts.map V.ref) := by
  refine ⟨fun v => match v with | .ref t => prP (prAt H t) | _ => .int 0, fun x hx => ?_, fun H' k x hx => ?_⟩
  · obtain ⟨t, _, rfl⟩ := List.mem_map.mp hx
    exact ⟨rfl, by simp [prP, PyData.depth, PyData.depthAll]⟩
  · obtain ⟨t, ht, rfl⟩ := List.mem_map.mp hx
    exact .tup (SqT.of (hp.keepT k (PrT.mem h h.fn t ht))) (.cons (.int _) (.cons (.int _) .nil))
theorem PrT.perm {H : Hp} {ts us : List Addr} {ps : List (Int × Int)} (h : PrT H ts ps) (pu : us.Perm ts) : PrT H us (us.map (prAt H)) ∧ (us.map (prAt H)).Perm ps := by
  refine ⟨PrT.of fun t ht => PrT.mem h h.fn t (pu.mem_iff.mp ht), ?_⟩
  rw [h.fn]
  exact pu.map _
/-- a copied row more in the list at D -/
theorem rowL_push {H3 H5 : Hp} {D l : Addr} {us : List Addr} {rows : List (List Nat)} {row : List Nat} {i : Nat} (hD : H3 D = none) (s : Same H3 H5) (e : H5 D = some (.lst (us.map V.ref))) (ul : us.length = i) (hu : RowsL H5 us (rows.take i)) (nu : ∀ u ∈ us, H3 u = none ∧ u ≠ D) (hr : rows[i]? = some row) (hl : H5 l = some (.lst (row.map natV))) (nl : H3 l = none) (ne : l ≠ D) (hi : i < 1000) :
    ∃ acc, H5 D = some (.lst acc) ∧ acc.length < sizeLine ∧ (fun H' => Same H3 H' ∧ ∃ us : List Addr, H' D = some (.lst (us.map V.ref)) ∧ us.length = i + 1 ∧ RowsL H' us (rows.take (i + 1)) ∧ ∀ u ∈ us, H3 u = none ∧ u ≠ D) (upd H5 D (.lst (acc ++ [.ref l]))) := by
  have N : ∀ {ts : List Addr} {rs : List (List Nat)}, RowsL H5 ts rs → (∀ u ∈ ts, H3 u = none ∧ u ≠ D) → RowsL (upd H5 D (.lst (us.map V.ref ++ [.ref l]))) ts rs := fun {ts rs} h => by
    induction h with
    | nil => exact fun _ => .nil
    | cons h _ ih => exact fun z => .cons ((upd_ne (z _ (List.mem_cons_self ..)).2).trans h) (ih fun u hu => z u (List.mem_cons_of_mem _ hu))
  have S : ∀ {H : Hp} {t : Addr} {r : List Nat} {ts : List Addr} {rs : List (List Nat)}, RowsL H ts rs → H t = some (.lst (r.map natV)) → RowsL H (ts ++ [t]) (rs ++ [r]) := fun {H t r ts rs} h ht => by
    induction h with
    | nil => exact .cons ht .nil
    | cons h _ ih => exact .cons h ih
  refine ⟨_, e, by rw [List.length_map, sizeLine_eq]; omega, same_under s hD, us ++ [l], by rw [upd_same, List.map_append]; rfl, by rw [List.length_append, ul]; rfl, ?_, fun u hu => ?_⟩
  · rw [List.take_succ, hr]
    exact S (N hu nu) ((upd_ne ne).trans hl)
  · rcases List.mem_append.mp hu with hu | hu
    · exact nu u hu
    · rw [List.mem_singleton.mp hu]
      exact ⟨nl, ne⟩
theorem stay_seqV {p a : Addr} {xs : List V} : Stay p (fun H => SeqV H a xs) := fun _ _ _ _ hp k h => h.elim (fun h => .inl (hp.keepL k h)) fun h => .inr (hp.keepT k h)
theorem RowsL.mem {H : Hp} : ∀ {ts : List Addr} {rows : List (List Nat)}, RowsL H ts rows → ∀ t ∈ ts, ∃ r : List Nat, H t = some (.lst (r.map natV))
  | _, _, .nil, _, h => by cases h
  | _, _, .cons h r, t, ht => by
    rcases List.mem_cons.mp ht with rfl | ht
    · exact ⟨_, h⟩
    · exact RowsL.mem r t ht
theorem RowsT.rowsV {H : Hp} : ∀ {ts : List Addr} {rows : List (List Nat)}, RowsT H ts rows → RowsV H ts rows
  | _, _, .nil => .nil
  | _, _, .cons h t => .cons (.inr h) (RowsT.rowsV t)
theorem stay_rowsV {p : Addr} {ts : List Addr} {rows : List (List Nat)} : Stay p (fun H => RowsV H ts rows) := fun H H' l n hp k h => by
  have key : ∀ {ts : List Addr} {rows : List (List Nat)}, RowsV H ts rows → RowsV H' ts rows := fun {ts rows} h => by
    induction h with
    | nil => exact .nil
    | cons h _ ih => exact .cons (stay_seqV _ _ _ _ hp k h) ih
  exact key h
theorem stay_calnew {p c : Addr} {C : Cal} {H0 : Hp} : Stay p (fun H => CalNew K H0 H c C) := fun H H' l n hp k h => by
  obtain ⟨a, dx, ay, rr, fr, le, s, h1, ⟨⟨t1, a1, a2⟩, b1, ⟨t2, c1, c2⟩, d1, e1⟩, h3, h4, h5⟩ := h
  obtain ⟨kvs, e⟩ := hp.dict
  have R : ∀ {ts : List Addr} {rows : List (List Nat)}, RowsT H ts rows → RowsT H' ts rows := fun {ts rows} h => by
    induction h with
    | nil => exact .nil
    | cons h _ ih => exact .cons (hp.keepT k h) ih
  exact ⟨a, dx, ay, rr, fr, le, s, k _ _ h1 (ne_dict e h1 (by intro z; cases z)), ⟨⟨t1, hp.keepT k a1, R a2⟩, hp.keepT k b1, ⟨t2, hp.keepT k c1, c2.kx e k⟩, hp.keepL k d1, hp.keepL k e1⟩, h3, hp.keepL k h4, h5⟩
theorem Bd.write {H0 H H' : Hp} {p l c q : Addr} {n : Nat} {C : Cal} {Fs : List (Hp → Prop)} {u : HO} {xs ys : List V} (B : Bd H p l n ((fun H => CalNew K H0 H c C) :: Fs)) (h0 : H0 q = some u) (hq : H q = some (.lst xs)) (nq : q ≠ p ∧ q ≠ l) (e : upd H q (.lst ys) = H') : Bd H' p l n [fun H => CalNew K H0 H c C] := by
  subst e
  exact (Bd.start (B.pen.set nq.1 nq.2)).add stay_calnew (CalNew.set (B.at_ 0) h0 hq)
/-- a calendar of one month -/
def oneC (m : Nat) : Cal := ⟨[[m]], 7, 0, [], []⟩
theorem oneC_ok {m : Nat} (h0 : 1 ≤ m) (h1 : m ≤ 40) : (oneC m).Ok := by
  have per : Nat.lcm m 7 ≤ 400 := by
    have h1 : Nat.lcm m 7 ∣ m * 7 := Nat.lcm_dvd (Nat.dvd_mul_right _ _) (Nat.dvd_mul_left _ _)
    have h2 := Nat.le_of_dvd (Nat.mul_pos h0 (by omega)) h1
    omega
  have yo : YrOk [[m]] := ⟨by simp, by simp, by simp, by simp, fun r hr => by simp at hr; subst hr; simp, fun r hr x hx => by simp at hr; subst hr; simp at hx; omega⟩
  refine ⟨yo, by show 0 < 7; omega, by show 7 ≤ 10; omega, by show 0 < 7; omega, (fun x hx => by cases hx), List.Pairwise.nil, by show 0 < 64; omega, (fun x hx => by cases hx), List.Pairwise.nil, by show 0 < 64; omega, ?_⟩
  show Nat.lcm ([[m]].flatten).sum 7 ≤ _
  rw [show ([[m]].flatten).sum = m by simp]
  omega
theorem oneC_works {m : Nat} (h0 : 1 ≤ m) (h1 : m ≤ 40) : (oneC m).works ≠ [] := by
  have ok := oneC_ok h0 h1
  have p0 := ok.p0
  have per : (oneC m).per ≤ 400 := by
    show Nat.lcm ([[m]].flatten).sum 7 ≤ _
    rw [show ([[m]].flatten).sum = m by simp]
    have h1 : Nat.lcm m 7 ∣ m * 7 := Nat.lcm_dvd (Nat.dvd_mul_right _ _) (Nat.dvd_mul_left _ _)
    have h2 := Nat.le_of_dvd (Nat.mul_pos h0 (by omega)) h1
    omega
  unfold Cal.works
  rw [if_pos (by omega)]
  intro z
  have : (0 : Nat) ∈ Cal.wrkN (oneC m) (oneC m).per := Cal.mem_wrkN.mpr ⟨p0, by unfold Cal.isW oneC; simp⟩
  rw [z] at this
  cases this
theorem ok_law (T : Tx K mg) : LawG P w K mg 10 (He.ga K "law") := by
  refine T.lawG 39 (st := s_law) (at_ := fun K => He.ga K "law") rfl sc_law (fun _ _ _ _ _ _ us hl => match us, hl with | [_], _ => rfl) (fun base cdv A outer s H a ns Q E hG hr hS hl k => ?_)
  refine ⟨_, (pss_cons (ps_set (i := 1) sc_law.nd rfl (Or.inl rfl) (c__law_pen T hr (pa_cons (pv 0) pa_nil)))
 (pss_cons (ps_for PassesOwn.never rfl (pi_range1 rfl T.n_range (pa_cons (pe_op op_add pe_int (pe_callB (call_min2 rfl) (by rfl) T.n_min (by decide +kernel) (pa_cons pe_int (pa_cons (pe_callB (len_k T) (by rfl) T.n_len (by decide +kernel) (pa_cons (pv 0) pa_nil)) pa_nil)))) pa_nil)) (pg_name (i := 2) sc_law.nd rfl (Or.inl rfl))
 (pss_cons (ps_set (i := 3) sc_law.nd rfl (Or.inl rfl) (c__law_plain T hr (pa_cons (pv 1) pa_nil)))
 (pss_cons (ps_par (i := 4) (j := 5) (by rfl) sc_law.nd rfl rfl (by decide) rfl rfl (pa_cons (pe_lc (own := [("_law_row", 13)]) rfl sc_law.nd (pil T (pe_dget (hu_of hr) (pv 3) pe_str (fun _ _ => rfl))) (blkOk_by (own := [("_law_row", 13)]) (N := N_law) (sc := defScope s_law) (by decide +kernel)) (fun _ _ _ _ _ => (pg_name (i := 13) sc_law.nd rfl (Or.inl rfl))) (fun _ _ _ _ _ => pts_nil) (fun _ _ _ _ _ => (pe_callTy (lst_k T) (by rfl) T.n_list (by decide +kernel) (pa_cons (pv 13) pa_nil)))) (pa_cons (c__law_shuffled T hr (pa_cons (pv 1) (pa_cons (pe_dget (hu_of hr) (pv 3) pe_str (fun _ _ => rfl)) pa_nil))) pa_nil)) (by rfl))
 (pss_cons (ps_par (i := 6) (j := 7) (by rfl) sc_law.nd rfl rfl (by decide) rfl rfl (pa_cons (c__law_shuffled T hr (pa_cons (pv 1) (pa_cons (pe_dget (hu_of hr) (pv 3) pe_str (fun _ _ => rfl)) pa_nil))) (pa_cons (c__law_due T hG hr (pa_cons (pv 3) pa_nil)) pa_nil)) (by rfl))
 (pss_mid (ps_set (i := 8) sc_law.nd rfl (Or.inl rfl) (pe_ix (ixl T) (pe_lst (pa_cons (pv 4) (pa_cons (pe_callTy (tup_k T) (by rfl) T.n_tuple (by decide +kernel) (pa_cons (pe_lc (own := [("_law_row", 13)]) rfl sc_law.nd (pil T (pv 4)) (blkOk_by (own := [("_law_row", 13)]) (N := N_law) (sc := defScope s_law) (by decide +kernel)) (fun _ _ _ _ _ => (pg_name (i := 13) sc_law.nd rfl (Or.inl rfl))) (fun _ _ _ _ _ => pts_nil) (fun _ _ _ _ _ => (pe_callTy (tup_k T) (by rfl) T.n_tuple (by decide +kernel) (pa_cons (pv 13) pa_nil)))) pa_nil)) (pa_cons (pe_lc (own := [("_law_row", 13)]) rfl sc_law.nd (pil T (pv 4)) (blkOk_by (own := [("_law_row", 13)]) (N := N_law) (sc := defScope s_law) (by decide +kernel)) (fun _ _ _ _ _ => (pg_name (i := 13) sc_law.nd rfl (Or.inl rfl))) (fun _ _ _ _ _ => pts_nil) (fun _ _ _ _ _ => (pe_callTy (tup_k T) (by rfl) T.n_tuple (by decide +kernel) (pa_cons (pv 13) pa_nil)))) pa_nil)))) (c__law_draw T hr (pa_cons (pv 1) (pa_cons pe_int pa_nil))) (fun _ _ => rfl)))
 (pss_mid (ps_set (i := 9) sc_law.nd rfl (Or.inl rfl) (pe_ix (ixl T) (pe_lst (pa_cons (pv 5) (pa_cons (pe_callTy (tup_k T) (by rfl) T.n_tuple (by decide +kernel) (pa_cons (pv 5) pa_nil)) pa_nil))) (c__law_draw T hr (pa_cons (pv 1) (pa_cons pe_int pa_nil))) (fun _ _ => rfl)))
 (pss_mid (ps_set (i := 10) sc_law.nd rfl (Or.inl rfl) (pe_ix (ixl T) (pe_lst (pa_cons (pv 6) (pa_cons (pe_callTy (tup_k T) (by rfl) T.n_tuple (by decide +kernel) (pa_cons (pv 6) pa_nil)) pa_nil))) (c__law_draw T hr (pa_cons (pv 1) (pa_cons pe_int pa_nil))) (fun _ _ => rfl)))
 (pss_mid (ps_if (pt_cmpR op_eq (c__law_draw T hr (pa_cons (pv 1) (pa_cons pe_int pa_nil))) pe_int (nomark _))
 (pss_one (ps_set (i := 11) sc_law.nd rfl (Or.inl rfl) (mkk_Calendar_first_rest_holidays T hr (pa_cons (pv 8) (pa_cons (pe_dget (hu_of hr) (pv 3) pe_str (fun _ _ => rfl)) pa_nil)) (pk_cons (pe_dget (hu_of hr) (pv 3) pe_str (fun _ _ => rfl)) (pk_cons (pv 9) (pk_cons (pv 10) pk_nil))))))
 (pss_one (ps_set (i := 11) sc_law.nd rfl (Or.inl rfl) (mkk_Calendar_holidays_rest_first_week_years T hr (pk_cons (pv 10) (pk_cons (pv 9) (pk_cons (pe_dget (hu_of hr) (pv 3) pe_str (fun _ _ => rfl)) (pk_cons (pe_dget (hu_of hr) (pv 3) pe_str (fun _ _ => rfl)) (pk_cons (pv 8) pk_nil)))))))))
 (pss_cons (ps_if (pt_cmpR op_ne (c__law_shown T hG hr (pa_cons (pv 11) pa_nil)) (pv 7) (nomark _))
 (pss_one (ps_ret pe_bl))
 pss_nil)
 (pss_cons (ps_asg pe_int (pg_sub (pe_ix (ixl T) (pv 4) pe_int (fun _ _ => rfl)) pe_int set_list))
 (pss_cons (ps_expr (bmk T PySem.F.plainAttrs_list PySem.F.slot_list_append PySem.F.type_list_append mt_append (pv 4) (pa_cons (pe_lst pa_nil) pa_nil)))
 (pss_cons (ps_expr (bmk T PySem.F.plainAttrs_list PySem.F.slot_list_append PySem.F.type_list_append mt_append (pv 5) (pa_cons pe_int pa_nil)))
 (pss_cons (ps_expr (bmk T PySem.F.plainAttrs_list PySem.F.slot_list_insert PySem.F.type_list_insert mt_insert (pv 6) (pa_cons pe_int (pa_cons (pe_tup (pa_cons pe_int (pa_cons pe_int pa_nil))) pa_nil))))
 (pss_cons (ps_if (PW.pt (pw_or (pt_cmpR op_ne (c__law_shown T hG hr (pa_cons (pv 11) pa_nil)) (pv 7) (nomark _)) (pw_or1 (pt_cmpR op_ne (c__law_shown T hG hr (pa_cons (pv 11) pa_nil)) (pv 7) (nomark _)))))
 (pss_one (ps_ret pe_bl))
 pss_nil)
 (pss_cons (ps_set (i := 12) sc_law.nd rfl (Or.inl rfl) (pe_op op_add pe_int (c__law_draw T hr (pa_cons (pv 1) (pa_cons pe_int pa_nil)))))
 (pss_one (ps_if (pt_cmpR op_ne (c__law_shown T hG hr (pa_cons (mk_Calendar T hr (pa_cons (pe_lst (pa_cons (pe_lst (pa_cons (pv 12) pa_nil)) pa_nil)) pa_nil)) pa_nil)) (c__law_due T hG hr (pa_cons (c__law_with_days T hr (pa_cons (pe_lst (pa_cons (pe_lst (pa_cons (pv 12) pa_nil)) pa_nil)) (pa_cons pe_int (pa_cons pe_int (pa_cons (pe_lst pa_nil) (pa_cons (pe_lst pa_nil) pa_nil)))))) pa_nil)) (nomark _))
 (pss_one (ps_ret pe_bl))
 pss_nil)))))))))))))))))
 (pss_one (ps_ret pe_bl)))), ?_⟩
  refine ⟨_, rfl, a, ns, rfl, hS, fun p l H1 s1 hp0 hp => ?_⟩
  refine ⟨_, rfl, a, _, rfl, .inl (sqL_same hS s1), _, _, rfl, _, _, rfl, rfl, _, rfl, ?_, ?_, ?_⟩
  · rw [List.length_map]
    split <;> omega
  · rw [List.length_map]
    split <;> omega
  obtain ⟨N, hN, hN2⟩ : ∃ N : Nat, (4 + (if (((ns.map V.int).length : Nat) : Int) < 8 then (((ns.map V.int).length : Nat) : Int) else 8)).toNat = N ∧ N ≤ 12 := ⟨_, rfl, by split <;> omega⟩
  rw [hN]
  clear hN
  refine for_range (n := N) (fun i σ H' => ∃ v2 v3 v4 v5 v6 v7 v8 v9 v10 v11 v12 v13 : Option V, σ = [some (.ref a), some (.ref p), v2, v3, v4, v5, v6, v7, v8, v9, v10, v11, v12, v13] ∧ PenAt H' p l (1000 * i)) ⟨_, _, _, _, _, _, _, _, _, _, _, _, rfl, hp⟩ ?_ ?_
  · rintro i σ H2 hi ⟨v2, v3, v4, v5, v6, v7, v8, v9, v10, v11, v12, v13, rfl, hp2⟩
    clear hS hl hp hp0 s1
    refine ⟨_, rfl, p, l, _, rfl, hp2, by omega, fun q C H3 hp3 k3 qp pl nw per => ?_⟩
    clear hp2 k3
    have ok := pl.ok
    have p0 := ok.p0
    have hw : C.works ≠ [] := by
      unfold Cal.works
      rw [if_pos (by omega)]
      exact nw
    have rl := ok.rl
    have hl := ok.hl
    obtain ⟨ws, ⟨y, r, hh, dd, b, e, B0, _⟩, _⟩ := id pl
    obtain ⟨vv1, vv2, vv3, vv4, vv5, vv6, vv7, vv8, vv9⟩ := plv (ws := ws) (C := C) (y := y) (r := r) (h := hh) (d := dd) (b := b) (cyc := C.ls.sum) (per := C.per)
    obtain ⟨ys, y1, y2⟩ := B0.yr
    obtain ⟨hs, h1, h2⟩ := B0.hol
    have yl := y2.len
    have h2l : hs.length = C.hol.length := h2.len
    have yo := ok.yr.le
    have B := (((((Bd.start hp3).add (stay_pl qp) pl).add (stay_dct qp) e).addL B0.rest).addL h1).add stay_prT h2
    rfl'
    refine ⟨dg_of e vv1, ?_⟩
    rfl'
    intro D hD
    have nD := hp3.new hD
    refine walk_w walk_list (fun j H' => Same H3 H' ∧ ∃ us : List Addr, H' D = some (.lst (us.map V.ref)) ∧ us.length = j ∧ RowsL H' us (C.rows.take j) ∧ ∀ u ∈ us, H3 u = none ∧ u ≠ D) ⟨same_upd hD, [], upd_same, rfl, .nil, fun u hu => by cases hu⟩ (fun j H' _ h => SqL.of (h.1 _ _ y1)) ?_ ?_
    · rintro j x _ H4 hj ⟨s4, us, e4, ul, hu, nu⟩ ⟨rfl, ex⟩
      obtain ⟨t, et, rfl⟩ := ref_at ex
      have hj2 : j < C.rows.length := by
        rw [List.length_map, yl] at hj
        exact hj
      obtain ⟨t', et', ht⟩ := y2.get (List.getElem?_eq_getElem hj2)
      obtain rfl : t = t' := Option.some.inj (et.symm.trans et')
      have ht4 := s4 _ _ ht
      refine ⟨rfl, ?_⟩
      refine yes_t ?_
      refine ⟨_, rfl, ?_⟩
      refine ⟨t, _, rfl, .inl (SqL.of ht4), fun m hm => ?_⟩
      have s6 := same_upd (o := .lst ((C.rows[j]).map natV)) hm
      have hu6 : RowsL (upd H4 m (.lst ((C.rows[j]).map natV))) us (C.rows.take j) := hu.same s6
      have nm : m ≠ D := fun z => by
        rw [z, e4] at hm
        cases hm
      exact rowL_push hD (s4.trans s6) (s6 _ _ e4) ul hu6 nu (List.getElem?_eq_getElem hj2) upd_same (s4.free hm) nm (by omega)
    rintro H4 ⟨s4, us, e4, ul, hu, nu⟩
    rw [List.length_map, yl, List.take_length] at hu
    have nU : ∀ u ∈ us, u ≠ p ∧ u ≠ l := fun u hu => hp3.new (nu u hu).1
    have B4 := ((B.same s4).addL e4).add stay_rowsL hu
    clear B hu e4
    rfl'
    refine ⟨dg_of (B4.ob 5 rfl) vv4, ?_⟩
    refine ⟨p, l, r, C.rest.map V.int, _, rfl, B4.pen, B4.ob 4 rfl, by rw [List.length_map]; omega, by rw [List.length_map]; omega, plain_ints _, fun idle zs H5 pm nI eI p5 k5 => ?_⟩
    obtain ⟨rs0, rfl, pr0⟩ := perm_inv pm.symm C.rest rfl
    have nI2 := B4.pen.new nI
    have neI : D ≠ idle ∧ ∀ u ∈ us, u ≠ idle := ⟨ne_of_none (B4.ob 1 rfl) nI, fun u hu => by
      obtain ⟨r, hr⟩ := RowsL.mem (B4.at_ 0) u hu
      exact ne_of_none hr nI⟩
    have B5 := ((B4.drawn k5 p5).mono (show 1000 * i + 100 + (C.rest.map V.int).length ≤ 1000 * i + 200 by rw [List.length_map]; omega)).addL eI
    clear B4 pm k5 p5 eI
    rfl'
    refine ⟨dg_of (B5.ob 6 rfl) vv5, ?_⟩
    refine ⟨p, l, hh, hs.map V.ref, _, rfl, B5.pen, B5.ob 4 rfl, by rw [List.length_map, h2.len]; omega, by rw [List.length_map, h2.len]; omega, plain_prs B5.pen (B5.at_ 3), fun free zs H6 pm nF eF p6 k6 => ?_⟩
    obtain ⟨hs0, rfl, ph0⟩ := perm_inv pm.symm hs rfl
    obtain ⟨ps0, hps0, pp0⟩ : ∃ ps0, PrT H5 hs0 ps0 ∧ ps0.Perm C.hol := ⟨_, (B5.at_ 3 : PrT H5 hs C.hol).perm ph0⟩
    have nF2 := B5.pen.new nF
    have neF : D ≠ free ∧ idle ≠ free ∧ ∀ u ∈ us, u ≠ free := ⟨ne_of_none (B5.ob 2 rfl) nF, ne_of_none (B5.ob 0 rfl) nF, fun u hu => by
      obtain ⟨r, hr⟩ := RowsL.mem (B5.at_ 1) u hu
      exact ne_of_none hr nF⟩
    have B6 := (((B5.add stay_prT hps0).drawn k6 p6).mono (show 1000 * i + 200 + (hs.map V.ref).length ≤ 1000 * i + 300 by rw [List.length_map, h2.len]; omega)).addL eF
    clear B5 pm k6 p6 eF hps0
    rfl'
    refine ⟨(B6.at_ 9 : PlainAt H6 q C), fun rs ps H7 s7 pr1 sr1 ph1 sh1 => ?_⟩
    obtain ⟨due, hdue⟩ : ∃ due, (calD (C.re rs ps)).shown = due := ⟨_, rfl⟩
    rw [hdue]
    have B7' := B6.same s7
    have B7 := ((((((Bd.start B7'.pen).add (stay_dct qp) (B7'.ob 8 rfl)).addL (B7'.ob 4 rfl)).add stay_rowsL (B7'.at_ 3)).addL (B7'.ob 2 rfl)).add stay_prT (B7'.at_ 1)).addL (B7'.ob 0 rfl)
    clear B6 B7' s7 B0 hp3 pl e h1 h2 y1 y2 s4 nI nF hD
    obtain ⟨C0, hC0⟩ : ∃ C0, C.re rs0 ps0 = C0 := ⟨_, rfl⟩
    generalize plD y r hh dd b C C.ls.sum C.per ++ ws = kv at B7 vv1 vv2 vv3 vv4 vv5 vv6 vv7 vv8 vv9
    clear vv1 vv4 vv5 vv6 vv7 vv8 vv9
    refine ⟨_, _, rfl, ?_⟩
    refine ⟨fun σ H' => ∃ (y : Addr) (ts : List Addr), σ = [some (.ref a), some (.ref p), some (.int (0 + (i : Int))), some (.ref q), some (.ref D), some (.ref idle), some (.ref free), some (.str due), some (.ref y), v9, v10, v11, v12, v13] ∧ Bd H' p l (1000 * i + 301) [fun H => SeqV H y (ts.map V.ref), fun H => RowsV H ts C.rows, fun H => H free = some (.lst (hs0.map V.ref)), fun H => PrT H hs0 ps0, fun H => H idle = some (.lst (rs0.map V.int)), fun H => RowsL H us C.rows, fun H => H D = some (.lst (us.map V.ref)), fun H => H q = some (.dK kv)], ?_, ?_⟩
    · have ul2 : us.length = C.rows.length := by rw [ul, List.length_map, yl]
      have rl7 : RowsL H7 us C.rows := B7.at_ 3
      have eD7 : H7 D = some (.lst (us.map V.ref)) := B7.ob 4 rfl
      rfl'
      intro E1 hE1
      refine walk_w walk_list (fun j H' => Same H7 H' ∧ ∃ vs : List Addr, H' E1 = some (.lst (vs.map V.ref)) ∧ vs.length = j ∧ RowsT H' vs (C.rows.take j)) ⟨same_upd hE1, [], upd_same, rfl, .nil⟩ (fun j H' _ h => SqL.of (h.1 _ _ eD7)) ?_ ?_
      · rintro j x _ H8 hj ⟨s8, vs, e8, vl, hv⟩ ⟨rfl, ex⟩
        obtain ⟨t, et, rfl⟩ := ref_at ex
        have hj2 : j < C.rows.length := by
          rw [List.length_map, ul2] at hj
          exact hj
        obtain ⟨t', et', ht⟩ := RowsL.get rl7 (List.getElem?_eq_getElem hj2)
        obtain rfl : t = t' := Option.some.inj (et.symm.trans et')
        have ht8 := s8 _ _ ht
        refine ⟨rfl, ?_⟩
        refine yes_t ?_
        refine ⟨_, rfl, ?_⟩
        refine ⟨t, _, rfl, .inl ⟨SqL.of ht8, fun m hm => ?_⟩⟩
        have s9 := same_upd (o := .tup ((C.rows[j]).map natV)) hm
        exact row_push hE1 (s8.trans s9) (s9 _ _ e8) vl (hv.same s9) (List.getElem?_eq_getElem hj2) upd_same (by omega)
      rintro H8 ⟨s8, vs, e8, vl, hv⟩
      rw [List.length_map, ul2, List.take_length] at hv
      refine ⟨E1, _, rfl, .inl ⟨SqL.of e8, fun ty hty => ?_⟩⟩
      have s9 := same_upd (o := .tup (vs.map V.ref)) hty
      have x9 : upd H8 ty (.tup (vs.map V.ref)) ty = some (.tup (vs.map V.ref)) := upd_same
      generalize upd H8 ty (.tup (vs.map V.ref)) = H9 at s9 x9
      have hv9 := hv.same s9
      have B9 := B7.same (s8.trans s9)
      clear s8 e8 vl hv s9 hty
      have rl9 : RowsL H9 us C.rows := B9.at_ 3
      have eD9 : H9 D = some (.lst (us.map V.ref)) := B9.ob 4 rfl
      rfl'
      intro E2 hE2
      refine walk_w walk_list (fun j H' => Same H9 H' ∧ ∃ vs : List Addr, H' E2 = some (.lst (vs.map V.ref)) ∧ vs.length = j ∧ RowsT H' vs (C.rows.take j)) ⟨same_upd hE2, [], upd_same, rfl, .nil⟩ (fun j H' _ h => SqL.of (h.1 _ _ eD9)) ?_ ?_
      · rintro j x _ H8 hj ⟨s8, vs, e8, vl, hv⟩ ⟨rfl, ex⟩
        obtain ⟨t, et, rfl⟩ := ref_at ex
        have hj2 : j < C.rows.length := by
          rw [List.length_map, ul2] at hj
          exact hj
        obtain ⟨t', et', ht⟩ := RowsL.get rl9 (List.getElem?_eq_getElem hj2)
        obtain rfl : t = t' := Option.some.inj (et.symm.trans et')
        have ht8 := s8 _ _ ht
        refine ⟨rfl, ?_⟩
        refine yes_t ?_
        refine ⟨_, rfl, ?_⟩
        refine ⟨t, _, rfl, .inl ⟨SqL.of ht8, fun m hm => ?_⟩⟩
        have s9 := same_upd (o := .tup ((C.rows[j]).map natV)) hm
        exact row_push hE2 (s8.trans s9) (s9 _ _ e8) vl (hv.same s9) (List.getElem?_eq_getElem hj2) upd_same (by omega)
      rintro H10 ⟨s10, ws2, e10, wl, hw2⟩
      rw [List.length_map, ul2, List.take_length] at hw2
      have B10' := B9.same s10
      have B10 := (((((B10'.add stay_rowsV hw2.rowsV).add (stay_seqV (a := E2)) (.inl e10)).add stay_rowsV (hv9.same s10).rowsV).add (stay_seqV (a := ty)) (.inr (s10 _ _ x9))).add stay_rowsV (RowsL.rows (B10'.at_ 3))).add (stay_seqV (a := D)) (.inl (B10'.ob 4 rfl))
      clear s10 x9 hv9 rl9 eD9 wl hE2 B10' B9 hE1 B7
      rfl'
      rename_i q1 H11 B11 r1 H12 r10 r11 B12
      have rr : r1 = 0 ∨ r1 = 1 ∨ r1 = 2 := by omega
      have ev : atI [V.ref D, V.ref ty, V.ref E2] r1 = some (V.ref (if r1 = 0 then D else if r1 = 1 then ty else E2)) := by
        rcases rr with rfl | rfl | rfl
        · exact at_of (j := 0) rfl rfl
        · exact at_of (j := 1) rfl rfl
        · exact at_of (j := 2) rfl rfl
      refine ⟨ev, ?_⟩
      have B13 := B12.last (Fs := [_, _, _, _, _, _, _]) (Gs := [_, _, _, _, _, _])
      rcases rr with rfl | rfl | rfl
      · exact ⟨D, us, rfl, ((B13.add stay_rowsV (B12.at_ 2)).add stay_seqV (B12.at_ 1)).mono (by omega)⟩
      · exact ⟨ty, vs, rfl, ((B13.add stay_rowsV (B12.at_ 4)).add stay_seqV (B12.at_ 3)).mono (by omega)⟩
      · exact ⟨E2, ws2, rfl, ((B13.add stay_rowsV (B12.at_ 6)).add stay_seqV (B12.at_ 5)).mono (by omega)⟩
    clear B7
    rintro σ H8 ⟨y, ts, rfl, B8⟩
    refine ⟨fun σ H' => ∃ (r : Addr), σ = [some (.ref a), some (.ref p), some (.int (0 + (i : Int))), some (.ref q), some (.ref D), some (.ref idle), some (.ref free), some (.str due), some (.ref y), some (.ref r), v10, v11, v12, v13] ∧ Bd H' p l (1000 * i + 302) [fun H => SeqV H r (rs0.map V.int), fun H => SeqV H y (ts.map V.ref), fun H => RowsV H ts C.rows, fun H => H free = some (.lst (hs0.map V.ref)), fun H => PrT H hs0 ps0, fun H => H idle = some (.lst (rs0.map V.int)), fun H => RowsL H us C.rows, fun H => H D = some (.lst (us.map V.ref)), fun H => H q = some (.dK kv)], ?_, ?_⟩
    · rfl'
      refine .inl ⟨SqL.of (B8.ob 4 rfl), fun t ht => ?_⟩
      have s9 := same_upd (o := .tup (rs0.map V.int)) ht
      have x9 : upd H8 t (.tup (rs0.map V.int)) t = some (.tup (rs0.map V.int)) := upd_same
      generalize upd H8 t (.tup (rs0.map V.int)) = H9 at s9 x9
      have B9 := ((B8.same s9).add (stay_seqV (a := t)) (.inr x9)).add (stay_seqV (a := idle)) (.inl (s9 _ _ (B8.ob 4 rfl)))
      clear B8 s9 x9 ht
      rfl'
      rename_i q1 H11 B11 r1 H12 r10 r11 B12
      have rr : r1 = 0 ∨ r1 = 1 := by omega
      have ev : atI [V.ref idle, V.ref t] r1 = some (V.ref (if r1 = 0 then idle else t)) := by
        rcases rr with rfl | rfl
        · exact at_of (j := 0) rfl rfl
        · exact at_of (j := 1) rfl rfl
      refine ⟨ev, ?_⟩
      have B13 := B12.last (Fs := [_, _, _]) (Gs := [_, _, _, _, _, _, _, _])
      rcases rr with rfl | rfl
      · exact ⟨idle, rfl, (B13.add stay_seqV (B12.at_ 1)).mono (by omega)⟩
      · exact ⟨t, rfl, (B13.add stay_seqV (B12.at_ 2)).mono (by omega)⟩
    clear B8
    rintro σ H9 ⟨r, rfl, B9⟩
    refine ⟨fun σ H' => ∃ (h : Addr), σ = [some (.ref a), some (.ref p), some (.int (0 + (i : Int))), some (.ref q), some (.ref D), some (.ref idle), some (.ref free), some (.str due), some (.ref y), some (.ref r), some (.ref h), v11, v12, v13] ∧ Bd H' p l (1000 * i + 303) [fun H => SeqV H h (hs0.map V.ref), fun H => SeqV H r (rs0.map V.int), fun H => SeqV H y (ts.map V.ref), fun H => RowsV H ts C.rows, fun H => H free = some (.lst (hs0.map V.ref)), fun H => PrT H hs0 ps0, fun H => H idle = some (.lst (rs0.map V.int)), fun H => RowsL H us C.rows, fun H => H D = some (.lst (us.map V.ref)), fun H => H q = some (.dK kv)], ?_, ?_⟩
    · rfl'
      refine .inl ⟨SqL.of (B9.ob 3 rfl), fun t ht => ?_⟩
      have s9 := same_upd (o := .tup (hs0.map V.ref)) ht
      have x9 : upd H9 t (.tup (hs0.map V.ref)) t = some (.tup (hs0.map V.ref)) := upd_same
      generalize upd H9 t (.tup (hs0.map V.ref)) = H10 at s9 x9
      have B10 := ((B9.same s9).add (stay_seqV (a := t)) (.inr x9)).add (stay_seqV (a := free)) (.inl (s9 _ _ (B9.ob 3 rfl)))
      clear B9 s9 x9 ht
      rfl'
      rename_i q1 H11 B11 r1 H12 r10 r11 B12
      have rr : r1 = 0 ∨ r1 = 1 := by omega
      have ev : atI [V.ref free, V.ref t] r1 = some (V.ref (if r1 = 0 then free else t)) := by
        rcases rr with rfl | rfl
        · exact at_of (j := 0) rfl rfl
        · exact at_of (j := 1) rfl rfl
      refine ⟨ev, ?_⟩
      have B13 := B12.last (Fs := [_, _, _]) (Gs := [_, _, _, _, _, _, _, _, _])
      rcases rr with rfl | rfl
      · exact ⟨free, rfl, (B13.add stay_seqV (B12.at_ 1)).mono (by omega)⟩
      · exact ⟨t, rfl, (B13.add stay_seqV (B12.at_ 2)).mono (by omega)⟩
    clear B9
    rintro σ H10 ⟨h, rfl, B10⟩
    have okr : (C.re rs ps).Ok := ok.re pr1 ph1
    have mk : ∀ (H11 : Hp) (_ : Bd H11 p l (1000 * i + 304) [fun H => SeqV H h (hs0.map V.ref), fun H => SeqV H r (rs0.map V.int), fun H => SeqV H y (ts.map V.ref), fun H => RowsV H ts C.rows, fun H => H free = some (.lst (hs0.map V.ref)), fun H => PrT H hs0 ps0, fun H => H idle = some (.lst (rs0.map V.int)), fun H => RowsL H us C.rows, fun H => H D = some (.lst (us.map V.ref)), fun H => H q = some (.dK kv)]) (x dx : Addr) (_ : H11 x = none) (_ : H11 dx = none) (_ : dx ≠ x) (R : Hp → Prop)
        (_ : ∀ (H0 H' : Hp), (Bd H' p l (1000 * i + 304) [fun H => CalNew K H0 H x (C.re rs ps), fun H => H free = some (.lst (hs0.map V.ref)), fun H => H idle = some (.lst (rs0.map V.int)), fun H => RowsL H us C.rows, fun H => H D = some (.lst (us.map V.ref))] ∧ H0 free = some (.lst (hs0.map V.ref)) ∧ H0 idle = some (.lst (rs0.map V.int)) ∧ RowsL H0 us C.rows ∧ H0 D = some (.lst (us.map V.ref))) → R H'),
        sp_cinit K [.ref x, .ref y, .int (C.week : Int), .int (C.first : Int), .ref r, .ref h] (upd (upd H11 dx (.own x)) x (.ins (CA K) dx [])) (fun v H3 => v = .non ∧ R H3) E0 := by
      intro H11 B11 x dx nx nd ne R kq
      have s0 : Same H11 (upd (upd H11 dx (.own x)) x (.ins (CA K) dx [])) := fun b u e => by
        rw [upd_ne (ne_of_none e nx), upd_ne (ne_of_none e nd)]
        exact e
      have B0 := B11.same s0
      refine ⟨x, dx, y, r, h, ts, hs0, C.re rs0 ps0, rfl, upd_same, B0.at_ 2, B0.at_ 3, .inl (B0.at_ 1), .inl (B0.at_ 0), B0.at_ 5, ok.re pr0 pp0, by rw [Cal.re_works pr0 pp0]; exact hw, fun rs' ps' H' p1 pw1 p2 pw2 ca kx => ⟨rfl, ?_⟩⟩
      obtain rfl : rs' = rs := sorted_uniq ((p1.trans pr0).trans pr1.symm) pw1 sr1
      obtain rfl : ps' = ps := sorted_prs ((p2.trans pp0).trans ph1.symm) (fun z hz => by have := okr.hol z hz; omega) pw2 sh1
      have sz : Same H11 H' := fun b u e => kx b u (s0 b u e) (ne_of_none e nx)
      have Bz := B11.same sz
      refine kq H11 H' ⟨(((((Bd.start Bz.pen).addL (Bz.ob 8 rfl)).add stay_rowsL (Bz.at_ 7)).addL (Bz.ob 6 rfl)).addL (Bz.ob 4 rfl)).add stay_calnew (ca.from s0), B11.ob 4 rfl, B11.ob 6 rfl, B11.at_ 7, B11.ob 8 rfl⟩
    refine ⟨fun σ H' => ∃ (c : Addr) (H0 : Hp), σ = [some (.ref a), some (.ref p), some (.int (0 + (i : Int))), some (.ref q), some (.ref D), some (.ref idle), some (.ref free), some (.str due), some (.ref y), some (.ref r), some (.ref h), some (.ref c), v12, v13] ∧ Bd H' p l (1000 * i + 304) [fun H => CalNew K H0 H c (C.re rs ps), fun H => H free = some (.lst (hs0.map V.ref)), fun H => H idle = some (.lst (rs0.map V.int)), fun H => RowsL H us C.rows, fun H => H D = some (.lst (us.map V.ref))] ∧ H0 free = some (.lst (hs0.map V.ref)) ∧ H0 idle = some (.lst (rs0.map V.int)) ∧ RowsL H0 us C.rows ∧ H0 D = some (.lst (us.map V.ref)), ?_, ?_⟩
    · rfl'
      rename_i r1 H11 r10 r11 B11
      refine ite2 (fun c => ?_) (fun c => ?_)
      · rfl'
        refine ⟨dg_of (B11.ob 9 rfl) vv2, ?_⟩
        rfl'
        refine ⟨dg_of (B11.ob 9 rfl) vv3, ?_⟩
        rfl'
        intro x dx nx nd ne
        exact mk _ B11 x dx nx nd ne _ fun H0 H' z => ⟨x, H0, rfl, z⟩
      · rfl'
        refine ⟨dg_of (B11.ob 9 rfl) vv3, ?_⟩
        rfl'
        refine ⟨dg_of (B11.ob 9 rfl) vv2, ?_⟩
        rfl'
        intro x dx nx nd ne
        exact mk _ B11 x dx nx nd ne _ fun H0 H' z => ⟨x, H0, rfl, z⟩
    clear mk B10 vv2 vv3
    rintro σ H11 ⟨c, H0, rfl, B11, o1, o2, o3, o4⟩
    have ul2 : us.length = C.rows.length := by rw [ul, List.length_map, yl]
    obtain ⟨u0, us', rfl⟩ : ∃ u0 us', us = u0 :: us' := by
      cases us with
      | nil => exact absurd ok.yr.ne (by rw [← ul2]; decide)
      | cons u us => exact ⟨u, us, rfl⟩
    have mu0 : u0 ∈ u0 :: us' := List.mem_cons_self ..
    obtain ⟨r0, er0⟩ : ∃ r0, C.rows[0]? = some r0 := ⟨_, List.getElem?_eq_getElem ok.yr.ne⟩
    have lr0 : 0 < r0.length := by
      have h1 := ok.yr.eq r0 (List.mem_of_getElem? er0)
      have h2 : 0 < (C.rows.getD 0 []).length := ok.m0
      omega
    have nD2 : u0 ≠ D := (nu u0 mu0).2
    have cx : CalX K H11 c (C.re rs ps) := (B11.at_ 0 : CalNew K H0 H11 c (C.re rs ps)).at_.x
    rfl'
    rename_i H12 B12
    refine iteNS (by rw [hdue]) ?_
    obtain ⟨w0, ew0, hw0⟩ := RowsL.get (B12.at_ 3) er0
    obtain rfl : u0 = w0 := Option.some.inj ew0
    rfl'
    refine ⟨at_of (j := 0) rfl rfl, ?_⟩
    obtain ⟨w1, ew1, hw1⟩ := RowsL.get o3 er0
    obtain rfl : u0 = w1 := Option.some.inj ew1
    refine ⟨u0, r0.map natV, 0, 0, rfl, rfl, hw0, by
      unfold ixN
      rw [if_pos (by omega), if_pos (by rw [List.length_map]; omega)]
      rfl, ?_⟩
    generalize e13 : upd H12 u0 _ = H13
    have B13 := Bd.write B12 hw1 hw0 (nU u0 mu0) e13
    replace B13 := ((B13.addL (by rw [← e13, upd_ne (neF.2.2 u0 mu0).symm]; exact B12.ob 1 rfl)).addL (by rw [← e13, upd_ne (neI.2 u0 mu0).symm]; exact B12.ob 2 rfl)).addL (by rw [← e13, upd_ne nD2.symm]; exact B12.ob 4 rfl)
    clear e13 B12 hw0 B11 cx
    rfl'
    rename_i z H14 B14
    refine ⟨by rw [List.length_map, ul2, sizeLine_eq]; omega, ?_⟩
    generalize e15 : upd H14 D _ = H15
    have B15 := Bd.write (B14.last (Fs := [_, _, _, _]) (Gs := [_])) o4 (B14.ob 1 rfl) nD e15
    replace B15 := (B15.addL (by rw [← e15, upd_ne neF.1.symm]; exact B14.ob 3 rfl)).addL (by rw [← e15, upd_ne neI.1.symm]; exact B14.ob 2 rfl)
    clear e15 B14 B13
    have lrs0 : rs0.length = C.rest.length := pr0.length_eq
    have lhs0 : hs0.length = C.hol.length := by rw [ph0.length_eq, h2l]
    rfl'
    generalize e16 : upd H15 idle _ = H16
    have B16 := Bd.write (B15.last (Fs := [_, _]) (Gs := [_])) o2 (B15.ob 0 rfl) nI2 e16
    replace B16 := B16.addL (by rw [← e16, upd_ne neF.2.1.symm]; exact B15.ob 1 rfl)
    clear e16 B15
    rfl'
    rename_i t17 H17 B17
    generalize e18 : upd H17 free _ = H18
    have B18 := Bd.write (B17.last (Fs := [_, _]) (Gs := [_])) o1 (B17.ob 1 rfl) nF2 e18
    clear e18
    refine ⟨(B18.at_ 0 : CalNew K H0 H18 c (C.re rs ps)).at_.x, fun H19 s19 => ?_⟩
    have B19 := B18.same s19
    have cx19 : CalX K H19 c (C.re rs ps) := (B19.at_ 0 : CalNew K H0 H19 c (C.re rs ps)).at_.x
    rfl'
    refine iteNS (by rw [hdue]) ?_
    rfl'
    rename_i H20 B20
    refine iteNS (by rw [hdue]) ?_
    clear B19 B18 B17 B16 cx19 s19
    have B21 := B20.last (Fs := [_]) (Gs := [])
    clear B20
    rfl'
    rename_i r1 H22 r10 r11 B22 q1 H23 B23 q2 H24 B24
    intro x dx nx nd ne
    obtain ⟨m, hm⟩ : ∃ m : Nat, natV m = V.int (1 + r1) := ⟨(1 + r1).toNat, congrArg V.int (by omega)⟩
    have hm2 := V.int.inj hm
    have ok1 := oneC_ok (m := m) (by omega) (by omega)
    have wk1 := oneC_works (m := m) (by omega) (by omega)
    have s0 : Same H24 (upd (upd H24 dx (.own x)) x (.ins (CA K) dx [])) := fun b u e => by
      rw [upd_ne (ne_of_none e nx), upd_ne (ne_of_none e nd)]
      exact e
    have B0 := B24.same s0
    refine ⟨x, dx, q2, _, _, [q1], [], oneC m, rfl, upd_same, .inl (B0.ob 0 rfl), .cons (.inl (by rw [show ([m] : List Nat).map natV = [V.int (1 + r1)] by rw [← hm]; rfl]; exact B0.ob 1 rfl)) .nil, .inr (SqT.seqK fun H => T.kw_init_rest H), .inr (SqT.seqK fun H => T.kw_init_holidays H), .nil, ok1, wk1, fun rs' ps' H25 p1 pw1 p2 pw2 ca kx => ⟨rfl, ?_⟩⟩
    obtain rfl : rs' = [] := p1.eq_nil
    obtain rfl : ps' = [] := p2.eq_nil
    have B25 := (Bd.start B24.pen).same (fun b u e => kx b u (s0 b u e) (ne_of_none e nx) : Same H24 H25)
    have cx : CalX K H25 x (oneC m) := ca.at_.x
    obtain ⟨due1, hdue1⟩ : ∃ due1, (calD (oneC m)).shown = due1 := ⟨_, rfl⟩
    clear B24 B23 B22 B21 B0 s0 nx nd kx ca
    refine ⟨x, oneC m, rfl, cx, fun H26 s26 => ?_⟩
    rw [hdue1]
    have B26 := B25.same s26
    rfl'
    rename_i q3 H27 B27 q4 H28 B28 q5 H29 B29 q6 H30 B30
    refine ⟨q4, q5, q6, [q3], [], oneC m, rfl, B30.ob 2 rfl, .cons (by rw [show ([m] : List Nat).map natV = [V.int (1 + r1)] by rw [← hm]; rfl]; exact B30.ob 3 rfl) .nil, B30.ob 1 rfl, B30.ob 0 rfl, .nil, ok1, fun qq H31 s31 nq pl1 => ?_⟩
    refine ⟨qq, oneC m, rfl, pl1, fun rs2 ps2 H32 s32 e1 e2 e3 e4 => ?_⟩
    obtain rfl : rs2 = [] := e1.eq_nil
    obtain rfl : ps2 = [] := e3.eq_nil
    rw [show (oneC m).re [] [] = oneC m from rfl, hdue1]
    have B32 := B30.same (s31.trans s32)
    rfl'
    refine iteNS rfl ?_
    exact ⟨_, _, _, _, _, _, _, _, _, _, _, _, rfl, B32.pen.mono (by omega)⟩
  · rintro σ H' ⟨v2, v3, v4, v5, v6, v7, v8, v9, v10, v11, v12, v13, rfl, hp'⟩
    exact k H'
end
end Lw

set_option maxHeartbeats 0

open PySem PySem.W PySem.Calls PyProof.Rows
theorem PySem.Challenge.cw_dayrecipes_k01_calendars_made_holds : PySem.Challenge.rw_dayrecipes_k01_calendars_made.Holds := by
  w_on; o_law
  refine HandSHeadRun.head_any (r := OpenLaw.row PySem.Challenge.rw_dayrecipes_k01_calendars_made) (q := view (OpenLaw.row PySem.Challenge.rw_dayrecipes_k01_calendars_made).prog [47]) (H := Hd.hk) (ob := Hd.ob) (M := 20000) (loose := Hd.loose) (d := HandSHeadRun.topDef (OpenLaw.row PySem.Challenge.rw_dayrecipes_k01_calendars_made).prog 47) (kwd := []) Hd.ob_eq
    (by kernel_rfl) (fun s => by kernel_rfl) Hd.run (by kernel_rfl) (by kernel_rfl) (by kernel_rfl) (by rfl) (by first | assumption | decide +kernel) (by decide +kernel) ⟨rfl, rfl, rfl, rfl, rfl, by decide +kernel⟩ ?hw ?hc
  case hw => w_witness2
  case hc =>
    refine My.walkG (l := PySem.Challenge.rw_dayrecipes_k01_calendars_made) (n := 63) (k := 10) rfl (by decide) (by kernel_rfl) ⟨rfl, by decide, by decide⟩ ?F
    intro w mg fa h Y G hmg0
    obtain ⟨K, KX, c⟩ := Y
    have hmg : mg ("law" : PySem.Str) = some (.ref fa) := by
      have e : (HandSHeadRun.topDef (OpenLaw.row PySem.Challenge.rw_dayrecipes_k01_calendars_made).prog 47).name = ("law" : PySem.Str) := by kernel_rfl
      rw [← e]
      exact hmg0
    have T : Lw.Tx K mg := ⟨⟨h, KX, G⟩, c⟩
    cases hmg.symm.trans T.g_law
    exact ⟨K, KX, Lw.ok_law (P := (PySem.Challenge.rw_dayrecipes_k01_calendars_made).prog) (w := w) T⟩
