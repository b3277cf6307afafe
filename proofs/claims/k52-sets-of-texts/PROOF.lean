import PyProof.Rows.All
import Wide.All
import OpenK.AllK
import Wide.FinOn
import HandS.ForMost
import HandS.IsInst
import HandS.Property
import HandS.ClsMeth
import HandS.Star
import HandS.SlotsOwn
import HandS.NoneIn
import HandS.TupMul
import HandS.Conv
import HandS.RaiseMore
import HandS.Walk
import HandS.Style
import HandS.HeadNt
import HandS.HeadEnd
import HandS.Head2
import PyProof.ReprRoads
import HandS.FStrTup
import KE.GoesMore
import KE.GoesEnum
import HandS.Iter
import KE.KOpsOwn
import HandS.Wide
import HandS.MakeKwOnly
import PyProof.LongRange
import HandS.Zip
import HandS.SetFor
import HandS.DictComp
import HandS.Records
import KE.KDictZip
import PyProof.Draws
import KE.GoesZip
import PyProof.Rows.Range3
import HandS.More
import HandS.SetBool
import HandS.Strs
import HandS.SortInts
import HandS.Text
import HandS.Exc
import HandS.ExcIs
import HandS.ExcField
import HandS.ExcValue
import KE.KExcIs
import HandS.ExcInit
import HandS.SortKw
import PyProof.WalkInts
import KE.KMinKey
import KE.KExcInit
import HandS.Lambda
import KE.LtSeq
import KE.LtData
import KE.KSortAsk
import HandS.NamedTupSort
import PyProof.MaxThree
import KE.KStateDown
import PySem.Challenge.RW_dayrecipes_k52_whole_sets_of_texts
import HandS.TupAny
import HandS.TupSets
import HandS.Deep
import PyProof.TupleOfSeq
import PyProof.DictUpdate
import HandS.MakeKw
import HandS.FStr
import HandS.StrMore
import HandS.Codes
import KE.IntTextLaws
import PyProof.SumWalk
import PyProof.Rows.SeqMore
import HandS.FltList
set_option Elab.async false
set_option linter.all false
set_option maxRecDepth 100000
set_option maxHeartbeats 40000000
namespace My
structure Wg (α : Type) where
  n : Bool
instance wgCoe : Coe Bool (Wg Nat) := ⟨fun n => ⟨n⟩⟩
inductive Qz : Prop
theorem gz (f : False) {α : Type} (_ : α) (_ : Wg α) : False := f
structure Bx (p : Prop) : Prop where
  h : p
theorem two {p : Prop} (h : (p → p) → Bx p) (_ : False → Qz) : p := (h id).h
theorem mkB {p : Prop} (_ : p → p) (h : p) : Bx p := ⟨h⟩
end My
namespace My
/-- f repeats with d -/
def Per (f : Int → Int) (d : Nat) : Prop := ∀ x : Int, f (x + (d : Int)) = f x
theorem Per.zero {f : Int → Int} : Per f 0 := fun x => by simp
theorem Per.mulN {f : Int → Int} {d : Nat} (h : Per f d) (k : Nat) : Per f (d * k) := by
  apply My.two; (focus intro zzI; simp only [↓ My.mkB zzI (by
  clear zzI
  induction k with
  | zero => intro x; simp
  | succ k ih =>
    intro x
    have e : x + ((d * (k + 1) : Nat) : Int) = (x + ((d * k : Nat) : Int)) + (d : Int) := by
      rw [Nat.mul_succ]; omega
    rw [e, h, ih]
  )]); intro f; simpa using My.gz f 5 true
theorem Per.dvd {f : Int → Int} {d e : Nat} (h : Per f d) (hd : d ∣ e) : Per f e := by
  obtain ⟨k, rfl⟩ := hd
  exact h.mulN k
theorem Per.back {f : Int → Int} {d : Nat} (h : Per f d) (x : Int) : f (x - (d : Int)) = f x := by
  apply My.two; (focus intro zzI; simp only [↓ My.mkB zzI (by
  clear zzI
  have := h (x - d)
  rw [Int.sub_add_cancel] at this
  exact this.symm
  )]); intro f; simpa using My.gz f 5 true
theorem Per.mulI {f : Int → Int} {d : Nat} (h : Per f d) (x k : Int) : f (x + (d : Int) * k) = f x := by
  apply My.two; (focus intro zzI; simp only [↓ My.mkB zzI (by
  clear zzI
  rcases Int.le_total 0 k with hk | hk
  · have e := h.mulN k.toNat x
    have e2 : ((d * k.toNat : Nat) : Int) = (d : Int) * k := by
      rw [Int.natCast_mul, Int.toNat_of_nonneg hk]
    rw [e2] at e
    exact e
  · have e := (h.mulN (-k).toNat).back x
    have e2 : ((d * (-k).toNat : Nat) : Int) = -((d : Int) * k) := by
      rw [Int.natCast_mul, Int.toNat_of_nonneg (by omega), Int.mul_neg]
    rw [e2] at e
    have e3 : x - -((d : Int) * k) = x + (d : Int) * k := by omega
    rw [e3] at e
    exact e
  )]); intro f; simpa using My.gz f 5 true
theorem Per.emod {f : Int → Int} {d : Nat} (h : Per f d) (x : Int) : f (x % (d : Int)) = f x := by
  apply My.two; (focus intro zzI; simp only [↓ My.mkB zzI (by
  clear zzI
  have e := h.mulI (x % (d : Int)) (x / (d : Int))
  rw [Int.emod_add_mul_ediv] at e
  exact e.symm
  )]); intro f; simpa using My.gz f 5 true
theorem Per.mod {f : Int → Int} {a b : Nat} (ha : Per f a) (hb : Per f b) : Per f (a % b) := by
  apply My.two; (focus intro zzI; simp only [↓ My.mkB zzI (by
  clear zzI
  intro x
  have e : x + (a : Int) = (x + ((a % b : Nat) : Int)) + (b : Int) * ((a / b : Nat) : Int) := by
    have := Nat.mod_add_div a b
    have h2 : ((a % b + b * (a / b) : Nat) : Int) = (a : Int) := by rw [this]
    rw [Int.natCast_add, Int.natCast_mul] at h2
    omega
  have h1 := ha x
  rw [e, hb.mulI] at h1
  exact h1
  )]); intro f; simpa using My.gz f 5 true
theorem Per.gcd {f : Int → Int} (a b : Nat) : Per f a → Per f b → Per f (Nat.gcd a b) := by
  apply My.two; (focus intro zzI; simp only [↓ My.mkB zzI (by
  clear zzI
  induction a, b using Nat.gcd.induction with
  | H0 n => intro _ hb; rw [Nat.gcd_zero_left]; exact hb
  | H1 m n hm ih =>
    intro ha hb
    rw [Nat.gcd_rec]
    exact ih (hb.mod ha) ha
  )]); intro f; simpa using My.gz f 5 true
/-- n days from day 0 on -/
def tab (n : Nat) (f : Int → Int) : List Int := (List.range n).map fun (i : Nat) => f (i : Int)
theorem tab_length {n : Nat} {f : Int → Int} : (tab n f).length = n := by simp [tab]
theorem tab_get {n i : Nat} {f : Int → Int} (h : i < n) : (tab n f)[i]? = some (f (i : Int)) := by
  simp [tab, h]
/-- the offset of a list at a date -/
def off (r : List Int) (x : Int) : Int := r.getD (x % (r.length : Int)).toNat 0
theorem off_get {r : List Int} (h : 0 < r.length) (x : Int) : r[(x % (r.length : Int)).toNat]? = some (off r x) := by
  apply My.two; (focus intro zzI; simp only [↓ My.mkB zzI (by
  clear zzI
  have h1 : 0 ≤ x % (r.length : Int) := Int.emod_nonneg _ (by omega)
  have h2 : x % (r.length : Int) < r.length := Int.emod_lt_of_pos _ (by omega)
  have h3 : (x % (r.length : Int)).toNat < r.length := by omega
  unfold off
  rw [List.getD_eq_getElem?_getD, List.getElem?_eq_getElem h3]
  rfl
  )]); intro f; simpa using My.gz f 5 true
theorem off_per {r : List Int} : Per (off r) r.length := by
  apply My.two; (focus intro zzI; simp only [↓ My.mkB zzI (by
  clear zzI
  intro x
  unfold off
  rw [Int.add_emod_right]
  )]); intro f; simpa using My.gz f 5 true
theorem off_nat {r : List Int} {i : Nat} (h : i < r.length) : r[i]? = some (off r (i : Int)) := by
  apply My.two; (focus intro zzI; simp only [↓ My.mkB zzI (by
  clear zzI
  have e := off_get (by omega) (i : Int) (r := r)
  rw [Int.emod_eq_of_lt (by omega) (by omega)] at e
  simpa using e
  )]); intro f; simpa using My.gz f 5 true
theorem tab_off (r : List Int) : tab r.length (off r) = r := by
  apply My.two; (focus intro zzI; simp only [↓ My.mkB zzI (by
  clear zzI
  apply List.ext_getElem?
  intro i
  by_cases h : i < r.length
  · rw [tab_get h, off_nat h]
  · rw [List.getElem?_eq_none (by rw [tab_length]; omega), List.getElem?_eq_none (by omega)]
  )]); intro f; simpa using My.gz f 5 true
theorem off_tab {n : Nat} {f : Int → Int} (hn : 0 < n) (h : Per f n) : off (tab n f) = f := by
  apply My.two; (focus intro zzI; simp only [↓ My.mkB zzI (by
  clear zzI
  funext x
  have e := off_get (r := tab n f) (by rw [tab_length]; exact hn) x
  rw [tab_length] at e
  have h1 : 0 ≤ x % (n : Int) := Int.emod_nonneg _ (by omega)
  have h2 : x % (n : Int) < n := Int.emod_lt_of_pos _ (by omega)
  rw [tab_get (by omega), Int.toNat_of_nonneg h1, h.emod] at e
  exact (Option.some.inj e).symm
  )]); intro f; simpa using My.gz f 5 true
theorem tab_take {n d : Nat} {f : Int → Int} (h : d ≤ n) : (tab n f).take d = tab d f := by
  unfold tab
  rw [← List.map_take, List.take_range, Nat.min_eq_left h]
/-- d is the least period -/
structure Least (f : Int → Int) (d : Nat) : Prop where
  pos : 0 < d
  per : Per f d
  dvd : ∀ e : Nat, 0 < e → Per f e → d ∣ e
theorem Least.uniq {f : Int → Int} {d e : Nat} (a : Least f d) (b : Least f e) : d = e :=
  Nat.dvd_antisymm (a.dvd e b.pos b.per) (b.dvd d a.pos a.per)
/-- rows stand for f with its least period -/
structure Rows (f : Int → Int) (r : List Int) : Prop where
  least : Least f r.length
  eq : r = tab r.length f
theorem Rows.off {f : Int → Int} {r : List Int} (h : Rows f r) : off r = f := by
  apply My.two; (focus intro zzI; simp only [↓ My.mkB zzI (by
  clear zzI
  have e := h.eq
  generalize r.length = n at e h
  exact Eq.trans (congrArg My.off e) (off_tab (by
    have := h.least.pos
    have e2 := congrArg List.length e
    rw [tab_length] at e2
    omega) (by
    have := h.least.per
    have e2 := congrArg List.length e
    rw [tab_length] at e2
    rw [← e2]; exact this))
  )]); intro f; simpa using My.gz f 5 true
theorem Rows.eq_iff {f g : Int → Int} {r q : List Int} (a : Rows f r) (b : Rows g q) : r = q ↔ f = g := by
  apply My.two; (focus intro zzI; simp only [↓ My.mkB zzI (by
  clear zzI
  constructor
  · intro e
    rw [← a.off, ← b.off, e]
  · intro e
    subst e
    rw [a.eq, b.eq, a.least.uniq b.least]
  )]); intro f; simpa using My.gz f 5 true
theorem Rows.of_least {r : List Int} {d : Nat} (hd : Least (My.off r) d) (hr : 0 < r.length) : Rows (My.off r) (r.take d) ∧ (r.take d).length = d := by
  apply My.two; (focus intro zzI; simp only [↓ My.mkB zzI (by
  clear zzI
  have hdl : d ≤ r.length := Nat.le_of_dvd hr (hd.dvd r.length hr off_per)
  have e : r.take d = tab d (My.off r) := by
    have e1 := tab_off r
    have e2 := tab_take (f := My.off r) hdl
    rw [e1] at e2
    exact e2
  have el : (r.take d).length = d := by rw [List.length_take]; omega
  exact ⟨⟨by rw [el]; exact hd, by rw [el]; exact e⟩, el⟩
  )]); intro f; simpa using My.gz f 5 true
theorem rep_per {r : List Int} {d : Nat} (hd : 0 < d) (hdv : d ∣ r.length) (h : r.drop d = r.take (r.length - d)) : Per (off r) d := by
  apply My.two; (focus intro zzI; simp only [↓ My.mkB zzI (by
  clear zzI
  by_cases hr : r.length = 0
  · intro x
    have : r = [] := List.length_eq_zero_iff.mp hr
    subst this
    simp [off]
  have hn : 0 < r.length := by omega
  have hle : d ≤ r.length := Nat.le_of_dvd hn hdv
  have step : ∀ i : Nat, i + d < r.length → off r ((i : Int) + d) = off r (i : Int) := by
    intro i hi
    have e1 : (r.drop d)[i]? = r[i + d]? := by rw [List.getElem?_drop, Nat.add_comm]
    have e2 : (r.take (r.length - d))[i]? = r[i]? := List.getElem?_take_of_lt (by omega)
    rw [h, e2, off_nat (by omega), off_nat (by omega)] at e1
    have := Option.some.inj e1
    rw [this]
    simp
  have low : ∀ (k i : Nat), i < d → i + d * k < r.length → off r ((i : Int) + ((d * k : Nat) : Int)) = off r (i : Int) := by
    intro k
    induction k with
    | zero => intro i _ _; simp
    | succ k ih =>
      intro i hi hk
      have hk' : i + d * k + d < r.length := by rw [Nat.mul_succ] at hk; omega
      have s := step (i + d * k) hk'
      have e : (i : Int) + ((d * (k + 1) : Nat) : Int) = ((i + d * k : Nat) : Int) + (d : Int) := by
        rw [Nat.mul_succ]; omega
      rw [e, s]
      have := ih i hi (by omega)
      rw [← this]
      congr 1
  have red : ∀ i : Nat, i < r.length → off r (i : Int) = off r ((i % d : Nat) : Int) := by
    intro i hi
    have hm : i % d < d := Nat.mod_lt _ hd
    have e := Nat.mod_add_div i d
    have := low (i / d) (i % d) hm (by omega)
    rw [← this]
    congr 1
    omega
  have all : ∀ x : Int, off r x = off r (x % (d : Int)) := by
    intro x
    have h1 : 0 ≤ x % (r.length : Int) := Int.emod_nonneg _ (by omega)
    have h2 : x % (r.length : Int) < r.length := Int.emod_lt_of_pos _ (by omega)
    have e1 : off r x = off r (x % (r.length : Int)) := (off_per.emod x).symm
    have e2 := red (x % (r.length : Int)).toNat (by omega)
    rw [Int.toNat_of_nonneg h1] at e2
    rw [e1, e2]
    have e3 : (((x % (r.length : Int)).toNat % d : Nat) : Int) = x % (d : Int) := by
      rw [Int.natCast_emod, Int.toNat_of_nonneg h1]
      exact Int.emod_emod_of_dvd x (Int.natCast_dvd_natCast.mpr hdv)
    rw [e3]
  intro x
  rw [all, all x, Int.add_emod_right]
  )]); intro f; simpa using My.gz f 5 true
theorem per_rep {r : List Int} {d : Nat} (hle : d ≤ r.length) (h : Per (off r) d) : r.drop d = r.take (r.length - d) := by
  apply My.two; (focus intro zzI; simp only [↓ My.mkB zzI (by
  clear zzI
  apply List.ext_getElem?
  intro i
  by_cases hi : i + d < r.length
  · rw [List.getElem?_drop, Nat.add_comm, List.getElem?_take_of_lt (by omega), off_nat hi, off_nat (by omega)]
    have := h (i : Int)
    rw [← this]
    simp
  · rw [List.getElem?_eq_none (by rw [List.length_drop]; omega), List.getElem?_eq_none (by rw [List.length_take]; omega)]
  )]); intro f; simpa using My.gz f 5 true
structure LpInv (f : Int → Int) (n found rest prime : Nat) : Prop where
  rpos : 0 < rest
  rdv : rest ∣ found
  fdv : found ∣ n
  fpos : 0 < found
  per : Per f found
  p2 : 2 ≤ prime
  low : ∀ q, 2 ≤ q → q < prime → ¬ q ∣ rest
  goal : ∀ g, 0 < g → Per f g → found ∣ g * rest
  ple : 1 < rest → prime ≤ rest
theorem LpInv.start {f : Int → Int} {n : Nat} (hn : 0 < n) (h : Per f n) : LpInv f n n n 2 :=
  ⟨hn, Nat.dvd_refl _, Nat.dvd_refl _, hn, h, Nat.le_refl _, fun q h1 h2 => by omega, fun g _ _ => Nat.dvd_mul_left _ _, fun h => h⟩
theorem LpInv.done {f : Int → Int} {n found rest prime : Nat} (I : LpInv f n found rest prime) (h : ¬ 1 < rest) : Least f found := by
  apply My.two; (focus intro zzI; simp only [↓ My.mkB zzI (by
  clear zzI
  have e : rest = 1 := by have := I.rpos; omega
  subst e
  exact ⟨I.fpos, I.per, fun e he hp => by have := I.goal e he hp; rw [Nat.mul_one] at this; exact this⟩
  )]); intro f; simpa using My.gz f 5 true
section
variable {f : Int → Int} {n found rest prime : Nat}
theorem LpInv.div_low (I : LpInv f n found rest prime) (hd : prime ∣ rest) : ∀ q, 2 ≤ q → q < prime → ¬ q ∣ rest / prime := by
  intro q h1 h2 h3
  exact I.low q h1 h2 (Nat.dvd_trans h3 (Nat.div_dvd_of_dvd hd))
theorem LpInv.ple' (I : LpInv f n found rest prime) (hd : prime ∣ rest) : 1 < rest / prime → prime ≤ rest / prime := by
  apply My.two; (focus intro zzI; simp only [↓ My.mkB zzI (by
  clear zzI
  intro h1
  rcases Nat.lt_or_ge (rest / prime) prime with h | h
  · exact absurd (Nat.dvd_refl _) (I.div_low hd (rest / prime) (by omega) h)
  · exact h
  )]); intro f; simpa using My.gz f 5 true
theorem LpInv.yes (I : LpInv f n found rest prime) (hd : prime ∣ rest) (hp : Per f (found / prime)) : LpInv f n (found / prime) (rest / prime) prime := by
  apply My.two; (focus intro zzI; simp only [↓ My.mkB zzI (by
  clear zzI
  have p2 := I.p2
  have hpf : prime ∣ found := Nat.dvd_trans hd I.rdv
  obtain ⟨r', rfl⟩ := hd
  obtain ⟨f', rfl⟩ := hpf
  have pp : 0 < prime := by omega
  have er : prime * r' / prime = r' := Nat.mul_div_cancel_left _ pp
  have ef : prime * f' / prime = f' := Nat.mul_div_cancel_left _ pp
  have hl := I.div_low (Nat.dvd_mul_right _ _)
  have hple := I.ple' (Nat.dvd_mul_right _ _)
  rw [er] at hl hple ⊢
  rw [ef] at hp ⊢
  refine ⟨?_, ?_, ?_, ?_, hp, p2, hl, ?_, hple⟩
  · exact Nat.pos_of_ne_zero fun e => by have := I.rpos; rw [e] at this; simp at this
  · exact Nat.dvd_of_mul_dvd_mul_left pp I.rdv
  · exact Nat.dvd_trans (Nat.dvd_mul_left _ _) I.fdv
  · exact Nat.pos_of_ne_zero fun e => by have := I.fpos; rw [e] at this; simp at this
  · intro g h1 h2
    have := I.goal g h1 h2
    rw [show g * (prime * r') = prime * (g * r') by rw [Nat.mul_left_comm]] at this
    exact Nat.dvd_of_mul_dvd_mul_left pp this
  )]); intro f; simpa using My.gz f 5 true
theorem LpInv.no (I : LpInv f n found rest prime) (hd : prime ∣ rest) (hp : ¬ Per f (found / prime)) : LpInv f n found (rest / prime) prime := by
  apply My.two; (focus intro zzI; simp only [↓ My.mkB zzI (by
  clear zzI
  have p2 := I.p2
  have hpf : prime ∣ found := Nat.dvd_trans hd I.rdv
  have hl := I.div_low hd
  have hple := I.ple' hd
  have rdv' : rest / prime ∣ found := Nat.dvd_trans (Nat.div_dvd_of_dvd hd) I.rdv
  have rpos' : 0 < rest / prime := Nat.div_pos (Nat.le_of_dvd I.rpos hd) (by omega)
  refine ⟨rpos', rdv', I.fdv, I.fpos, I.per, p2, hl, ?_, hple⟩
  intro g h1 h2
  have hg' : Per f (Nat.gcd g found) := Per.gcd g found h2 I.per
  have hgp : 0 < Nat.gcd g found := Nat.gcd_pos_of_pos_left _ h1
  have hgd : Nat.gcd g found ∣ found := Nat.gcd_dvd_right _ _
  have hgg : Nat.gcd g found ∣ g := Nat.gcd_dvd_left _ _
  generalize Nat.gcd g found = c at hg' hgp hgd hgg
  obtain ⟨m, hm⟩ := hgd
  have hmr : m ∣ rest := by
    have := I.goal c hgp hg'
    rw [hm] at this
    exact Nat.dvd_of_mul_dvd_mul_left hgp this
  have hpm : ¬ prime ∣ m := by
    rintro ⟨m', hm'⟩
    apply hp
    have e : found / prime = c * m' := by
      rw [hm, hm', Nat.mul_left_comm]
      exact Nat.mul_div_cancel_left _ (by omega)
    rw [e]
    exact hg'.mulN m'
  have cop : Nat.gcd m prime = 1 := by
    have d1 : Nat.gcd m prime ∣ m := Nat.gcd_dvd_left _ _
    have d2 : Nat.gcd m prime ∣ prime := Nat.gcd_dvd_right _ _
    have pos : 0 < Nat.gcd m prime := Nat.gcd_pos_of_pos_right _ (by omega)
    have le : Nat.gcd m prime ≤ prime := Nat.le_of_dvd (by omega) d2
    rcases Nat.lt_or_ge (Nat.gcd m prime) 2 with h | h
    · omega
    · rcases Nat.lt_or_ge (Nat.gcd m prime) prime with h3 | h3
      · exact absurd (Nat.dvd_trans d1 hmr) (I.low _ h h3)
      · have e : Nat.gcd m prime = prime := by omega
        rw [e] at d1
        exact absurd d1 hpm
  have hm2 : m ∣ rest / prime := by
    obtain ⟨r', hr'⟩ := hd
    have er : rest / prime = r' := by rw [hr']; exact Nat.mul_div_cancel_left _ (by omega)
    rw [er]
    rw [hr'] at hmr
    exact Nat.Coprime.dvd_of_dvd_mul_left cop hmr
  rw [hm]
  exact Nat.dvd_trans (Nat.mul_dvd_mul_left c hm2) (Nat.mul_dvd_mul_right hgg _)
  )]); intro f; simpa using My.gz f 5 true
theorem LpInv.next (I : LpInv f n found rest prime) (h1 : 1 < rest) (hd : ¬ prime ∣ rest) (hs : prime * prime ≤ rest) : LpInv f n found rest (prime + 1) :=
  ⟨I.rpos, I.rdv, I.fdv, I.fpos, I.per, by have := I.p2; omega, fun q h2 h3 h4 => by
    rcases Nat.lt_or_ge q prime with h | h
    · exact I.low q h2 h h4
    · have e : q = prime := by omega
      rw [e] at h4; exact hd h4, I.goal, fun _ => by
    have h2 := I.p2
    have h3 : prime * 2 ≤ prime * prime := Nat.mul_le_mul_left _ h2
    omega⟩
theorem LpInv.jump (I : LpInv f n found rest prime) (h1 : 1 < rest) (hd : ¬ prime ∣ rest) (hs : ¬ prime * prime ≤ rest) : LpInv f n found rest rest :=
  ⟨I.rpos, I.rdv, I.fdv, I.fpos, I.per, h1, fun q h2 h3 h4 => by
    rcases Nat.lt_or_ge q prime with h | h
    · exact I.low q h2 h h4
    · rcases Nat.eq_or_lt_of_le h with e | e
      · rw [← e] at h4; exact hd h4
      · obtain ⟨c, hc⟩ := h4
        have hc2 : 2 ≤ c := by
          rcases Nat.lt_or_ge c 2 with h5 | h5
          · have : c = 0 ∨ c = 1 := by omega
            rcases this with e | e
            · rw [e] at hc; omega
            · rw [e] at hc; omega
          · exact h5
        have hcp : c < prime := by
          rcases Nat.lt_or_ge c prime with h5 | h5
          · exact h5
          · have : prime * prime ≤ q * c := Nat.mul_le_mul (by omega) h5
            omega
        exact I.low c hc2 hcp ⟨q, by rw [Nat.mul_comm]; exact hc⟩, I.goal, fun _ => Nat.le_refl _⟩
end
theorem map_erase {α β : Type} (f : α → β) : ∀ (xs : List α) (k : Nat), (xs.map f).eraseIdx k = (xs.eraseIdx k).map f
  | [], k => by simp
  | x :: xs, 0 => by simp
  | x :: xs, k + 1 => by simp [map_erase f xs k]
theorem erase_perm {α : Type} : ∀ (xs : List α) (k : Nat) (h : k < xs.length), (xs[k] :: xs.eraseIdx k).Perm xs
  | [], k, h => absurd h (by simp)
  | x :: xs, 0, h => by simp
  | x :: xs, k + 1, h => by
    apply My.two; (focus intro zzI; simp only [↓ My.mkB zzI (by
    clear zzI
    have ih := erase_perm xs k (by simpa using h)
    simp only [List.getElem_cons_succ, List.eraseIdx_cons_succ]
    exact (List.Perm.swap x _ _).trans (ih.cons x)
    )]); intro f; simpa using My.gz f 5 true
end My
namespace My
def Rising (f : Int → Int) : Prop := ∀ x : Int, x + f x ≤ (x + 1) + f (x + 1)
end My
namespace My
/-- one after the other -/
def thn2 (f g : Int → Int) : Int → Int := fun x => f x + g (x + f x)
theorem thn2_assoc (f g h : Int → Int) : thn2 (thn2 f g) h = thn2 f (thn2 g h) := by
  apply My.two; (focus intro zzI; simp only [↓ My.mkB zzI (by
  clear zzI
  funext x
  show f x + g (x + f x) + h (x + (f x + g (x + f x))) = f x + (g (x + f x) + h (x + f x + g (x + f x)))
  rw [Int.add_assoc, Int.add_assoc]
  )]); intro f; simpa using My.gz f 5 true
theorem thn2_idr (f : Int → Int) : thn2 f (fun _ => 0) = f := by
  apply My.two; (focus intro zzI; simp only [↓ My.mkB zzI (by
  clear zzI
  funext x
  show f x + 0 = f x
  rw [Int.add_zero]
  )]); intro f; simpa using My.gz f 5 true
theorem per_thn2 {f g : Int → Int} {n : Nat} (hf : Per f n) (hg : Per g n) : Per (thn2 f g) n := fun x => by
  show f (x + n) + g (x + n + f (x + n)) = f x + g (x + f x)
  rw [hf x, show x + (n : Int) + f x = x + f x + (n : Int) by omega, hg]
theorem off_at {r : List Int} {x v : Int} {i : Nat} (h0 : 0 < r.length) (hi : (i : Int) = x % (r.length : Int)) (hv : r[i]? = some v) : off r x = v := by
  apply My.two; (focus intro zzI; simp only [↓ My.mkB zzI (by
  clear zzI
  have e := off_get h0 x
  rw [← hi, Int.toNat_natCast, hv] at e
  exact (Option.some.inj e).symm
  )]); intro f; simpa using My.gz f 5 true
theorem mod_of {x d g : Int} (h0 : 0 ≤ g) (h1 : g < d) (k : Int) (e : x = g + d * k) : g = x % d := by
  rw [e, Int.add_mul_emod_self_left, Int.emod_eq_of_lt h0 h1]
/-- rows r and back rows q over goals gs -/
structure Back (d : Nat) (gs r q : List Int) : Prop where
  d0 : 0 < d
  gl : gs.length = d
  rl : r.length = d
  ql : q.length = d
  nd : gs.Nodup
  gb : ∀ v ∈ gs, 0 ≤ v ∧ v < (d : Int)
  rr : ∀ (i : Nat) (g : Int), gs[i]? = some g → ∃ c : Int, r[i]? = some (g - (i : Int) + (d : Int) * c)
  qq : ∀ j : Nat, j < d → ∃ (i : Nat) (v : Int), gs[i]? = some (j : Int) ∧ r[i]? = some v ∧ q[j]? = some (0 - v)
theorem nodup_get {α : Type} {l : List α} (h : l.Nodup) {i j : Nat} {x : α} (hi : l[i]? = some x) (hj : l[j]? = some x) : i = j := by
  apply My.two; (focus intro zzI; simp only [↓ My.mkB zzI (by
  clear zzI
  obtain ⟨h1, e1⟩ := List.getElem?_eq_some_iff.mp hi
  obtain ⟨h2, e2⟩ := List.getElem?_eq_some_iff.mp hj
  exact (List.getElem_inj h).mp (e1.trans e2.symm)
  )]); intro f; simpa using My.gz f 5 true
theorem Back.back {d : Nat} {gs r q : List Int} (B : Back d gs r q) : thn2 (off q) (off r) = fun _ => 0 := by
  apply My.two; (focus intro zzI; simp only [↓ My.mkB zzI (by
  clear zzI
  funext x
  have d0 := B.d0
  have rl := B.rl
  have ql := B.ql
  have m0 := Int.emod_nonneg x (show (d : Int) ≠ 0 by omega)
  have m1 := Int.emod_lt_of_pos x (show (0 : Int) < (d : Int) by omega)
  have dm := Int.emod_add_mul_ediv x (d : Int)
  obtain ⟨j, hj⟩ : ∃ j : Nat, (j : Int) = x % (d : Int) := ⟨(x % (d : Int)).toNat, by omega⟩
  obtain ⟨i, v, h1, h2, h3⟩ := B.qq j (by omega)
  obtain ⟨c, hc⟩ := B.rr i _ h1
  rw [hc] at h2
  have ev : (j : Int) - (i : Int) + (d : Int) * c = v := Option.some.inj h2
  have il : i < gs.length := (List.getElem?_eq_some_iff.mp h1).1
  have il2 : i < d := by rw [B.gl] at il; exact il
  have e1 : off q x = 0 - v := off_at (by omega) (by rw [ql]; exact hj) h3
  have e2 : off r (x + off q x) = v := by
    rw [← ev]
    refine off_at (by omega) ?_ hc
    rw [rl]
    refine mod_of (by omega) (by omega) (x / (d : Int) - c) ?_
    rw [e1, Int.mul_sub]
    omega
  show off q x + off r (x + off q x) = 0
  rw [e2, e1]
  omega
  )]); intro f; simpa using My.gz f 5 true
end My
namespace My
def pw (f : Int → Int) : Nat → Int → Int
  | 0 => fun _ => 0
  | n + 1 => thn2 (pw f n) f
theorem pw_add (f : Int → Int) (a : Nat) : ∀ b, pw f (a + b) = thn2 (pw f a) (pw f b)
  | 0 => (thn2_idr _).symm
  | b + 1 => by
    show thn2 (pw f (a + b)) f = thn2 (pw f a) (thn2 (pw f b) f)
    rw [pw_add f a b, thn2_assoc]
theorem per_pw {f : Int → Int} {n : Nat} (h : Per f n) : ∀ k, Per (pw f k) n
  | 0 => fun _ => rfl
  | k + 1 => per_thn2 (per_pw h k) h
theorem tab_add (a b : Nat) (f : Int → Int) : tab (a + b) f = tab a f ++ tab b (fun x => f ((a : Int) + x)) := by
  apply My.two; (focus intro zzI; simp only [↓ My.mkB zzI (by
  clear zzI
  unfold tab
  rw [List.range_add, List.map_append, List.map_map]
  congr 1
  )]); intro f; simpa using My.gz f 5 true
theorem rep_tab {d : Nat} {f : Int → Int} (h : Per f d) : ∀ k : Nat, (List.replicate k (tab d f)).flatten = tab (d * k) f
  | 0 => rfl
  | k + 1 => by
    apply My.two; (focus intro zzI; simp only [↓ My.mkB zzI (by
    clear zzI
    rw [List.replicate_succ, List.flatten_cons, rep_tab h k, Nat.mul_succ, Nat.add_comm (d * k) d, tab_add]
    congr 1
    refine congrArg (tab (d * k)) ?_
    funext x
    rw [Int.add_comm]
    exact (h x).symm
    )]); intro f; simpa using My.gz f 5 true
theorem rep_iff {r : List Int} {d k : Nat} (hd : 0 < d) (hk : 0 < k) (e : r.length = d * k) : r = (List.replicate k (r.take d)).flatten ↔ Per (off r) d := by
  apply My.two; (focus intro zzI; simp only [↓ My.mkB zzI (by
  clear zzI
  have hle : d ≤ r.length := by
    rw [e]
    exact Nat.le_mul_of_pos_right d hk
  have tl : (r.take d).length = d := by
    rw [List.length_take]
    omega
  constructor
  · intro h
    have e1 : r.take d = tab d (off (r.take d)) := by
      have := tab_off (r.take d)
      rw [tl] at this
      exact this.symm
    have p : Per (off (r.take d)) d := by
      have := off_per (r := r.take d)
      rw [tl] at this
      exact this
    rw [e1, rep_tab p] at h
    have h2 : off r = off (r.take d) := by
      have h3 := congrArg off h
      rw [off_tab (Nat.mul_pos hd hk) (p.mulN k)] at h3
      exact h3
    rw [h2]
    exact p
  · intro p
    have e1 : r.take d = tab d (off r) := by
      have h := tab_take (f := off r) hle
      rw [tab_off] at h
      exact h
    rw [e1, rep_tab p, ← e, tab_off]
  )]); intro f; simpa using My.gz f 5 true
theorem least_of {f : Int → Int} {n d : Nat} (hd : 0 < d) (dv : d ∣ n) (p : Per f d) (min : ∀ e, 0 < e → e < d → e ∣ n → ¬ Per f e) : Least f d := by
  apply My.two; (focus intro zzI; simp only [↓ My.mkB zzI (by
  clear zzI
  refine ⟨hd, p, fun m hm pm => ?_⟩
  have g := Per.gcd d m p pm
  have g0 : 0 < Nat.gcd d m := Nat.gcd_pos_of_pos_left m hd
  have gd : Nat.gcd d m ∣ d := Nat.gcd_dvd_left d m
  have gle : Nat.gcd d m ≤ d := Nat.le_of_dvd hd gd
  rcases Nat.lt_or_ge (Nat.gcd d m) d with h | h
  · exact absurd g (min _ g0 h (Nat.dvd_trans gd dv))
  · have e : Nat.gcd d m = d := Nat.le_antisymm gle h
    rw [← e]
    exact Nat.gcd_dvd_right d m
  )]); intro f; simpa using My.gz f 5 true
end My
namespace My
end My
namespace My
def IsLat (f : Int → Int) (y t : Int) : Prop := t + f t ≤ y ∧ ∀ x, x + f x ≤ y → x ≤ t
def IsEar (f : Int → Int) (y t : Int) : Prop := y ≤ t + f t ∧ ∀ x, y ≤ x + f x → t ≤ x
def IsLow (f : Int → Int) (x v : Int) : Prop := (∃ z, x ≤ z ∧ v = z + f z) ∧ ∀ z, x ≤ z → v ≤ z + f z
def IsUpp (f : Int → Int) (x v : Int) : Prop := (∃ z, z ≤ x ∧ v = z + f z) ∧ ∀ z, z ≤ x → z + f z ≤ v
section
variable {f g h : Int → Int} {d i : Nat} {x y z t u v : Int}
theorem IsLat.uniq (a : IsLat f y t) (b : IsLat f y u) : t = u := Int.le_antisymm (b.2 t a.1) (a.2 u b.1)
theorem IsEar.uniq (a : IsEar f y t) (b : IsEar f y u) : t = u := Int.le_antisymm (a.2 u b.1) (b.2 t a.1)
theorem IsLow.uniq (a : IsLow f y t) (b : IsLow f y u) : t = u := by
  apply My.two; (focus intro zzI; simp only [↓ My.mkB zzI (by
  clear zzI
  obtain ⟨⟨z, hz, rfl⟩, a2⟩ := a
  obtain ⟨⟨w, hw, rfl⟩, b2⟩ := b
  exact Int.le_antisymm (a2 w hw) (b2 z hz)
  )]); intro f; simpa using My.gz f 5 true
theorem IsUpp.uniq (a : IsUpp f y t) (b : IsUpp f y u) : t = u := by
  apply My.two; (focus intro zzI; simp only [↓ My.mkB zzI (by
  clear zzI
  obtain ⟨⟨z, hz, rfl⟩, a2⟩ := a
  obtain ⟨⟨w, hw, rfl⟩, b2⟩ := b
  exact Int.le_antisymm (b2 z hz) (a2 w hw)
  )]); intro f; simpa using My.gz f 5 true
theorem Per.sub (p : Per f d) (x k : Int) : f (x - (d : Int) * k) = f x := by
  apply My.two; (focus intro zzI; simp only [↓ My.mkB zzI (by
  clear zzI
  have e := p.mulI (x - (d : Int) * k) k
  rw [Int.sub_add_cancel] at e
  exact e.symm
  )]); intro f; simpa using My.gz f 5 true
theorem IsLat.move (p : Per f d) (a : IsLat f y t) (k : Int) : IsLat f (y + (d : Int) * k) (t + (d : Int) * k) := by
  apply My.two; (focus intro zzI; simp only [↓ My.mkB zzI (by
  clear zzI
  refine ⟨?_, fun x hx => ?_⟩
  · rw [p.mulI]
    have := a.1
    omega
  · have := a.2 (x - (d : Int) * k) (by rw [p.sub]; omega)
    omega
  )]); intro f; simpa using My.gz f 5 true
theorem IsEar.move (p : Per f d) (a : IsEar f y t) (k : Int) : IsEar f (y + (d : Int) * k) (t + (d : Int) * k) := by
  apply My.two; (focus intro zzI; simp only [↓ My.mkB zzI (by
  clear zzI
  refine ⟨?_, fun x hx => ?_⟩
  · rw [p.mulI]
    have := a.1
    omega
  · have := a.2 (x - (d : Int) * k) (by rw [p.sub]; omega)
    omega
  )]); intro f; simpa using My.gz f 5 true
theorem IsLow.move (p : Per f d) (a : IsLow f y t) (k : Int) : IsLow f (y + (d : Int) * k) (t + (d : Int) * k) := by
  apply My.two; (focus intro zzI; simp only [↓ My.mkB zzI (by
  clear zzI
  obtain ⟨⟨z, hz, e⟩, a2⟩ := a
  refine ⟨⟨z + (d : Int) * k, by omega, by rw [p.mulI]; omega⟩, fun x hx => ?_⟩
  have := a2 (x - (d : Int) * k) (by omega)
  rw [p.sub] at this
  omega
  )]); intro f; simpa using My.gz f 5 true
theorem IsUpp.move (p : Per f d) (a : IsUpp f y t) (k : Int) : IsUpp f (y + (d : Int) * k) (t + (d : Int) * k) := by
  apply My.two; (focus intro zzI; simp only [↓ My.mkB zzI (by
  clear zzI
  obtain ⟨⟨z, hz, e⟩, a2⟩ := a
  refine ⟨⟨z + (d : Int) * k, by omega, by rw [p.mulI]; omega⟩, fun x hx => ?_⟩
  have := a2 (x - (d : Int) * k) (by omega)
  rw [p.sub] at this
  omega
  )]); intro f; simpa using My.gz f 5 true
/-- maps that tell these -/
def Lats (f g : Int → Int) : Prop := ∀ y, IsLat f y (y + g y)
def Ears (f g : Int → Int) : Prop := ∀ y, IsEar f y (y + g y)
def Lows (f g : Int → Int) : Prop := ∀ y, IsLow f y (y + g y)
def Upps (f g : Int → Int) : Prop := ∀ y, IsUpp f y (y + g y)
theorem Lats.uniq (a : Lats f g) (b : Lats f h) : g = h := funext fun y => by
  have := (a y).uniq (b y)
  omega
theorem Ears.uniq (a : Ears f g) (b : Ears f h) : g = h := funext fun y => by
  have := (a y).uniq (b y)
  omega
theorem Lows.uniq (a : Lows f g) (b : Lows f h) : g = h := funext fun y => by
  have := (a y).uniq (b y)
  omega
theorem Upps.uniq (a : Upps f g) (b : Upps f h) : g = h := funext fun y => by
  have := (a y).uniq (b y)
  omega
theorem Lats.per (p : Per f d) (a : Lats f g) : Per g d := fun y => by
  have h1 := (a y).move p 1
  have h2 := a (y + (d : Int))
  rw [Int.mul_one] at h1
  have := h1.uniq h2
  omega
theorem Ears.per (p : Per f d) (a : Ears f g) : Per g d := fun y => by
  have h1 := (a y).move p 1
  have h2 := a (y + (d : Int))
  rw [Int.mul_one] at h1
  have := h1.uniq h2
  omega
theorem Lows.per (p : Per f d) (a : Lows f g) : Per g d := fun y => by
  have h1 := (a y).move p 1
  have h2 := a (y + (d : Int))
  rw [Int.mul_one] at h1
  have := h1.uniq h2
  omega
theorem Upps.per (p : Per f d) (a : Upps f g) : Per g d := fun y => by
  have h1 := (a y).move p 1
  have h2 := a (y + (d : Int))
  rw [Int.mul_one] at h1
  have := h1.uniq h2
  omega
structure BestM (f : Int → Int) (d i : Nat) (val : Int → Option Int) : Prop where
  yes : ∀ r s, val r = some s → 0 ≤ r ∧ r < (d : Int) ∧ s + f s = r ∧ ∀ x, x + f x = r → x % (d : Int) < (i : Int) → x ≤ s
  no : ∀ r, 0 ≤ r → r < (d : Int) → val r = none → ∀ x, x + f x = r → ¬ x % (d : Int) < (i : Int)
structure BestL (f : Int → Int) (d i : Nat) (val : Int → Option Int) : Prop where
  yes : ∀ r s, val r = some s → 0 ≤ r ∧ r < (d : Int) ∧ s + f s = r ∧ ∀ x, x + f x = r → x % (d : Int) < (i : Int) → s ≤ x
  no : ∀ r, 0 ≤ r → r < (d : Int) → val r = none → ∀ x, x + f x = r → ¬ x % (d : Int) < (i : Int)
/-- the one start of a day of the period -/
theorem start_one (p : Per f d) (d0 : 0 < d) {r x : Int} (r0 : 0 ≤ r) (r1 : r < (d : Int)) (hx : x + f x = r) (hi : x % (d : Int) = (i : Int)) :
    r = ((i : Int) + f (i : Int)) % (d : Int) ∧ x = (i : Int) - ((i : Int) + f (i : Int)) / (d : Int) * (d : Int) := by
  apply My.two; (focus intro zzI; simp only [↓ My.mkB zzI (by
  clear zzI
  have dm := Int.emod_add_mul_ediv x (d : Int)
  have e : f x = f (i : Int) := by rw [← p.emod x, hi]
  rw [e] at hx
  rw [hi] at dm
  have e2 : (i : Int) + f (i : Int) = r + (d : Int) * (-(x / (d : Int))) := by
    rw [Int.mul_neg]
    omega
  have e3 : ((i : Int) + f (i : Int)) % (d : Int) = r := by
    rw [e2, Int.add_mul_emod_self_left, Int.emod_eq_of_lt r0 r1]
  have e4 : ((i : Int) + f (i : Int)) / (d : Int) = -(x / (d : Int)) := by
    rw [e2, Int.add_mul_ediv_left _ _ (by omega), Int.ediv_eq_zero_of_lt r0 r1, Int.zero_add]
  refine ⟨e3.symm, ?_⟩
  rw [e4, Int.neg_mul, Int.mul_comm]
  omega
  )]); intro f; simpa using My.gz f 5 true
theorem start_val (p : Per f d) (d0 : 0 < d) : (i : Int) - ((i : Int) + f (i : Int)) / (d : Int) * (d : Int) + f ((i : Int) - ((i : Int) + f (i : Int)) / (d : Int) * (d : Int)) = ((i : Int) + f (i : Int)) % (d : Int) := by
  apply My.two; (focus intro zzI; simp only [↓ My.mkB zzI (by
  clear zzI
  have dm := Int.emod_add_mul_ediv ((i : Int) + f (i : Int)) (d : Int)
  rw [Int.mul_comm (((i : Int) + f (i : Int)) / (d : Int)) (d : Int), p.sub]
  omega
  )]); intro f; simpa using My.gz f 5 true
theorem BestM.start : BestM f d 0 (fun _ => none) := ⟨fun r s e => (nomatch e), fun r r0 r1 _ x _ h => by
  have := Int.emod_nonneg x (show (d : Int) ≠ 0 by omega)
  omega⟩
theorem BestL.start : BestL f d 0 (fun _ => none) := ⟨fun r s e => (nomatch e), fun r r0 r1 _ x _ h => by
  have := Int.emod_nonneg x (show (d : Int) ≠ 0 by omega)
  omega⟩
theorem BestM.step {val val' : Int → Option Int} (p : Per f d) (d0 : 0 < d) (B : BestM f d i val) {s : Int}
    (h1 : val' (((i : Int) + f (i : Int)) % (d : Int)) = some s) (h2 : ∀ r, r ≠ ((i : Int) + f (i : Int)) % (d : Int) → val' r = val r)
    (hs : (val (((i : Int) + f (i : Int)) % (d : Int)) = none ∧ s = (i : Int) - ((i : Int) + f (i : Int)) / (d : Int) * (d : Int)) ∨
      ∃ s0, val (((i : Int) + f (i : Int)) % (d : Int)) = some s0 ∧ s = max s0 ((i : Int) - ((i : Int) + f (i : Int)) / (d : Int) * (d : Int))) : BestM f d (i + 1) val' := by
  apply My.two; (focus intro zzI; simp only [↓ My.mkB zzI (by
  clear zzI
  have sv := start_val (i := i) p d0
  have so := fun {r x : Int} => start_one (i := i) (r := r) (x := x) p d0
  have q0 := Int.emod_nonneg ((i : Int) + f (i : Int)) (show (d : Int) ≠ 0 by omega)
  have q1 := Int.emod_lt_of_pos ((i : Int) + f (i : Int)) (show (0 : Int) < (d : Int) by omega)
  generalize ((i : Int) + f (i : Int)) % (d : Int) = q at *
  generalize (i : Int) - ((i : Int) + f (i : Int)) / (d : Int) * (d : Int) = s1 at *
  have split : ∀ x : Int, x % (d : Int) < ((i + 1 : Nat) : Int) → x % (d : Int) < (i : Int) ∨ x % (d : Int) = (i : Int) := fun x hx => by omega
  refine ⟨fun r t e => ?_, fun r r0 r1 e x hx hi => ?_⟩
  · by_cases hr : r = q
    · subst hr
      rw [h1] at e
      obtain rfl := Option.some.inj e
      rcases hs with ⟨n, rfl⟩ | ⟨s0, n, rfl⟩
      · refine ⟨q0, q1, sv, fun x hx hi => ?_⟩
        rcases split x hi with h | h
        · exact absurd h (B.no r q0 q1 n x hx)
        · have := (so q0 q1 hx h).2
          omega
      · obtain ⟨_, _, b3, b4⟩ := B.yes r s0 n
        refine ⟨q0, q1, ?_, fun x hx hi => ?_⟩
        · rcases Int.le_total s0 s1 with h | h
          · rw [Int.max_eq_right h]
            exact sv
          · rw [Int.max_eq_left h]
            exact b3
        · rcases split x hi with h | h
          · have := b4 x hx h
            omega
          · have := (so q0 q1 hx h).2
            omega
    · rw [h2 r hr] at e
      obtain ⟨b1, b2, b3, b4⟩ := B.yes r t e
      refine ⟨b1, b2, b3, fun x hx hi => ?_⟩
      rcases split x hi with h | h
      · exact b4 x hx h
      · exact absurd (so b1 b2 hx h).1 hr
  · by_cases hr : r = q
    · rw [hr, h1] at e
      cases e
    · rw [h2 r hr] at e
      rcases split x hi with h | h
      · exact B.no r r0 r1 e x hx h
      · exact hr (so r0 r1 hx h).1
  )]); intro f; simpa using My.gz f 5 true
theorem BestL.step {val val' : Int → Option Int} (p : Per f d) (d0 : 0 < d) (B : BestL f d i val) {s : Int}
    (h1 : val' (((i : Int) + f (i : Int)) % (d : Int)) = some s) (h2 : ∀ r, r ≠ ((i : Int) + f (i : Int)) % (d : Int) → val' r = val r)
    (hs : (val (((i : Int) + f (i : Int)) % (d : Int)) = none ∧ s = (i : Int) - ((i : Int) + f (i : Int)) / (d : Int) * (d : Int)) ∨
      ∃ s0, val (((i : Int) + f (i : Int)) % (d : Int)) = some s0 ∧ s = min s0 ((i : Int) - ((i : Int) + f (i : Int)) / (d : Int) * (d : Int))) : BestL f d (i + 1) val' := by
  apply My.two; (focus intro zzI; simp only [↓ My.mkB zzI (by
  clear zzI
  have sv := start_val (i := i) p d0
  have so := fun {r x : Int} => start_one (i := i) (r := r) (x := x) p d0
  have q0 := Int.emod_nonneg ((i : Int) + f (i : Int)) (show (d : Int) ≠ 0 by omega)
  have q1 := Int.emod_lt_of_pos ((i : Int) + f (i : Int)) (show (0 : Int) < (d : Int) by omega)
  generalize ((i : Int) + f (i : Int)) % (d : Int) = q at *
  generalize (i : Int) - ((i : Int) + f (i : Int)) / (d : Int) * (d : Int) = s1 at *
  have split : ∀ x : Int, x % (d : Int) < ((i + 1 : Nat) : Int) → x % (d : Int) < (i : Int) ∨ x % (d : Int) = (i : Int) := fun x hx => by omega
  refine ⟨fun r t e => ?_, fun r r0 r1 e x hx hi => ?_⟩
  · by_cases hr : r = q
    · subst hr
      rw [h1] at e
      obtain rfl := Option.some.inj e
      rcases hs with ⟨n, rfl⟩ | ⟨s0, n, rfl⟩
      · refine ⟨q0, q1, sv, fun x hx hi => ?_⟩
        rcases split x hi with h | h
        · exact absurd h (B.no r q0 q1 n x hx)
        · have := (so q0 q1 hx h).2
          omega
      · obtain ⟨_, _, b3, b4⟩ := B.yes r s0 n
        refine ⟨q0, q1, ?_, fun x hx hi => ?_⟩
        · rcases Int.le_total s0 s1 with h | h
          · rw [Int.min_eq_left h]
            exact b3
          · rw [Int.min_eq_right h]
            exact sv
        · rcases split x hi with h | h
          · have := b4 x hx h
            omega
          · have := (so q0 q1 hx h).2
            omega
    · rw [h2 r hr] at e
      obtain ⟨b1, b2, b3, b4⟩ := B.yes r t e
      refine ⟨b1, b2, b3, fun x hx hi => ?_⟩
      rcases split x hi with h | h
      · exact b4 x hx h
      · exact absurd (so b1 b2 hx h).1 hr
  · by_cases hr : r = q
    · rw [hr, h1] at e
      cases e
    · rw [h2 r hr] at e
      rcases split x hi with h | h
      · exact B.no r r0 r1 e x hx h
      · exact hr (so r0 r1 hx h).1
  )]); intro f; simpa using My.gz f 5 true
/-- behind all days: the greatest start of a date -/
theorem BestM.at_ {val : Int → Option Int} (p : Per f d) (d0 : 0 < d) (B : BestM f d d val) (y : Int) :
    (∀ s, val (y % (d : Int)) = some s → s + y / (d : Int) * (d : Int) + f (s + y / (d : Int) * (d : Int)) = y ∧ ∀ x, x + f x = y → x ≤ s + y / (d : Int) * (d : Int)) ∧ (val (y % (d : Int)) = none → ∀ x, x + f x ≠ y) := by
  apply My.two; (focus intro zzI; simp only [↓ My.mkB zzI (by
  clear zzI
  have q0 := Int.emod_nonneg y (show (d : Int) ≠ 0 by omega)
  have q1 := Int.emod_lt_of_pos y (show (0 : Int) < (d : Int) by omega)
  have dm := Int.emod_add_mul_ediv y (d : Int)
  have lt : ∀ x : Int, x % (d : Int) < (d : Int) := fun x => Int.emod_lt_of_pos x (by omega)
  rw [Int.mul_comm (y / (d : Int)) (d : Int)]
  have back : ∀ x, x + f x = y → (x - (d : Int) * (y / (d : Int))) + f (x - (d : Int) * (y / (d : Int))) = y % (d : Int) := fun x hx => by
    rw [p.sub]
    omega
  refine ⟨fun s e => ?_, fun e x hx => ?_⟩
  · obtain ⟨_, _, b3, b4⟩ := B.yes _ s e
    refine ⟨by rw [p.mulI]; omega, fun x hx => ?_⟩
    have := b4 _ (back x hx) (lt _)
    omega
  · exact B.no _ q0 q1 e _ (back x hx) (lt _)
  )]); intro f; simpa using My.gz f 5 true
theorem BestL.at_ {val : Int → Option Int} (p : Per f d) (d0 : 0 < d) (B : BestL f d d val) (y : Int) :
    (∀ s, val (y % (d : Int)) = some s → s + y / (d : Int) * (d : Int) + f (s + y / (d : Int) * (d : Int)) = y ∧ ∀ x, x + f x = y → s + y / (d : Int) * (d : Int) ≤ x) ∧ (val (y % (d : Int)) = none → ∀ x, x + f x ≠ y) := by
  apply My.two; (focus intro zzI; simp only [↓ My.mkB zzI (by
  clear zzI
  have q0 := Int.emod_nonneg y (show (d : Int) ≠ 0 by omega)
  have q1 := Int.emod_lt_of_pos y (show (0 : Int) < (d : Int) by omega)
  have dm := Int.emod_add_mul_ediv y (d : Int)
  have lt : ∀ x : Int, x % (d : Int) < (d : Int) := fun x => Int.emod_lt_of_pos x (by omega)
  rw [Int.mul_comm (y / (d : Int)) (d : Int)]
  have back : ∀ x, x + f x = y → (x - (d : Int) * (y / (d : Int))) + f (x - (d : Int) * (y / (d : Int))) = y % (d : Int) := fun x hx => by
    rw [p.sub]
    omega
  refine ⟨fun s e => ?_, fun e x hx => ?_⟩
  · obtain ⟨_, _, b3, b4⟩ := B.yes _ s e
    refine ⟨by rw [p.mulI]; omega, fun x hx => ?_⟩
    have := b4 _ (back x hx) (lt _)
    omega
  · exact B.no _ q0 q1 e _ (back x hx) (lt _)
  )]); intro f; simpa using My.gz f 5 true
/-- dates from -d up to y, without y -/
def TopM (f : Int → Int) (d : Nat) (y : Int) : Option Int → Prop
  | none => ∀ x, -(d : Int) ≤ x + f x → x + f x < y → False
  | some t => -(d : Int) ≤ t + f t ∧ t + f t < y ∧ ∀ x, -(d : Int) ≤ x + f x → x + f x < y → x ≤ t
/-- dates from 2 d - 1 down to y, without y -/
def TopL (f : Int → Int) (d : Nat) (y : Int) : Option Int → Prop
  | none => ∀ x, x + f x < 2 * (d : Int) → y < x + f x → False
  | some t => t + f t < 2 * (d : Int) ∧ y < t + f t ∧ ∀ x, x + f x < 2 * (d : Int) → y < x + f x → t ≤ x
theorem TopM.start : TopM f d (-(d : Int)) none := fun x h1 h2 => by omega
theorem TopL.start : TopL f d (2 * (d : Int) - 1) none := fun x h1 h2 => by omega
theorem TopM.new {s : Int} (hy : -(d : Int) ≤ y) (T : TopM f d y none) (h : s + f s = y) (hm : ∀ x, x + f x = y → x ≤ s) : TopM f d (y + 1) (some s) :=
  ⟨by omega, by omega, fun x h1 h2 => by
    rcases Int.lt_or_eq_of_le (show x + f x ≤ y by omega) with h3 | h3
    · exact (T x h1 h3).elim
    · exact hm x h3⟩
theorem TopL.new {s : Int} (hy : y < 2 * (d : Int)) (T : TopL f d y none) (h : s + f s = y) (hm : ∀ x, x + f x = y → s ≤ x) : TopL f d (y - 1) (some s) :=
  ⟨by omega, by omega, fun x h1 h2 => by
    rcases Int.lt_or_eq_of_le (show y ≤ x + f x by omega) with h3 | h3
    · exact (T x h1 h3).elim
    · exact hm x h3.symm⟩
def LowW (f : Int → Int) (d : Nat) (y : Int) : Option Int → Prop
  | none => y = 2 * (d : Int) - 1
  | some v => (∃ z, y < z ∧ v = z + f z) ∧ ∀ z, y < z → z < 2 * (d : Int) → v ≤ z + f z
def UppW (f : Int → Int) (d : Nat) (y : Int) : Option Int → Prop
  | none => y = -(d : Int)
  | some v => (∃ z, z < y ∧ v = z + f z) ∧ ∀ z, z < y → -(d : Int) ≤ z → z + f z ≤ v
theorem LowW.first (T : LowW f d y none) : LowW f d (y - 1) (some (y + f y)) := by
  apply My.two; (focus intro zzI; simp only [↓ My.mkB zzI (by
  clear zzI
  have e : y = 2 * (d : Int) - 1 := T
  exact ⟨⟨y, by omega, rfl⟩, fun z h1 h2 => by
    obtain rfl : z = y := by omega
    exact Int.le_refl _⟩
  )]); intro f; simpa using My.gz f 5 true
theorem UppW.first (T : UppW f d y none) : UppW f d (y + 1) (some (y + f y)) := by
  apply My.two; (focus intro zzI; simp only [↓ My.mkB zzI (by
  clear zzI
  have e : y = -(d : Int) := T
  exact ⟨⟨y, by omega, rfl⟩, fun z h1 h2 => by
    obtain rfl : z = y := by omega
    exact Int.le_refl _⟩
  )]); intro f; simpa using My.gz f 5 true
theorem day_in (p : Per f d) (d0 : 0 < d) (x k : Int) : ∃ z q, z = x + (d : Int) * q ∧ z + f z = x + f x + (d : Int) * q ∧ (d : Int) * k ≤ z ∧ z < (d : Int) * k + (d : Int) := by
  apply My.two; (focus intro zzI; simp only [↓ My.mkB zzI (by
  clear zzI
  have q0 := Int.emod_nonneg x (show (d : Int) ≠ 0 by omega)
  have q1 := Int.emod_lt_of_pos x (show (0 : Int) < (d : Int) by omega)
  have dm := Int.emod_add_mul_ediv x (d : Int)
  refine ⟨_, k - x / (d : Int), rfl, by rw [p.mulI]; omega, ?_, ?_⟩
  · rw [Int.mul_sub]
    omega
  · rw [Int.mul_sub]
    omega
  )]); intro f; simpa using My.gz f 5 true
theorem LowW.low (p : Per f d) (d0 : 0 < d) (hy : y < (d : Int)) (T : LowW f d (y - 1) (some v)) : IsLow f y v := by
  apply My.two; (focus intro zzI; simp only [↓ My.mkB zzI (by
  clear zzI
  obtain ⟨⟨z, z1, z2⟩, h⟩ := T
  refine ⟨⟨z, by omega, z2⟩, fun w hw => ?_⟩
  by_cases c : w < 2 * (d : Int)
  · exact h w (by omega) c
  · obtain ⟨u, q, h1, h2, h3, h4⟩ := day_in p d0 w 1
    rw [Int.mul_one] at h3 h4
    have := h u (by omega) (by omega)
    omega
  )]); intro f; simpa using My.gz f 5 true
end
end My
namespace My
section
variable {f g h e : Int → Int} {x y z : Int}
theorem Rising.nat (r : Rising f) (x : Int) : ∀ n : Nat, x + f x ≤ x + (n : Int) + f (x + (n : Int))
  | 0 => by
    rw [Int.natCast_zero, Int.add_zero]
    exact Int.le_refl _
  | n + 1 => by
    apply My.two; (focus intro zzI; simp only [↓ My.mkB zzI (by
    clear zzI
    have h1 := Rising.nat r x n
    have h2 := r (x + (n : Int))
    rw [show x + ((n + 1 : Nat) : Int) = x + (n : Int) + 1 by omega]
    omega
    )]); intro f; simpa using My.gz f 5 true
theorem Rising.le (r : Rising f) (h : x ≤ y) : x + f x ≤ y + f y := by
  apply My.two; (focus intro zzI; simp only [↓ My.mkB zzI (by
  clear zzI
  have := r.nat x (y - x).toNat
  rw [show x + ((y - x).toNat : Int) = y by omega] at this
  exact this
  )]); intro f; simpa using My.gz f 5 true
end
end My
namespace My
/-- the date behind j steps -/
def it (f : Int → Int) (x : Int) (j : Nat) : Int := x + pw f j x
section
variable {f : Int → Int} {d : Nat} {x : Int}
theorem it_zero : it f x 0 = x := Int.add_zero x
theorem it_add (a b : Nat) : it f x (a + b) = it f (it f x a) b := by
  apply My.two; (focus intro zzI; simp only [↓ My.mkB zzI (by
  clear zzI
  show x + pw f (a + b) x = x + pw f a x + pw f b (x + pw f a x)
  rw [pw_add]
  show x + (pw f a x + pw f b (x + pw f a x)) = _
  omega
  )]); intro f; simpa using My.gz f 5 true
theorem it_per (p : Per f d) (k : Int) (j : Nat) : it f (x + (d : Int) * k) j = it f x j + (d : Int) * k := by
  apply My.two; (focus intro zzI; simp only [↓ My.mkB zzI (by
  clear zzI
  show x + (d : Int) * k + pw f j (x + (d : Int) * k) = x + pw f j x + (d : Int) * k
  rw [(per_pw p j).mulI]
  omega
  )]); intro f; simpa using My.gz f 5 true
theorem it_turns (p : Per f d) {a s : Nat} {k : Int} (h : it f x (a + s) = it f x a + (d : Int) * k) : ∀ q : Nat, it f x (a + s * q) = it f x a + (d : Int) * (k * (q : Int))
  | 0 => by
    rw [Nat.mul_zero, Nat.add_zero, Int.natCast_zero, Int.mul_zero, Int.mul_zero, Int.add_zero]
  | q + 1 => by
    apply My.two; (focus intro zzI; simp only [↓ My.mkB zzI (by
    clear zzI
    have ih := it_turns p h q
    rw [Nat.mul_succ, ← Nat.add_assoc, it_add, ih, it_per p, ← it_add, h, Int.natCast_add, Int.natCast_one, Int.mul_add, Int.mul_one, Int.mul_add]
    omega
    )]); intro f; simpa using My.gz f 5 true
theorem it_ring (p : Per f d) {a s : Nat} (s0 : 0 < s) (h : it f x (a + s) % (d : Int) = it f x a % (d : Int)) (c : Nat) (hc : a ≤ c) :
    it f x c = it f x (a + (c - a) % s) + (((c - a) / s : Nat) : Int) * (it f x (a + s) - it f x a) := by
  apply My.two; (focus intro zzI; simp only [↓ My.mkB zzI (by
  clear zzI
  obtain ⟨k, hk⟩ : ∃ k, it f x (a + s) = it f x a + (d : Int) * k := by
    have e1 := Int.emod_add_mul_ediv (it f x (a + s)) (d : Int)
    have e2 := Int.emod_add_mul_ediv (it f x a) (d : Int)
    refine ⟨it f x (a + s) / (d : Int) - it f x a / (d : Int), ?_⟩
    rw [Int.mul_sub]
    omega
  have e := it_turns p hk ((c - a) / s)
  have hd := Nat.mod_add_div (c - a) s
  have hc2 : c = a + s * ((c - a) / s) + (c - a) % s := by omega
  have e2 : it f x c = it f x (a + (c - a) % s) + (d : Int) * (k * (((c - a) / s : Nat) : Int)) := by
    have e3 : it f x (a + s * ((c - a) / s) + (c - a) % s) = it f x (a + (c - a) % s) + (d : Int) * (k * (((c - a) / s : Nat) : Int)) := by
      rw [it_add, e, it_per p, ← it_add]
    rw [← hc2] at e3
    exact e3
  rw [e2, hk]
  congr 1
  rw [show it f x a + (d : Int) * k - it f x a = (d : Int) * k by omega, Int.mul_comm k, ← Int.mul_assoc, Int.mul_comm (d : Int), Int.mul_assoc]
  )]); intro f; simpa using My.gz f 5 true
end
theorem pigeon : ∀ (d : Nat) (l : List Nat), l.Nodup → (∀ v ∈ l, v < d) → l.length ≤ d
  | 0, l, _, h => by
    apply My.two; (focus intro zzI; simp only [↓ My.mkB zzI (by
    clear zzI
    cases l with
    | nil => exact Nat.le_refl _
    | cons v l => exact absurd (h v List.mem_cons_self) (Nat.not_lt_zero _)
    )]); intro f; simpa using My.gz f 5 true
  | d + 1, l, nd, h => by
    apply My.two; (focus intro zzI; simp only [↓ My.mkB zzI (by
    clear zzI
    have h1 := pigeon d (l.erase d) (nd.erase d) fun v hv => by
      have h2 := (nd.mem_erase_iff).mp hv
      have := h v h2.2
      omega
    by_cases hm : d ∈ l
    · have := List.length_erase_of_mem hm
      omega
    · rw [List.erase_of_not_mem hm] at h1
      omega
    )]); intro f; simpa using My.gz f 5 true
end My
namespace My
/-- from j on as long as P holds at the next one -/
def grow (P : Nat → Prop) [DecidablePred P] : Nat → Nat → Nat
  | 0, j => j
  | k + 1, j => if P (j + 1) then grow P k (j + 1) else j
section
variable {P : Nat → Prop} [DecidablePred P]
theorem grow_ge : ∀ k j, j ≤ grow P k j
  | 0, j => Nat.le_refl _
  | k + 1, j => by
    apply My.two; (focus intro zzI; simp only [↓ My.mkB zzI (by
    clear zzI
    unfold grow
    split
    · exact Nat.le_trans (Nat.le_succ j) (grow_ge k (j + 1))
    · exact Nat.le_refl _
    )]); intro f; simpa using My.gz f 5 true
theorem grow_lt {n : Nat} (h : ∀ j, P j → j < n) : ∀ k j, j < n → grow P k j < n
  | 0, j, hj => hj
  | k + 1, j, hj => by
    apply My.two; (focus intro zzI; simp only [↓ My.mkB zzI (by
    clear zzI
    unfold grow
    split
    · rename_i hp
      exact grow_lt h k (j + 1) (h _ hp)
    · exact hj
    )]); intro f; simpa using My.gz f 5 true
end
def ByP (r : List Int) (i k : Nat) : Prop := k < r.length ∧ off r (k : Int) = off r (i : Int)
def ToP (r : List Int) (i k : Nat) : Prop := k < r.length ∧ (k : Int) + off r (k : Int) = (i : Int) + off r (i : Int)
instance (r : List Int) (i : Nat) : DecidablePred (ByP r i) := fun k => inferInstanceAs (Decidable (_ ∧ _))
instance (r : List Int) (i : Nat) : DecidablePred (ToP r i) := fun k => inferInstanceAs (Decidable (_ ∧ _))
def lastBy (r : List Int) (i : Nat) : Nat := grow (ByP r i) r.length i
def lastTo (r : List Int) (i : Nat) : Nat := grow (ToP r i) r.length i
theorem lastBy_ge (r : List Int) (i : Nat) : i ≤ lastBy r i := grow_ge _ _
theorem lastBy_lt {r : List Int} {i : Nat} (h : i < r.length) : lastBy r i < r.length := grow_lt (fun _ p => p.1) _ _ h
theorem lastTo_lt {r : List Int} {i : Nat} (h : i < r.length) : lastTo r i < r.length := grow_lt (fun _ p => p.1) _ _ h
/-- a piece: its last day, whether it leads to one date, its number -/
def pcLast (r : List Int) (i : Nat) : Nat := max (lastBy r i) (lastTo r i)
/-- the first days of the pieces -/
def fs (r : List Int) : Nat → Nat
  | 0 => 0
  | k + 1 => pcLast r (fs r k) + 1
theorem pcLast_ge (r : List Int) (i : Nat) : i ≤ pcLast r i := Nat.le_trans (lastBy_ge r i) (Nat.le_max_left _ _)
theorem pcLast_lt {r : List Int} {i : Nat} (h : i < r.length) : pcLast r i < r.length := by
  apply My.two; (focus intro zzI; simp only [↓ My.mkB zzI (by
  clear zzI
  have h1 := lastBy_lt h
  have h2 := lastTo_lt h
  unfold pcLast
  omega
  )]); intro f; simpa using My.gz f 5 true
theorem fs_lt (r : List Int) (k : Nat) : fs r k < fs r (k + 1) := Nat.lt_succ_of_le (pcLast_ge r _)
theorem fs_ge (r : List Int) : ∀ k, k ≤ fs r k
  | 0 => Nat.le_refl _
  | k + 1 => Nat.lt_of_le_of_lt (fs_ge r k) (fs_lt r k)
/-- k pieces cover the list -/
structure IsCount (r : List Int) (k : Nat) : Prop where
  low : ∀ j, j < k → fs r j < r.length
  end_ : ¬ fs r k < r.length
theorem IsCount.uniq {r : List Int} {a b : Nat} (x : IsCount r a) (y : IsCount r b) : a = b := by
  apply My.two; (focus intro zzI; simp only [↓ My.mkB zzI (by
  clear zzI
  rcases Nat.lt_trichotomy a b with h | h | h
  · exact absurd (y.low a h) x.end_
  · exact h
  · exact absurd (x.low b h) y.end_
  )]); intro f; simpa using My.gz f 5 true
theorem IsCount.le {r : List Int} {k : Nat} (x : IsCount r k) : k ≤ r.length := by
  apply My.two; (focus intro zzI; simp only [↓ My.mkB zzI (by
  clear zzI
  rcases Nat.eq_zero_or_pos k with h | h
  · omega
  · have h1 := x.low (k - 1) (by omega)
    have h2 := fs_ge r (k - 1)
    omega
  )]); intro f; simpa using My.gz f 5 true
theorem IsCount.pos {r : List Int} {k : Nat} (x : IsCount r k) (h : 0 < r.length) : 0 < k := by
  apply My.two; (focus intro zzI; simp only [↓ My.mkB zzI (by
  clear zzI
  rcases Nat.eq_zero_or_pos k with e | e
  · rw [e] at x
    exact absurd h x.end_
  · exact e
  )]); intro f; simpa using My.gz f 5 true
theorem IsCount.last {r : List Int} {k : Nat} (x : IsCount r (k + 1)) : pcLast r (fs r k) = r.length - 1 := by
  apply My.two; (focus intro zzI; simp only [↓ My.mkB zzI (by
  clear zzI
  have h1 := x.end_
  have h2 := pcLast_lt (x.low k (Nat.lt_succ_self k))
  have h3 : fs r (k + 1) = pcLast r (fs r k) + 1 := rfl
  omega
  )]); intro f; simpa using My.gz f 5 true
end My
namespace My
section
variable {n : Nat}
/-- one day is otherwise: e instead of b -/
def One (f : Int → Int) (n : Nat) (s b e : Int) : Prop := ∀ x, f x = if (x - s) % (n : Int) = 0 then e else b
variable {f : Int → Int} {s b e : Int}
theorem One.at_ (h : One f n s b e) {x : Int} (c : (x - s) % (n : Int) = 0) : f x = e := by rw [h x, if_pos c]
end
end My
namespace My
end My
namespace My
end My
namespace My
/-- the days among the first i that a turn leads to d, as the code lists them -/
def fnd (g : Int → Int) (n : Nat) (d : Int) (i : Nat) : List Int := (List.range i).filterMap fun j : Nat => if (d - (j : Int) - g (j : Int)) % (n : Int) = 0 then some (d - g (j : Int)) else none
/-- all starts of d, in order -/
def Sts (g : Int → Int) (d : Int) (ns : List Int) : Prop := ns.Pairwise (· < ·) ∧ ∀ x, x ∈ ns ↔ x + g x = d
section
variable {g : Int → Int} {n : Nat} {d : Int}
theorem fnd_yes {i : Nat} (h : (d - (i : Int) - g (i : Int)) % (n : Int) = 0) : fnd g n d (i + 1) = fnd g n d i ++ [d - g (i : Int)] := by
  unfold fnd
  rw [List.range_succ, List.filterMap_append, List.filterMap_cons, if_pos h, List.filterMap_nil]
theorem fnd_no {i : Nat} (h : ¬ (d - (i : Int) - g (i : Int)) % (n : Int) = 0) : fnd g n d (i + 1) = fnd g n d i := by
  unfold fnd
  rw [List.range_succ, List.filterMap_append, List.filterMap_cons, if_neg h, List.filterMap_nil, List.append_nil]
theorem fnd_in {i : Nat} {x : Int} : x ∈ fnd g n d i ↔ ∃ j : Nat, j < i ∧ (d - (j : Int) - g (j : Int)) % (n : Int) = 0 ∧ x = d - g (j : Int) := by
  apply My.two; (focus intro zzI; simp only [↓ My.mkB zzI (by
  clear zzI
  unfold fnd
  rw [List.mem_filterMap]
  constructor
  · rintro ⟨j, hj, h⟩
    by_cases h2 : (d - (j : Int) - g (j : Int)) % (n : Int) = 0
    · rw [if_pos h2] at h
      exact ⟨j, List.mem_range.mp hj, h2, (Option.some.inj h).symm⟩
    · rw [if_neg h2] at h
      cases h
  · rintro ⟨j, hj, h2, rfl⟩
    exact ⟨j, List.mem_range.mpr hj, if_pos h2⟩
  )]); intro f; simpa using My.gz f 5 true
theorem fnd_res {j : Nat} (hj : j < n) (h : (d - (j : Int) - g (j : Int)) % (n : Int) = 0) : (d - g (j : Int)) % (n : Int) = (j : Int) := by
  obtain ⟨c, hc⟩ := Int.dvd_of_emod_eq_zero h
  rw [show d - g (j : Int) = (j : Int) + (n : Int) * c by omega, Int.add_mul_emod_self_left, Int.emod_eq_of_lt (by omega) (by omega)]
theorem fnd_nodup : ∀ i, i ≤ n → (fnd g n d i).Nodup
  | 0, _ => List.nodup_nil
  | i + 1, hi => by
    apply My.two; (focus intro zzI; simp only [↓ My.mkB zzI (by
    clear zzI
    have ih := fnd_nodup i (by omega)
    by_cases h : (d - (i : Int) - g (i : Int)) % (n : Int) = 0
    · rw [fnd_yes h]
      refine List.nodup_append.mpr ⟨ih, by simp, fun a ha b hb e => ?_⟩
      obtain rfl := List.mem_singleton.mp hb
      subst e
      obtain ⟨j, hj, h2, e⟩ := fnd_in.mp ha
      have e1 := fnd_res (n := n) (by omega) h
      rw [e, fnd_res (by omega) h2] at e1
      omega
    · rw [fnd_no h]
      exact ih
    )]); intro f; simpa using My.gz f 5 true
theorem fnd_mem (p : Per g n) (n0 : 0 < n) (x : Int) : x ∈ fnd g n d n ↔ x + g x = d := by
  apply My.two; (focus intro zzI; simp only [↓ My.mkB zzI (by
  clear zzI
  have m0 := Int.emod_nonneg x (show (n : Int) ≠ 0 by omega)
  have m1 := Int.emod_lt_of_pos x (show (0 : Int) < (n : Int) by omega)
  rw [fnd_in]
  constructor
  · rintro ⟨j, hj, h2, rfl⟩
    have e := p.emod (d - g (j : Int))
    rw [fnd_res hj h2] at e
    omega
  · intro h
    obtain ⟨j, hj⟩ : ∃ j : Nat, x % (n : Int) = (j : Int) := ⟨_, (Int.toNat_of_nonneg m0).symm⟩
    have e := p.emod x
    rw [hj] at e
    refine ⟨j, by omega, ?_, by omega⟩
    have dm := Int.emod_add_mul_ediv x (n : Int)
    rw [show d - (j : Int) - g (j : Int) = (n : Int) * (x / (n : Int)) by omega, Int.mul_emod_right]
  )]); intro f; simpa using My.gz f 5 true
end
theorem pw_lt : ∀ {l : List Int}, l.Pairwise (· ≤ ·) → l.Nodup → l.Pairwise (· < ·)
  | [], _, _ => .nil
  | a :: l, h, nd => by
    apply My.two; (focus intro zzI; simp only [↓ My.mkB zzI (by
    clear zzI
    obtain ⟨h1, h2⟩ := List.pairwise_cons.mp h
    obtain ⟨n1, n2⟩ := List.nodup_cons.mp nd
    refine List.pairwise_cons.mpr ⟨fun b hb => ?_, pw_lt h2 n2⟩
    have := h1 b hb
    have : a ≠ b := fun e => n1 (e ▸ hb)
    omega
    )]); intro f; simpa using My.gz f 5 true
theorem lt_eq : ∀ {l m : List Int}, l.Pairwise (· < ·) → m.Pairwise (· < ·) → (∀ x, x ∈ l ↔ x ∈ m) → l = m
  | [], [], _, _, _ => rfl
  | [], b :: m, _, _, h => absurd ((h b).mpr List.mem_cons_self) (by simp)
  | a :: l, [], _, _, h => absurd ((h a).mp List.mem_cons_self) (by simp)
  | a :: l, b :: m, hl, hm, h => by
    apply My.two; (focus intro zzI; simp only [↓ My.mkB zzI (by
    clear zzI
    obtain ⟨l1, l2⟩ := List.pairwise_cons.mp hl
    obtain ⟨m1, m2⟩ := List.pairwise_cons.mp hm
    have e : a = b := by
      rcases List.mem_cons.mp ((h a).mp List.mem_cons_self) with e | ha
      · exact e
      · rcases List.mem_cons.mp ((h b).mpr List.mem_cons_self) with e | hb
        · exact e.symm
        · have h3 := m1 a ha
          have h4 := l1 b hb
          omega
    subst e
    congr 1
    refine lt_eq l2 m2 fun x => ⟨fun hx => ?_, fun hx => ?_⟩
    · rcases List.mem_cons.mp ((h x).mp (List.mem_cons_of_mem _ hx)) with e | h2
      · have := l1 x hx
        omega
      · exact h2
    · rcases List.mem_cons.mp ((h x).mpr (List.mem_cons_of_mem _ hx)) with e | h2
      · have := m1 x hx
        omega
      · exact h2
    )]); intro f; simpa using My.gz f 5 true
theorem nd_le : ∀ (l c : List Int), l.Nodup → (∀ x ∈ l, x ∈ c) → l.length ≤ c.length
  | [], _, _, _ => Nat.zero_le _
  | a :: l, c, nd, h => by
    apply My.two; (focus intro zzI; simp only [↓ My.mkB zzI (by
    clear zzI
    obtain ⟨n1, n2⟩ := List.nodup_cons.mp nd
    have ha := h a List.mem_cons_self
    have ih := nd_le l (c.erase a) n2 fun x hx => (List.mem_erase_of_ne (fun e : x = a => n1 (e ▸ hx))).mpr (h x (List.mem_cons_of_mem _ hx))
    have hl := List.length_erase_of_mem ha
    have : 0 < c.length := List.length_pos_of_mem ha
    rw [List.length_cons]
    omega
    )]); intro f; simpa using My.gz f 5 true
section
variable {g : Int → Int} {n : Nat} {d : Int}
theorem Sts.eq {l m : List Int} (a : Sts g d l) (b : Sts g d m) : l = m := lt_eq a.1 b.1 fun x => (a.2 x).trans (b.2 x).symm
theorem Sts.of (p : Per g n) (n0 : 0 < n) {ns : List Int} (h1 : ns.Perm (fnd g n d n)) (h2 : ns.Pairwise (· ≤ ·)) : Sts g d ns :=
  ⟨pw_lt h2 (h1.nodup_iff.mpr (fnd_nodup n (Nat.le_refl _))), fun x => h1.mem_iff.trans (fnd_mem p n0 x)⟩
end
end My
namespace My
/-- how many of the days before i -/
def cI (f : Int → Int) : Nat → Int
  | 0 => 0
  | i + 1 => cI f i + f (i : Int)
/-- how many members lie before x, from day 0 on -/
def ps (f : Int → Int) (n : Nat) (x : Int) : Int := x / (n : Int) * cI f n + cI f (x % (n : Int)).toNat
section
variable {f : Int → Int} {n : Nat}
theorem ps_succ (p : Per f n) (n0 : 0 < n) (x : Int) : ps f n (x + 1) = ps f n x + f x := by
  apply My.two; (focus intro zzI; simp only [↓ My.mkB zzI (by
  clear zzI
  have m0 := Int.emod_nonneg x (show (n : Int) ≠ 0 by omega)
  have m1 := Int.emod_lt_of_pos x (show (0 : Int) < (n : Int) by omega)
  have dm := Int.emod_add_mul_ediv x (n : Int)
  have e := p.emod x
  obtain ⟨t, ht⟩ : ∃ t : Nat, x % (n : Int) = (t : Int) := ⟨_, (Int.toNat_of_nonneg m0).symm⟩
  rw [ht] at e
  unfold ps
  rw [ht, Int.toNat_natCast]
  by_cases h : t + 1 < n
  · have h1 : (x + 1) / (n : Int) = x / (n : Int) := by
      rw [show x + 1 = ((t : Int) + 1) + (n : Int) * (x / (n : Int)) by omega, Int.add_mul_ediv_left _ _ (show (n : Int) ≠ 0 by omega), Int.ediv_eq_zero_of_lt (by omega) (by omega)]
      omega
    have h2 : (x + 1) % (n : Int) = ((t + 1 : Nat) : Int) := by
      rw [show x + 1 = ((t : Int) + 1) + (n : Int) * (x / (n : Int)) by omega, Int.add_mul_emod_self_left, Int.emod_eq_of_lt (by omega) (by omega)]
      omega
    rw [h1, h2, Int.toNat_natCast]
    show _ + (cI f t + f (t : Int)) = _
    omega
  · have hn : n = t + 1 := by omega
    have h1 : (x + 1) / (n : Int) = x / (n : Int) + 1 := by
      rw [show x + 1 = 0 + (n : Int) * (x / (n : Int) + 1) by rw [Int.mul_add]; omega, Int.add_mul_ediv_left _ _ (show (n : Int) ≠ 0 by omega)]
      simp
    have h2 : (x + 1) % (n : Int) = 0 := by
      rw [show x + 1 = 0 + (n : Int) * (x / (n : Int) + 1) by rw [Int.mul_add]; omega, Int.add_mul_emod_self_left]
      simp
    have h3 : cI f n = cI f t + f (t : Int) := by rw [hn]; rfl
    rw [h1, h2, Int.add_mul, Int.one_mul]
    show _ + 0 = _
    omega
  )]); intro f; simpa using My.gz f 5 true
theorem ps_turn (n0 : 0 < n) (x k : Int) : ps f n (x + (n : Int) * k) = ps f n x + k * cI f n := by
  apply My.two; (focus intro zzI; simp only [↓ My.mkB zzI (by
  clear zzI
  unfold ps
  rw [Int.add_mul_ediv_left _ _ (show (n : Int) ≠ 0 by omega), Int.add_mul_emod_self_left, Int.add_mul]
  omega
  )]); intro f; simpa using My.gz f 5 true
theorem ps_mono (p : Per f n) (n0 : 0 < n) (hb : ∀ x, f x = 0 ∨ f x = 1) {x y : Int} (h : x ≤ y) : ps f n x ≤ ps f n y := by
  apply My.two; (focus intro zzI; simp only [↓ My.mkB zzI (by
  clear zzI
  obtain ⟨k, hk⟩ : ∃ k : Nat, y = x + (k : Int) := ⟨(y - x).toNat, by omega⟩
  subst hk
  clear h
  induction k with
  | zero => simp
  | succ k ih =>
    have h1 := ps_succ p n0 (x + (k : Int))
    have h2 := hb (x + (k : Int))
    rw [show x + ((k + 1 : Nat) : Int) = x + (k : Int) + 1 by omega]
    omega
  )]); intro f; simpa using My.gz f 5 true
end
/-- the members before day i -/
def mem1 (r : List Int) (i : Nat) : List Int := (List.range i).filterMap fun j : Nat => if off r (j : Int) = 1 then some (j : Int) else none
section
variable {r : List Int} {i : Nat}
theorem mem1_yes (h : off r (i : Int) = 1) : mem1 r (i + 1) = mem1 r i ++ [(i : Int)] := by
  unfold mem1
  rw [List.range_succ, List.filterMap_append, List.filterMap_cons, if_pos h, List.filterMap_nil]
theorem mem1_no (h : ¬ off r (i : Int) = 1) : mem1 r (i + 1) = mem1 r i := by
  unfold mem1
  rw [List.range_succ, List.filterMap_append, List.filterMap_cons, if_neg h, List.filterMap_nil, List.append_nil]
theorem mem1_len (r : List Int) : ∀ i, (mem1 r i).length ≤ i
  | 0 => Nat.le_refl _
  | i + 1 => by
    apply My.two; (focus intro zzI; simp only [↓ My.mkB zzI (by
    clear zzI
    have := mem1_len r i
    by_cases h : off r (i : Int) = 1
    · rw [mem1_yes h, List.length_append, List.length_singleton]
      omega
    · rw [mem1_no h]
      omega
    )]); intro f; simpa using My.gz f 5 true
theorem mem1_cI (hb : ∀ x, off r x = 0 ∨ off r x = 1) : ∀ i, ((mem1 r i).length : Int) = cI (off r) i
  | 0 => rfl
  | i + 1 => by
    apply My.two; (focus intro zzI; simp only [↓ My.mkB zzI (by
    clear zzI
    have ih := mem1_cI hb i
    show _ = cI (off r) i + off r (i : Int)
    by_cases h : off r (i : Int) = 1
    · rw [mem1_yes h, List.length_append, List.length_singleton]
      omega
    · rw [mem1_no h]
      have := hb (i : Int)
      omega
    )]); intro f; simpa using My.gz f 5 true
theorem mem1_in {x : Int} : x ∈ mem1 r i ↔ ∃ j : Nat, j < i ∧ x = (j : Int) ∧ off r (j : Int) = 1 := by
  apply My.two; (focus intro zzI; simp only [↓ My.mkB zzI (by
  clear zzI
  unfold mem1
  rw [List.mem_filterMap]
  constructor
  · rintro ⟨j, hj, h⟩
    by_cases h2 : off r (j : Int) = 1
    · rw [if_pos h2] at h
      exact ⟨j, List.mem_range.mp hj, (Option.some.inj h).symm, h2⟩
    · rw [if_neg h2] at h
      cases h
  · rintro ⟨j, hj, rfl, h2⟩
    exact ⟨j, List.mem_range.mpr hj, if_pos h2⟩
  )]); intro f; simpa using My.gz f 5 true
theorem mem1_asc (r : List Int) : ∀ i, (mem1 r i).Pairwise (· < ·)
  | 0 => .nil
  | i + 1 => by
    apply My.two; (focus intro zzI; simp only [↓ My.mkB zzI (by
    clear zzI
    by_cases h : off r (i : Int) = 1
    · rw [mem1_yes h]
      refine List.pairwise_append.mpr ⟨mem1_asc r i, by simp, fun a ha b hb => ?_⟩
      obtain rfl := List.mem_singleton.mp hb
      obtain ⟨j, hj, rfl, _⟩ := mem1_in.mp ha
      omega
    · rw [mem1_no h]
      exact mem1_asc r i
    )]); intro f; simpa using My.gz f 5 true
/-- the first i days' members stand first -/
theorem mem1_pre : ∀ (k i : Nat), ∃ t, mem1 r (i + k) = mem1 r i ++ t ∧ ∀ x ∈ t, (i : Int) ≤ x
  | 0, i => ⟨[], by simp, fun x h => by simp at h⟩
  | k + 1, i => by
    apply My.two; (focus intro zzI; simp only [↓ My.mkB zzI (by
    clear zzI
    obtain ⟨t, h1, h2⟩ := mem1_pre k i
    by_cases h : off r ((i + k : Nat) : Int) = 1
    · refine ⟨t ++ [((i + k : Nat) : Int)], ?_, fun x hx => ?_⟩
      · rw [show i + (k + 1) = (i + k) + 1 by omega, mem1_yes h, h1, List.append_assoc]
      · rcases List.mem_append.mp hx with h3 | h3
        · exact h2 x h3
        · obtain rfl := List.mem_singleton.mp h3
          omega
    · refine ⟨t, ?_, h2⟩
      rw [show i + (k + 1) = (i + k) + 1 by omega, mem1_no h, h1]
    )]); intro f; simpa using My.gz f 5 true
/-- a place that parts the members as the search does is the count -/
theorem mem1_part {n t k : Nat} (ht : t ≤ n) (hk : k ≤ (mem1 r n).length) (h1 : ∀ (j : Nat) (v : Int), j < k → (mem1 r n)[j]? = some v → v < (t : Int)) (h2 : ∀ (j : Nat) (v : Int), k ≤ j → (mem1 r n)[j]? = some v → (t : Int) ≤ v) : k = (mem1 r t).length := by
  apply My.two; (focus intro zzI; simp only [↓ My.mkB zzI (by
  clear zzI
  obtain ⟨s, e, hs⟩ := mem1_pre (r := r) (n - t) t
  rw [show t + (n - t) = n by omega] at e
  rcases Nat.lt_trichotomy k (mem1 r t).length with h | h | h
  · have hg : (mem1 r n)[k]? = some (mem1 r t)[k] := by
      rw [e, List.getElem?_append_left h, List.getElem?_eq_getElem h]
    have a := h2 k _ (Nat.le_refl _) hg
    obtain ⟨j, hj, ej, _⟩ := mem1_in.mp (List.getElem_mem h)
    omega
  · exact h
  · have hl : (mem1 r t).length < (mem1 r n).length := by omega
    have hl2 : 0 < s.length := by
      rw [e, List.length_append] at hl
      omega
    have hg : (mem1 r n)[(mem1 r t).length]? = some s[0] := by
      rw [e, List.getElem?_append_right (Nat.le_refl _), Nat.sub_self, List.getElem?_eq_getElem hl2]
    have a := h1 _ _ h hg
    have b := hs _ (List.getElem_mem hl2)
    omega
  )]); intro f; simpa using My.gz f 5 true
theorem mem1_at {n i : Nat} {v : Int} (h : (mem1 r n)[i]? = some v) : ∃ j : Nat, j < n ∧ v = (j : Int) ∧ off r (j : Int) = 1 ∧ (mem1 r j).length = i := by
  apply My.two; (focus intro zzI; simp only [↓ My.mkB zzI (by
  clear zzI
  obtain ⟨j, hj, rfl, h1⟩ := mem1_in.mp (List.mem_of_getElem? h)
  obtain ⟨hi, hv⟩ := List.getElem?_eq_some_iff.mp h
  have asc := List.pairwise_iff_getElem.mp (mem1_asc r n)
  refine ⟨j, hj, rfl, h1, (mem1_part (n := n) (t := j) (k := i) (by omega) (by omega) (fun a w ha hw => ?_) (fun a w ha hw => ?_)).symm⟩
  · obtain ⟨hal, rfl⟩ := List.getElem?_eq_some_iff.mp hw
    rw [← hv]
    exact asc a i hal hi ha
  · obtain ⟨hal, rfl⟩ := List.getElem?_eq_some_iff.mp hw
    rw [← hv]
    rcases Nat.eq_or_lt_of_le ha with e | e
    · subst e
      omega
    · exact Int.le_of_lt (asc i a hi hal e)
  )]); intro f; simpa using My.gz f 5 true
/-- the member with the number k -/
theorem num_ok (r0 : 0 < r.length) (hb : ∀ x, off r x = 0 ∨ off r x = 1) {m : Nat} (hm : (mem1 r r.length).length = m) (m0 : 0 < m) {k v : Int} (hv : (mem1 r r.length)[(k % (m : Int)).toNat]? = some v) :
    off r (k / (m : Int) * (r.length : Int) + v) = 1 ∧ ps (off r) r.length (k / (m : Int) * (r.length : Int) + v) = k := by
  apply My.two; (focus intro zzI; simp only [↓ My.mkB zzI (by
  clear zzI
  obtain ⟨j, hj, rfl, h1, h2⟩ := mem1_at hv
  have k0 := Int.emod_nonneg k (show (m : Int) ≠ 0 by omega)
  have dm := Int.emod_add_mul_ediv k (m : Int)
  have e : k / (m : Int) * (r.length : Int) + (j : Int) = (j : Int) + (r.length : Int) * (k / (m : Int)) := by
    rw [Int.mul_comm]
    omega
  rw [e]
  refine ⟨?_, ?_⟩
  · rw [off_per.mulI]
    exact h1
  · rw [ps_turn r0, ← mem1_cI hb r.length, hm]
    have h3 : ps (off r) r.length (j : Int) = cI (off r) j := by
      unfold ps
      rw [Int.ediv_eq_zero_of_lt (by omega) (by omega), Int.emod_eq_of_lt (by omega) (by omega), Int.toNat_natCast]
      omega
    rw [h3, ← mem1_cI hb j, h2, Int.mul_comm]
    omega
  )]); intro f; simpa using My.gz f 5 true
end
end My
namespace My
/-- o is the first day from x with f = 1, if there is one -/
def FstO (f : Int → Int) (x : Int) : Option Int → Prop
  | none => ∀ y, f y ≠ 1
  | some y => x ≤ y ∧ f y = 1 ∧ ∀ z, x ≤ z → z < y → f z ≠ 1
def LstO (f : Int → Int) (x : Int) : Option Int → Prop
  | none => ∀ y, f y ≠ 1
  | some y => y ≤ x ∧ f y = 1 ∧ ∀ z, y < z → z ≤ x → f z ≠ 1
theorem FstO.uniq {f : Int → Int} {x : Int} : ∀ {o p : Option Int}, FstO f x o → FstO f x p → o = p
  | none, none, _, _ => rfl
  | none, some y, a, b => absurd b.2.1 (a y)
  | some y, none, a, b => absurd a.2.1 (b y)
  | some y, some z, a, b => by
    apply My.two; (focus intro zzI; simp only [↓ My.mkB zzI (by
    clear zzI
    rcases Int.lt_trichotomy y z with h | h | h
    · exact absurd a.2.1 (b.2.2 y a.1 h)
    · rw [h]
    · exact absurd b.2.1 (a.2.2 z b.1 h)
    )]); intro f; simpa using My.gz f 5 true
theorem LstO.uniq {f : Int → Int} {x : Int} : ∀ {o p : Option Int}, LstO f x o → LstO f x p → o = p
  | none, none, _, _ => rfl
  | none, some y, a, b => absurd b.2.1 (a y)
  | some y, none, a, b => absurd a.2.1 (b y)
  | some y, some z, a, b => by
    apply My.two; (focus intro zzI; simp only [↓ My.mkB zzI (by
    clear zzI
    rcases Int.lt_trichotomy y z with h | h | h
    · exact absurd b.2.1 (a.2.2 z h b.1)
    · rw [h]
    · exact absurd a.2.1 (b.2.2 y h a.1)
    )]); intro f; simpa using My.gz f 5 true
end My
namespace My
section
variable {f : Int → Int} {n : Nat}
theorem num_uniq (p : Per f n) (n0 : 0 < n) (hb : ∀ x, f x = 0 ∨ f x = 1) {y z : Int} (h1 : f y = 1) (h2 : f z = 1) (h : ps f n y = ps f n z) : y = z := by
  apply My.two; (focus intro zzI; simp only [↓ My.mkB zzI (by
  clear zzI
  have a := ps_succ p n0 y
  have b := ps_succ p n0 z
  rcases Int.lt_trichotomy y z with c | c | c
  · have := ps_mono p n0 hb (show y + 1 ≤ z by omega)
    omega
  · exact c
  · have := ps_mono p n0 hb (show z + 1 ≤ y by omega)
    omega
  )]); intro f; simpa using My.gz f 5 true
end
end My
namespace My
structure Pc where
  fst : Nat
  last : Nat
  to : Bool
  num : Int
def Pc.at (c : Pc) (d : Nat) : Int := if c.to then c.num - (d : Int) else c.num
def Cov : List Pc → Nat → Nat → Prop
  | [], i, n => i = n
  | c :: cs, i, n => c.fst = i ∧ i ≤ c.last ∧ c.last < n ∧ Cov cs (c.last + 1) n
def Pc.rows (c : Pc) : List Int := (List.range (c.last + 1 - c.fst)).map fun j => c.at (c.fst + j)
def rowsOf (cs : List Pc) : List Int := cs.flatMap Pc.rows
theorem Cov.le : ∀ {cs : List Pc} {i n : Nat}, Cov cs i n → i ≤ n
  | [], i, n, h => Nat.le_of_eq h
  | c :: cs, i, n, h => by
    obtain ⟨h1, h2, h3, h4⟩ := h
    omega
end My
namespace My
open PySem PySem.Spec PyProof.Rows L2
section
variable {X : Cx} {CX : CXT} {n : Nat} {C g : Addr} {sp : Sp} {E : XK}
/-- an instance that is tracked, as the library sees it -/
theorem inst_of {pins : List (Addr × Obj)} {σ : L2.St} {H : Hp} {s : Shared} {a dx : Addr} {fs : List (Str × V)} (I : Inv X pins σ H s) (h : H a = some (.ins C dx fs)) :
    ∃ od, PySem.W.InstAt s.heap a (PySem.W.instObj C dx) C (some od) := by
  apply My.two; (focus intro zzI; simp only [↓ My.mkB zzI (by
  clear zzI
  obtain ⟨mA, O, _⟩ := ins_get I.hok h
  obtain ⟨od, J, _⟩ := O.look
  exact ⟨od, J⟩
  )]); intro f; simpa using My.gz f 5 true
/-- x op y for two instances, by a def of the left one's class -/
def rOwnI (K : PySem.W.Frag) (C : Addr) (sp : Sp) (E : XK) : R2 := fun x y H Q =>
  ∃ a dx fs b C' dy gs, x = .ref a ∧ y = .ref b ∧ H a = some (.ins C dx fs) ∧ H b = some (.ins C' dy gs) ∧ PySem.W.notFirst K C (.ref C') = true ∧ sp [x, y] H Q E
theorem op_ownI {op : CmpOp} (hop : ∀ a b, compareOp op a b = richCompare op a b) (hs : PySem.W.findIn X.K (.ref C) (cmpInfo op).2.1 = some (some (.ref g)))
    (hf : PySem.W.isFn X.K (.ref g) = true) (F : FnR X.prog X.w X.K X.mg X.base CX n g sp) (hr : Room n X.A) (hx : Passes CX X E) :
    OpR X (compareOp op) (rOwnI X.K C sp E) := by
  apply My.two; (focus intro zzI; simp only [↓ My.mkB zzI (by
  clear zzI
  intro pins s σ H x y v u Q I rx ry h
  obtain ⟨a, dx, fs, b, C', dy, gs, rfl, rfl, ha, hb, hn, q⟩ := h
  obtain rfl : v = Value.ref a := rx
  obtain rfl : u = Value.ref b := ry
  obtain ⟨od, J⟩ := inst_of I ha
  obtain ⟨od', J'⟩ := inst_of I hb
  obtain ⟨m, hF⟩ := I.fr
  rw [hop]
  refine PySem.W.cmp_K (op := op) (tb := .ref C') hr.units0 hF I.ok.mod.kin J J'.type hn hs hf ?_
  have vs2 : Vals [V.ref a, V.ref b] [Value.ref a, Value.ref b] := .cons rfl (.cons rfl .nil)
  refine thn (wpAny_call (run_fnR F hr hx I vs2 q)) fun w s' z => ?_
  obtain ⟨z', H', I', rz, qz⟩ := z
  exact SlX.cmpback rz ⟨z', H', I', rz, qz⟩
  )]); intro f; simpa using My.gz f 5 true
end
def tPropR (C : Addr) (sp : Sp) (E : XK) (ta : TE) : TE := fun σ H Q => ta σ H fun x H1 => ∃ a dx fs, x = .ref a ∧ H1 a = some (.ins C dx fs) ∧ sp [.ref a] H1 Q E
section
variable {X : Cx} {CX : CXT} {k : Nat} {C p g : Addr} {f : Str} {sp : Sp} {E : XK} {e : Expr} {pos : Pos} {ta : TE}
theorem pe_propR (he : PE X e ta) (c : Cls X.K C) (hp : PropOf X.K C f p g) (F : FnR X.prog X.w X.K X.mg X.base CX k g sp) (hr : Room (k + 1) X.A)
    (hx : Passes CX X.nox E) (hab : attributeBase e f X.env (eval e X.env) = eval e X.env := by rfl) : PE X (.Attribute e f pos) (tPropR C sp E ta) := by
  apply My.two; (focus intro zzI; simp only [↓ My.mkB zzI (by
  clear zzI
  refine ⟨fun pins s σ H Q I h => attr_of hab (thn (he.run pins s σ H _ I h) fun u s1 z => ?_)⟩
  obtain ⟨x, H1, I1, rx, a, dx, fs, ex, ea, q⟩ := z
  subst ex
  obtain rfl : u = Value.ref a := rx
  obtain ⟨od, J⟩ := inst_of I1 ea
  obtain ⟨rest, hrec⟩ := hp.rec_
  have I2 := I1.tok (s1.toks + 1)
  have isC : (PySem.W.clsIn X.K C).isSome = true := by
    obtain ⟨cd, hcd, _⟩ := PySem.W.any_some c.hd
    rw [hcd]
    rfl
  refine PySem.W.get_bind I1.kIn J (PySem.W.plainGet_of (c.get f)).1 (PySem.W.findObj_data isC hp.at_ hp.get hp.tak) (PySem.W.plainGet_of (c.get f)).2
    (wpAny_call (PySem.W.prop_get (s := { s1 with toks := s1.toks + 1 }) I1.kIn hrec ?_))
  have v1 : Vals [V.ref a] [Value.ref a] := .cons rfl .nil
  refine codeAny_mono (F X.A.in1 X.stack _ H1 _ _ Q E hr.in1 I2.env0.in1 v1 q) fun r s' hq => ?_
  rcases r with er | fl
  · exact False.elim (hx pins σ H1 { s1 with toks := s1.toks + 1 } er s' (I2.wish _) hq)
  · cases fl with
    | ret w =>
      obtain ⟨v, H', I3, rv, q3⟩ := I2.after hq
      show wpAny _ _ (handedOut w) _ _ _
      rw [PySem.W.handedOut_of (handed_of rv)]
      exact wpAny_pure ⟨v, H', I3, rv, q3⟩
    | next => exact False.elim hq
    | brk => exact False.elim hq
    | cont => exact False.elim hq
  )]); intro f; simpa using My.gz f 5 true
end
def tFn (sp : Sp) (E : XK) (t : TA) : TE := fun σ H Q => t σ H fun vs H1 => sp vs H1 Q E
section
variable {X : Cx} {CX : CXT} {k i : Nat} {C f p g : Addr} {mc : Value} {sp : Sp} {E : XK} {x m : Str} {e o : Expr} {es : List Expr} {ta : TE} {t : TA} {np pos apos : Pos} {pl : Sem Bool}
/-- x(e, ..), x a def of the module -/
theorem pe_fR (F : FnR X.prog X.w X.K X.mg X.base CX k f sp) (hk : PySem.W.keepIn X.K (.ref f) = true) (hm : X.mg x = some (.ref f)) (hr : Room k X.A) (hx : Passes CX X E) (ha : PA X (e :: es) t)
    (hg : Gl X x := by rfl) (hd : (x == ("__debug__" : Str)) = false := by decide) (hse : starEach (e :: es) X.env = (false, eval e X.env) :: starEach es X.env := by rfl)
    (hpl : (backTo pos (starEach es X.env)).any (·.1) = false := by rfl) : PE X (.Call (.Name x np) (e :: es) [] pos) (tFn sp E t) := by
  refine ⟨fun pins s σ H Q I h => wpAny_Call_Name_kw (ld_glob I hg hm ?_ hd)⟩
  refine PySem.W.callWith_K (h₀ := X.base) I.ok.mod.kin hk (thn (ha.run pos pins s σ H _ I h) fun us s1 z => ?_) hse hpl
  obtain ⟨vs, H1, I1, r, q⟩ := z
  exact ⟨I1.kIn, wpAny_call (run_fnR F hr hx I1 r q)⟩
/-- o.m() of an instance -/
theorem pe_m0R (he : PE X o ta) (c : Cls X.K C) (hm : Meth X.K C m f) (F : FnR X.prog X.w X.K X.mg X.base CX k f sp) (hr : Room k X.A) (hx : Passes CX X E)
    (ht : eval (.Call (.Attribute o m apos) [] [] pos) X.env = (do
      let ov ← eval o X.env
      standAt apos.atName
      let (f, first) ← holding [ov] (getMethod ov m pl)
      callWith pos f first (backTo pos (starEach [] X.env)) (backToKw pos (keywordEach [] X.env))) := by rfl) :
    PE X (.Call (.Attribute o m apos) [] [] pos) (tMethR C m sp E ta tNil) := by
  refine ⟨fun pins s σ H Q I h => PySem.W.methodCall_KW (pl := pl) (thn (he.run pins s σ H _ I h) fun u s1 z => ?_) ht⟩
  obtain ⟨y, H1, I1, ry, a, dx, fs, ey, ea, l, q⟩ := z
  subst ey
  obtain rfl : u = Value.ref a := ry
  have v1 : Vals [V.ref a] [Value.ref a] := .cons rfl .nil
  exact getmeth_ok I1 ea c hm l (PySem.W.callWith_K0 (first := [.ref a]) I1.kIn hm.kp (wpAny_call (run_fnR F hr hx I1 v1 q)))
/-- x(e, ..), x a local name that holds the class at C -/
def tMakeV (i : Nat) (C : Addr) (sp : Sp) (E : XK) (t : TA) : TE := fun σ H Q => σ[i]? = some (some (.ref C)) ∧ StX.tMakeR C sp E t σ H Q
theorem pe_makeV (M : Mk X.K C f) (F : FnR X.prog X.w X.K X.mg X.base CX k f sp) (hr : Room (k + 1) X.A) (hx : Passes CX X E) (ha : PA X (e :: es) t) (hN : X.N[i]? = some x := by rfl)
    (hv : Vis X.env.scope x := by first | exact Or.inl rfl | exact Or.inr (Or.inl rfl) | exact Or.inr (Or.inr rfl))
    (hd : (x == ("__debug__" : Str)) = false := by decide) (hcd : (x == ("__classdict__" : Str)) = false := by decide)
    (hse : starEach (e :: es) X.env = (false, eval e X.env) :: starEach es X.env := by rfl)
    (hpl : (backTo pos (starEach es X.env)).any (·.1) = false := by rfl) : PE X (.Call (.Name x np) (e :: es) [] pos) (tMakeV i C sp E t) := by
  refine ⟨fun pins s σ H Q I h => ?_⟩
  obtain ⟨hs, h⟩ := h
  have hvar := (pe_var (pos := np) (i := i) hN hv hd hcd).run pins s σ H (fun v H1 => v = .ref C ∧ H1 = H) I ⟨.ref C, hs, rfl, rfl⟩
  refine wpAny_Call_Name_kw (thn hvar fun u s1 z => ?_)
  obtain ⟨v, H1, I1, r1, ev, eH⟩ := z
  subst ev
  rw [eH] at I1
  obtain rfl : u = Value.ref C := r1
  refine PySem.W.callWith_K (h₀ := X.base) I.ok.mod.kin M.kp (thn (ha.run pos pins s1 σ H _ I1 h) fun us s2 z => ?_) hse hpl
  obtain ⟨vs, H2, I2, r, q⟩ := z
  exact ⟨I2.kIn, StX.run_makeR M F hr hx I2 r q⟩
end
end My
namespace My
open PySem PySem.Spec PyProof.Rows L2
abbrev Fg := PySem.W.Frag
/-- the hook's look -/
def seeX (fa : List (Fg → Bool)) (fn : List He5.DefA) (K : Fg) : He.AlD := (fa.all (fun f => f K) && fn.all (fun d => d.ok K), fn.map fun d => He5.fnA K (d.at_ K))
def dueX (fn : List He5.DefA) : He.AlD := (true, fn.map He5.DefA.val)
/-- what some addresses reach in n steps -/
def front (g : Addr → Option Obj) : Nat → List Addr → List Addr
  | 0, as => as
  | n + 1, as => as ++ front g n (as.flatMap fun a => match g a with
    | some o => He.refsD o
    | none => [])
/-- the module's names, what some of them reach in n steps, and the interpreter's own statics -/
def asW (ns : List Str) (n : Nat) (g : Addr → Option Obj) : List Addr := mainGlobals :: cStatics :: sysModules :: front g n (ns.map (He.ga (He.frG g [mainGlobals])))
def seeG (ns : List Str) (n : Nat) (fa : List (Fg → Bool)) (fn : List He5.DefA) (g : Addr → Option Obj) : He.AlD := seeX fa fn (He.frG g (asW ns n g))
def hookX (ns : List Str) (n : Nat) (fa : List (Fg → Bool)) (fn : List He5.DefA) : PySem.W.Hook where
  α := He.AlD
  obs := fun s => seeG ns n fa fn s.heap.get?
  val := fun _ => dueX fn
  says := fun _ h => ∃ K : Fg, K.In h ∧ seeX fa fn K = dueX fn
  of := fun _ _ e => ⟨_, He.frG_in, e⟩
  keeps := fun _ _ _ z k => z.elim fun K q => ⟨K, PySem.W.Frag.In.keeps q.1 k, q.2⟩
theorem seeG_eq {ns : List Str} {n : Nat} {fa : List (Fg → Bool)} {fn : List He5.DefA} {g : Addr → Option Obj} {s : Shared} (h : ∀ a, g a = s.heap.get? a) : seeG ns n fa fn g = (hookX ns n fa fn).obs s := by
  obtain rfl : g = s.heap.get? := funext h
  rfl
structure TxOf (fa : List (Fg → Bool)) (fn : List He5.DefA) (K : Fg) (mg : Str → Option Value) : Prop where
  inn : ∃ h : Heap, K.In h ∧ h.Ns mainGlobals mg
  says : seeX fa fn K = dueX fn
section
variable {fa : List (Fg → Bool)} {fn : List He5.DefA} {K : Fg} {mg : Str → Option Value}
theorem TxOf.fact (T : TxOf fa fn K mg) (i : Nat) {f : Fg → Bool} (h : fa[i]? = some f := by rfl) : f K = true := by
  apply My.two; (focus intro zzI; simp only [↓ My.mkB zzI (by
  clear zzI
  have e : (fa.all (fun f => f K) && fn.all (fun d => d.ok K)) = true := congrArg (fun z : He.AlD => z.1) T.says
  have e1 := List.all_eq_true.mp (He.ba e).1
  exact e1 f (List.mem_of_getElem? h)
  )]); intro f; simpa using My.gz f 5 true
theorem TxOf.fund (T : TxOf fa fn K mg) (i : Nat) {d : He5.DefA} (h : fn[i]? = some d := by rfl) : ∃ fd, FunD K d.name d.qual d.params d.body d.scope (d.dvs K) (d.kws K) (d.at_ K) fd := by
  apply My.two; (focus intro zzI; simp only [↓ My.mkB zzI (by
  clear zzI
  have e : (fa.all (fun f => f K) && fn.all (fun d => d.ok K)) = true := congrArg (fun z : He.AlD => z.1) T.says
  have e1 := List.all_eq_true.mp (He.ba e).2 d (List.mem_of_getElem? h)
  have e2 : fn.map (fun d => He5.fnA K (d.at_ K)) = fn.map He5.DefA.val := congrArg (fun z : He.AlD => z.2) T.says
  have e3 := congrArg (fun l => l[i]?) e2
  simp only [List.getElem?_map, h, Option.map_some, Option.some.injEq] at e3
  exact He5.DefA.funD e3 e1
  )]); intro f; simpa using My.gz f 5 true
theorem TxOf.glo (T : TxOf fa fn K mg) {x : Str} (c : (He.Fa.glo x).ok K = true) : mg x = some (.ref (He.ga K x)) := T.inn.elim fun _ q => He.glo_ok q.1 q.2 c
theorem TxOf.free (T : TxOf fa fn K mg) {x : Str} (c : (He.Fa.free x).ok K = true) : mg x = none := T.inn.elim fun _ q => He.free_ok q.1 q.2 c
theorem TxOf.int (T : TxOf fa fn K mg) {x : Str} {i : Int} (c : (He.Fa.int x i).ok K = true) : ∃ t, mg x = some (.int i t) := T.inn.elim fun _ q => He.int_ok q.1 q.2 c
/-- a def keeps its promise, by positional values: no defaults, nothing raised -/
theorem TxOf.fnR {P : Program} {w : World} {base : Heap} (T : TxOf fa fn K mg) (i : Nat) {x qual : Str} {st : Stmt} {at_ : Fg → Addr} {N ps : List Str} {k : Nat} {sp : Sp}
    (hi : fn[i]? = some ⟨at_, x, qual, defArgs st, defBody st, defScope st, [], []⟩) (S : FnScope N ps (defScope st))
    (hb : ∀ (kV doc pm : Value) (an : Option Addr) (cdv ct : Value) (us : List Value), us.length = ps.length →
      bindArgs (PySem.W.fnOf x qual (defArgs st) (defBody st) (defScope st) .none kV doc pm an cdv ct) ⟨us, []⟩ = pure (ps.zip us))
    (len : ∀ vs H Q E, sp vs H Q E → vs.length = ps.length)
    (hbody : ∀ (cdv : Value) (A : Around) (outer : List Env) (s : Shared) (H : Hp) (vs : List V) (Q : VK) (E : XK), Room k (A.deeper (envOfC qual (defScope st) s.heap.objs.size (at_ K) cdv)) → sp vs H Q E →
      ∃ t, PSs (cxOf CX0 P w K mg base N qual (defScope st) (at_ K) cdv A outer s H E).nox (defBody st) t ∧ t { nx := fun _ H' => Q .non H', rt := Q } (start N vs) H) :
    FnR P w K mg base CX0 (k + 1) (at_ K) sp := by
  apply My.two; (focus intro zzI; simp only [↓ My.mkB zzI (by
  clear zzI
  obtain ⟨fd, F⟩ := T.fund i hi
  have F0 : FunD K x qual (defArgs st) (defBody st) (defScope st) [] [] (at_ K) fd := F
  have G : FnOk P w K mg base CX0 (k + 1) (at_ K) fd ps sp := F0.ok S len fun cdv A outer s H vs Q E hr h => by
    obtain ⟨t, h1, h2⟩ := hbody cdv A outer s H vs Q E hr h
    exact ⟨t, h1.nox, h2⟩
  exact (G.raw (F0.bindsN hb) .nil).imp fun vs H Q E h => by
    rw [List.append_nil]
    exact h
  )]); intro f; simpa using My.gz f 5 true
theorem TxOf.kp (T : TxOf fa fn K mg) (i : Nat) {x qual : Str} {st : Stmt} {at_ : Fg → Addr} (hi : fn[i]? = some ⟨at_, x, qual, defArgs st, defBody st, defScope st, [], []⟩) : PySem.W.keepIn K (.ref (at_ K)) = true := by
  obtain ⟨fd, F⟩ := T.fund i hi
  exact F.kp
end
def propB (C f : Str) (K : Fg) : Bool := He.eqO (PySem.W.findIn K (.ref (He.ga K C)) f) (some (some (.ref (He.ma K (He.ga K C) f)))) &&
  (He.eqO (PySem.W.specialIn K (.ref (He.ma K (He.ga K C) f)) "__get__") (some (some (.builtin "property.__get__"))) && (decide (PySem.W.takesIn K (.ref (He.ma K (He.ga K C) f)) = some true) &&
  (match PySem.W.recIn K (He.ma K (He.ga K C) f) "property" with
    | some (.ref _ :: _) => true
    | _ => false)))
theorem propB_ok {C f : Str} {K : Fg} (h : propB C f K = true) : PropOf K (He.ga K C) f (He.ma K (He.ga K C) f) (He5.wf K (He.ga K C) "property" f) := by
  apply My.two; (focus intro zzI; simp only [↓ My.mkB zzI (by
  clear zzI
  obtain ⟨h1, h⟩ := He.ba h
  obtain ⟨h2, h⟩ := He.ba h
  obtain ⟨h3, h4⟩ := He.ba h
  refine ⟨He.eqO_ok h1, He.eqO_ok h2, of_decide_eq_true h3, ?_⟩
  unfold He5.wf
  split at h4
  · rename_i f r e
    exact ⟨r, by rw [e]⟩
  · cases h4
  )]); intro f; simpa using My.gz f 5 true
def cmB (C m : Str) (K : Fg) : Bool := He5.wrapB K (He.ga K C) "classmethod" "classmethod.__get__" m && PySem.W.fnIn K (He5.wf K (He.ga K C) "classmethod" m)
theorem cmB_ok {C m : Str} {K : Fg} (h : cmB C m K = true) : ClX.CMet K (He.ga K C) (.type "type") m (He.ma K (He.ga K C) m) (He5.wf K (He.ga K C) "classmethod" m) :=
  He5.cmet_of (He.ba h).1 (He.ba h).2
def crB (C : Str) (K : Fg) : Bool := PySem.W.readsIn K (He.ga K C) (.type "type") && He.eqO (PySem.W.specialIn K (.ref (He.ga K C)) "__getattribute__") (some (some (.builtin "type.__getattribute__")))
theorem crB_ok {C : Str} {K : Fg} (h : crB C K = true) : ClX.CRead K (He.ga K C) (.type "type") := ⟨(He.ba h).1, He.eqO_ok (He.ba h).2⟩
/-- an own special method -/
def spB (C m : Str) (K : Fg) : Bool := He.eqO (PySem.W.findIn K (.ref (He.ga K C)) m) (some (some (.ref (He.ma K (He.ga K C) m)))) && PySem.W.isFn K (.ref (He.ma K (He.ga K C) m))
theorem spB_ok {C m : Str} {K : Fg} (h : spB C m K = true) : PySem.W.findIn K (.ref (He.ga K C)) m = some (some (.ref (He.ma K (He.ga K C) m))) ∧ PySem.W.isFn K (.ref (He.ma K (He.ga K C) m)) = true :=
  ⟨He.eqO_ok (He.ba h).1, (He.ba h).2⟩
def firstB (C : Str) (K : Fg) : Bool := PySem.W.selfFirst K (He.ga K C) && PySem.W.notFirst K (He.ga K C) (.ref (He.ga K C))
/-- what isinstance asks of the class of an instance -/
def tyB (C : Str) (K : Fg) : Bool := He.eqO (PySem.W.findIn K (.ref (He.ga K C)) "__class__") (some (some (.builtin "object.__class__"))) &&
  (He.eqO (PySem.W.specialIn K (.builtin "object.__class__") "__get__") (some (some (.builtin "getset_descriptor.__get__"))) &&
  (decide (PySem.W.takesIn K (.builtin "object.__class__") = some true) && decide (PySem.W.mroIn K (He.ga K C) (.type "object") = some true)))
theorem tyB_ok {C : Str} {K : Fg} (h : tyB C K = true) (c : Cls K (He.ga K C)) {H : Hp} {a dx : Addr} {fs : List (Str × V)} (e : H a = some (.ins (He.ga K C) dx fs)) : TyX K H (.ref a) (.ref (He.ga K C)) := by
  apply My.two; (focus intro zzI; simp only [↓ My.mkB zzI (by
  clear zzI
  obtain ⟨h1, h⟩ := He.ba h
  obtain ⟨h2, h⟩ := He.ba h
  obtain ⟨h3, h4⟩ := He.ba h
  exact .base (.ins e c (He.eqO_ok h1) (He.eqO_ok h2) (of_decide_eq_true h3) (of_decide_eq_true h4))
  )]); intro f; simpa using My.gz f 5 true
def isiB (C D : Str) (b : Bool) (K : Fg) : Bool := decide (PySem.W.kitOne K (.ref (He.ga K C)) (.ref (He.ga K D)) = some b)
theorem isiB_ok {C D : Str} {b : Bool} {K : Fg} (h : isiB C D b K = true) : PySem.W.kitOne K (.ref (He.ga K C)) (.ref (He.ga K D)) = some b := of_decide_eq_true h
theorem eqvAll_ints : ∀ xs ys : List Int, PyData.eqvAll (xs.map PyData.int) (ys.map PyData.int) = decide (xs = ys)
  | [], [] => by simp [PyData.eqvAll]
  | [], y :: ys => by simp [PyData.eqvAll]
  | x :: xs, [] => by simp [PyData.eqvAll]
  | x :: xs, y :: ys => by
    apply My.two; (focus intro zzI; simp only [↓ My.mkB zzI (by
    clear zzI
    have ih := eqvAll_ints xs ys
    simp only [List.map_cons, PyData.eqvAll, PyData.eqv, ih]
    by_cases h1 : x = y <;> by_cases h2 : xs = ys <;> simp [h1, h2]
    )]); intro f; simpa using My.gz f 5 true
theorem canLay_ints : ∀ xs : List Int, PyData.canLayAll0 (xs.map PyData.int) = true
  | [] => by simp [PyData.canLayAll0]
  | x :: xs => by simp [PyData.canLayAll0, PyData.canLay0, canLay_ints xs]
theorem depth_ints : ∀ xs : List Int, PyData.depthAll (xs.map PyData.int) ≤ 1
  | [] => by simp [PyData.depthAll]
  | x :: xs => by
    apply My.two; (focus intro zzI; simp only [↓ My.mkB zzI (by
    clear zzI
    have := depth_ints xs
    simp [PyData.depthAll, PyData.depth]
    omega
    )]); intro f; simpa using My.gz f 5 true
theorem shaped_list (xs : List Int) : SeqAt.shaped (.list (xs.map PyData.int)) = true := by
  apply My.two; (focus intro zzI; simp only [↓ My.mkB zzI (by
  clear zzI
  have := depth_ints xs
  simp [SeqAt.shaped, PyData.canLay0, PyData.depth, canLay_ints]
  omega
  )]); intro f; simpa using My.gz f 5 true
theorem shaped_tup (xs : List Int) : SeqAt.shaped (.tuple (xs.map PyData.int)) = true := by
  apply My.two; (focus intro zzI; simp only [↓ My.mkB zzI (by
  clear zzI
  have := depth_ints xs
  simp [SeqAt.shaped, PyData.canLay0, PyData.depth, canLay_ints]
  omega
  )]); intro f; simpa using My.gz f 5 true
theorem dp_ints {K : Fg} {H : Hp} : ∀ xs : List Int, DpAll K H (xs.map V.int) (xs.map PyData.int)
  | [] => .nil
  | x :: xs => .cons (.int x) (dp_ints xs)
def rEqI (K : Fg) (neg : Bool) : R2 := fun x y H Q => ∃ (a b : Addr) (xs ys : List Int), x = .ref a ∧ y = .ref b ∧
  ((SqL K H a (xs.map V.int) ∧ SqL K H b (ys.map V.int)) ∨ (SqT K H a (xs.map V.int) ∧ SqT K H b (ys.map V.int))) ∧ Q (.bl (if neg then !decide (xs = ys) else decide (xs = ys))) H
section
variable {X : Cx}
/-- two lists, two tuples of ints: == -/
theorem op_eqI (hu : X.A.units + 64 < cLine) : OpR X (compareOp .Eq) (rEqI X.K false) := by
  apply My.two; (focus intro zzI; simp only [↓ My.mkB zzI (by
  clear zzI
  intro pins s σ H x y v u Q I rx ry h
  obtain ⟨a, b, xs, ys, rfl, rfl, h, q⟩ := h
  rcases h with ⟨h1, h2⟩ | ⟨h1, h2⟩
  · refine op_eqD hu pins s σ H (.ref a) (.ref b) v u Q I rx ry ⟨_, _, .lst h1 (dp_ints xs), .lst h2 (dp_ints ys), ?_, ?_, ?_⟩
    · first | exact shaped_list _ | exact shaped_tup _
    · first | exact shaped_list _ | exact shaped_tup _
    · rw [PyData.eqv, eqvAll_ints]
      exact q
  · refine op_eqD hu pins s σ H (.ref a) (.ref b) v u Q I rx ry ⟨_, _, .tup h1 (dp_ints xs), .tup h2 (dp_ints ys), ?_, ?_, ?_⟩
    · first | exact shaped_list _ | exact shaped_tup _
    · first | exact shaped_list _ | exact shaped_tup _
    · rw [PyData.eqv, eqvAll_ints]
      exact q
  )]); intro f; simpa using My.gz f 5 true
/-- .. and != -/
theorem op_neI (hu : X.A.units + 64 < cLine) : OpR X (compareOp .NotEq) (rEqI X.K true) := by
  apply My.two; (focus intro zzI; simp only [↓ My.mkB zzI (by
  clear zzI
  intro pins s σ H x y v u Q I rx ry h
  obtain ⟨a, b, xs, ys, rfl, rfl, h, q⟩ := h
  rcases h with ⟨h1, h2⟩ | ⟨h1, h2⟩
  · refine op_neD hu pins s σ H (.ref a) (.ref b) v u Q I rx ry ⟨_, _, .lst h1 (dp_ints xs), .lst h2 (dp_ints ys), ?_, ?_, ?_⟩
    · first | exact shaped_list _ | exact shaped_tup _
    · first | exact shaped_list _ | exact shaped_tup _
    · rw [PyData.eqv, eqvAll_ints]
      exact q
  · refine op_neD hu pins s σ H (.ref a) (.ref b) v u Q I rx ry ⟨_, _, .tup h1 (dp_ints xs), .tup h2 (dp_ints ys), ?_, ?_, ?_⟩
    · first | exact shaped_list _ | exact shaped_tup _
    · first | exact shaped_list _ | exact shaped_tup _
    · rw [PyData.eqv, eqvAll_ints]
      exact q
  )]); intro f; simpa using My.gz f 5 true
end
theorem sz {n : Nat} (h : n ≤ 1000000) : n ≤ sizeLine := Nat.le_trans h (by decide)
theorem szl {n : Nat} (h : n < 1000000) : n < sizeLine := Nat.lt_of_lt_of_le h (by decide)
/-- a turn of a while that goes on -/
theorem wh_go {W : Nat → L2.St → Hp → Prop} {m : Nat} {tb : TS} {D : Ends} {σ : L2.St} {H : Hp}
    (h : tb { D with nx := fun σ' H' => ∃ m', m' < m ∧ W m' σ' H', ct := fun σ' H' => ∃ m', m' < m ∧ W m' σ' H', bk := D.nx } σ H) :
    ∃ N : L2.St → Hp → Prop, (∀ σ' H', N σ' H' → ∃ m', m' < m ∧ W m' σ' H') ∧ tb { D with nx := N, ct := N, bk := D.nx } σ H := ⟨_, fun _ _ z => z, h⟩
theorem abs_nat (a : Nat) : (if (a : Int) < 0 then -(a : Int) else (a : Int)) = (a : Int) := if_neg (by omega)
theorem cut_from {xs : List V} (d : Nat) : cutV xs (some (d : Int)) none = xs.drop d := by
  apply My.two; (focus intro zzI; simp only [↓ My.mkB zzI (by
  clear zzI
  unfold cutV
  rw [HT.sIx_nat, HT.sIx_none]
  by_cases h : d ≤ xs.length
  · rw [Nat.min_eq_left h, List.take_of_length_le]
    rw [List.length_drop]
    exact Nat.le_refl _
  · rw [Nat.min_eq_right (by omega), List.drop_of_length_le (Nat.le_refl _), List.drop_of_length_le (by omega), List.take_nil]
  )]); intro f; simpa using My.gz f 5 true
theorem cut_to {xs : List V} (d : Nat) : cutV xs none (some (d : Int)) = xs.take d := by
  apply My.two; (focus intro zzI; simp only [↓ My.mkB zzI (by
  clear zzI
  unfold cutV
  rw [HT.sIx_nat, HT.sIx_none, List.drop_zero, Nat.sub_zero]
  by_cases h : d ≤ xs.length
  · rw [Nat.min_eq_left h]
  · rw [Nat.min_eq_right (by omega), List.take_of_length_le (Nat.le_refl _), List.take_of_length_le (by omega)]
  )]); intro f; simpa using My.gz f 5 true
theorem cut_back {xs : List V} {d : Nat} (h0 : 0 < d) : cutV xs none (some (-(d : Int))) = xs.take (xs.length - d) := by
  apply My.two; (focus intro zzI; simp only [↓ My.mkB zzI (by
  clear zzI
  unfold cutV
  rw [HT.sIx_none, List.drop_zero, Nat.sub_zero]
  have e : HT.sIx xs.length xs.length (some (-(d : Int))) = xs.length - d := by
    show (if (-(d : Int)) < 0 then (-(d : Int) + (xs.length : Int)).toNat else min (-(d : Int)).toNat xs.length) = _
    rw [if_pos (by omega)]
    omega
  rw [e]
  )]); intro f; simpa using My.gz f 5 true
theorem same_upd {H : Hp} {p : Addr} {o : HO} (h : H p = none) : Same H (upd H p o) := fun b u e => by
  rw [upd_ne (ne_of_none e h)]
  exact e
theorem same_tup {H H' : Hp} {K : Fg} {a : Addr} {xs : List V} (s : Same H H') (h : SqT K H a xs) : SqT K H' a xs := by
  apply My.two; (focus intro zzI; simp only [↓ My.mkB zzI (by
  clear zzI
  rcases h with (h | ⟨o, h⟩) | h
  · exact .inl (.inl (s _ _ h))
  · exact .inl (.inr ⟨o, s _ _ h⟩)
  · exact .inr h
  )]); intro f; simpa using My.gz f 5 true
theorem mapInt_take (xs : List Int) (d : Nat) : (xs.map V.int).take d = (xs.take d).map V.int := (List.map_take).symm
theorem mapInt_get {xs : List Int} {j : Nat} {i : Int} (h : xs[j]? = some i) : (xs.map V.int)[j]? = some (V.int i) := by
  rw [List.getElem?_map, h]
  rfl
/-- the same slots, written otherwise -/
theorem at_st {W : L2.St → Hp → Prop} {σ σ' : L2.St} {H : Hp} (e : σ = σ') (h : W σ' H) : W σ H := e ▸ h
def Acc (H1 : Hp) (D : Addr) (f : Nat → V) (i : Nat) (H : Hp) : Prop := Same H1 H ∧ H D = some (.lst ((List.range i).map f))
theorem Acc.start {H1 : Hp} {D : Addr} {f : Nat → V} (hD : H1 D = none) : Acc H1 D f 0 (upd H1 D (.lst [])) := ⟨same_upd hD, upd_same⟩
theorem same_under {H1 H : Hp} {D : Addr} {o : HO} (s : Same H1 H) (hD : H1 D = none) : Same H1 (upd H D o) := fun b u e => by
  rw [upd_ne (ne_of_none e hD)]
  exact s b u e
theorem range_push {f : Nat → V} (i : Nat) : (List.range i).map f ++ [f i] = (List.range (i + 1)).map f := by
  rw [List.range_succ, List.map_append]
  rfl
theorem Acc.push {H1 H H4 : Hp} {D : Addr} {f : Nat → V} {i : Nat} {y : V} (a : Acc H1 D f i H) (hD : H1 D = none) (s : Same H H4) (hi : i < 1000000) (e : y = f i) :
    ∃ acc, H4 D = some (.lst acc) ∧ acc.length < sizeLine ∧ Acc H1 D f (i + 1) (upd H4 D (.lst (acc ++ [y]))) := by
  apply My.two; (focus intro zzI; simp only [↓ My.mkB zzI (by
  clear zzI
  refine ⟨_, s _ _ a.2, ?_, same_under (a.1.trans s) hD, ?_⟩
  · rw [List.length_map, List.length_range]
    exact szl hi
  · rw [upd_same, e, range_push]
  )]); intro f; simpa using My.gz f 5 true
section
variable {fa : List (Fg → Bool)} {fn : List He5.DefA} {K : Fg} {mg : Str → Option Value} {X : Cx}
def rLenQ (K : Fg) : List V → Hp → VK → Prop := fun xs H Q => ∃ p ys, xs = [.ref p] ∧ (SqL K H p ys ∨ SqT K H p ys) ∧ Q (.int (ys.length : Int)) H
def rListQ (K : Fg) : List V → Hp → VK → Prop := fun xs H Q => ∃ p ys, xs = [.ref p] ∧ (SqL K H p ys ∨ SqT K H p ys) ∧ ∀ l, H l = none → Q (.ref l) (upd H l (.lst ys))
def rTupQ (K : Fg) : List V → Hp → VK → Prop := fun xs H Q => ∃ p ys, xs = [.ref p] ∧ ((SqL K H p ys ∧ ∀ l, H l = none → Q (.ref l) (upd H l (.tup ys))) ∨ (SqT K H p ys ∧ Q (.ref p) H))
theorem len_k (T : TxOf fa fn K mg) (hK : X.K = K := by rfl) : CallR X (.builtin "len") (rLenQ K) := by subst hK; exact call_len_seq
theorem lst_k (T : TxOf fa fn K mg) (hK : X.K = K := by rfl) : CallR X (.type "list") (rListQ K) := by subst hK; exact call_list_of
theorem tup_k (T : TxOf fa fn K mg) (hK : X.K = K := by rfl) : CallR X (.type "tuple") (rTupQ K) := by subst hK; exact call_tuple_of
theorem isi_k (T : TxOf fa fn K mg) (hK : X.K = K := by rfl) : CallR X (.builtin "isinstance") (rIsi K) := by subst hK; exact call_isi
theorem isiT_k (T : TxOf fa fn K mg) (hK : X.K = K := by rfl) : CallR X (.builtin "isinstance") (rIsiT K) := by subst hK; exact call_isiT
theorem all_k (T : TxOf fa fn K mg) (hc : X.calm = true) (hK : X.K = K := by rfl) : CallR X (.builtin "all") (rAll K) := by subst hK; exact cr_all hc
theorem ixl (T : TxOf fa fn K mg) (hK : X.K = K := by rfl) : IxR X (rIxL K) := by subst hK; exact ix_list
theorem ixt (T : TxOf fa fn K mg) (hK : X.K = K := by rfl) : IxR X (rIxT K) := by subst hK; exact ix_tup
theorem sll (T : TxOf fa fn K mg) (hK : X.K = K := by rfl) : SlR X (rSlL K) := by subst hK; exact sl_list
theorem slt (T : TxOf fa fn K mg) (hK : X.K = K := by rfl) : SlR X (rSlT K) := by subst hK; exact sl_tup
theorem eqi (T : TxOf fa fn K mg) (hu : X.A.units + 64 < cLine) (hK : X.K = K := by rfl) : OpR X (compareOp .Eq) (rEqI K false) := by subst hK; exact op_eqI hu
theorem nei (T : TxOf fa fn K mg) (hu : X.A.units + 64 < cLine) (hK : X.K = K := by rfl) : OpR X (compareOp .NotEq) (rEqI K true) := by subst hK; exact op_neI hu
variable {tg l e : Expr} {tl : TE} {ta : TA}
theorem pil (T : TxOf fa fn K mg) (hl : PE X l tl) (hK : X.K = K := by rfl) : PI X tg l (iList K tl) := by subst hK; exact pi_list hl
theorem pit (T : TxOf fa fn K mg) (hl : PE X l tl) (hK : X.K = K := by rfl) : PI X tg l (iTup K tl) := by subst hK; exact pi_tup hl
theorem pie (T : TxOf fa fn K mg) {p pos tpos : Pos} {elts : List Expr} {kk : Nat} (hm : mg "enumerate" = none) (ha : PA X [e] ta) (hK : X.K = K := by rfl) (hmg : X.mg = mg := by rfl) (hg : Gl X "enumerate" := by rfl) (hs : starEach [e] X.env = [(false, eval e X.env)] := by rfl) :
    PI X (.Tuple elts kk tpos) (.Call (.Name "enumerate" p) [e] [] pos) (iEnum K ta) := by subst hK; exact pi_enum hg (by rw [hmg]; exact hm) ha hs
theorem pgt (T : TxOf fa fn K mg) {es : List Expr} {k n : Nat} {t : TGs} {pos : Pos} (hc : X.calm = true) (h : PGs X es t) (hK : X.K = K := by rfl) (hn : (assignEach es X.env).length = n := by rfl)
    (hst : (assignEach es X.env).findIdx? (·.1) = none := by rfl) : PG X (.Tuple es k pos) (gTup K n t) := by subst hK; exact pg_tup hc h hn hst
theorem fld (T : TxOf fa fn K mg) {f : Str} {pos : Pos} (he : PE X e tl) (hK : X.K = K := by rfl) (hb : attributeBase e f X.env (eval e X.env) = eval e X.env := by rfl) : PE X (.Attribute e f pos) (tFld K tl f) := by subst hK; exact pe_fld he hb
end
/-- any loop that has no slots of its own, by an invariant over the turn and the heap -/
theorem walk_w {J : It} {n : Nat} {G : Hp → Prop} {Y : Nat → Hp → V → Hp → Prop} (w : Walk J n G Y) {H0 : Hp} {Qd : Hp → Prop} {bd : (Hp → Prop) → V → Hp → Prop} (Pv : Nat → Hp → Prop) (h0 : Pv 0 H0)
    (hG : ∀ i H, i ≤ n → Pv i H → G H) (hs : ∀ i x H H', i < n → Pv i H → Y i H x H' → bd (Pv (i + 1)) x H') (hd : ∀ H, Pv n H → Qd H) :
    ∃ W : Nat → Nat → Hp → Prop, (∃ m, W 0 m H0) ∧ ∀ i m H, W i m H → (J.stop i H ∧ Qd H) ∨ (J.go i H ∧ ∃ Nx : Hp → Prop, (∀ H', Nx H' → ∃ m', m' < m ∧ W (i + 1) m' H') ∧ ∀ x H', J.yld i H x H' → bd Nx x H') := by
  apply My.two; (focus intro zzI; simp only [↓ My.mkB zzI (by
  clear zzI
  refine ⟨fun i m H => m = n - i ∧ i ≤ n ∧ Pv i H, ⟨n, (Nat.sub_zero n).symm, Nat.zero_le _, h0⟩, fun i m H z => ?_⟩
  obtain ⟨rfl, hi, p⟩ := z
  have g := hG i H hi p
  rcases Nat.lt_or_ge i n with lt | ge
  · exact .inr ⟨w.goes i H lt g, Pv (i + 1), fun H' q => ⟨n - (i + 1), by omega, rfl, lt, q⟩, fun x H' y => hs i x H H' lt p (w.yields i H x H' lt g y)⟩
  · obtain rfl : i = n := Nat.le_antisymm hi ge
    exact .inl ⟨w.stops H g, hd H p⟩
  )]); intro f; simpa using My.gz f 5 true
/-- a comprehension without a test -/
theorem yes_t {σ : L2.St} {H : Hp} {A B : Hp → Prop} (h : A H) : tYes σ H fun b H3 => if b = true then A H3 else B H3 := by
  apply My.two; (focus intro zzI; simp only [↓ My.mkB zzI (by
  clear zzI
  show if true = true then A H else B H
  rw [if_pos rfl]
  exact h
  )]); intro f; simpa using My.gz f 5 true
end My
namespace My
open PySem PySem.Spec PyProof.Rows L2
def iSeqX (K : Fg) (x : V) (H1 : Hp) (R : It → Hp → Prop) : Prop := ∃ a, x = .ref a ∧ ((∃ xs, SqL K H1 a xs ∧ R (Itl K a) H1) ∨ ∃ xs, SqT K H1 a xs ∧ R (Itt K a) H1)
def iSeq (K : Fg) (tl : TE) : TI := fun σ H R => tl σ H fun x H1 => iSeqX K x H1 R
section
variable {fa : List (Fg → Bool)} {fn : List He5.DefA} {K : Fg} {mg : Str → Option Value} {X : Cx} {tg l : Expr} {tl : TE}
theorem pis (T : TxOf fa fn K mg) (hl : PE X l tl) (hK : X.K = K := by rfl) : PI X tg l (iSeq K tl) := by
  apply My.two; (focus intro zzI; simp only [↓ My.mkB zzI (by
  clear zzI
  subst hK
  refine ⟨fun pins s σ H R I h => thn (hl.run pins s σ H _ I h) fun v s1 z => ?_⟩
  obtain ⟨x, H1, I1, r1, a, rfl, q⟩ := z
  obtain rfl : v = Value.ref a := r1
  have new : ∀ b ∈ [s1.heap.objs.size], FpOk X pins H1 b := fun b hb => by
    obtain rfl : b = s1.heap.objs.size := by simpa using hb
    exact I1.fpOk (Nat.le_refl _) (I1.hok.fresh (Nat.le_refl _))
  rcases q with ⟨xs, hq, q⟩ | ⟨xs, hq, q⟩
  · obtain ⟨its, rv, p, hz⟩ := I1.list hq
    exact wpAny_pyIter_list p.isList ⟨_, [s1.heap.objs.size], _, _, H1, rfl, I1.kept (t' := s1.toks) fun b o e => Heap.get?_push_of_some _ e, turn_list a _, ⟨_, Heap.get?_push_size _ rfl, rfl, rfl⟩, new, q⟩
  · obtain ⟨its, rv, p, hz⟩ := I1.tuple hq
    exact wpAny_pyIter_tuple (show s1.heap.IsTuple a its.toArray from p) ⟨_, [s1.heap.objs.size], _, _, H1, rfl, I1.kept (t' := s1.toks) fun b o e => Heap.get?_push_of_some _ e, turn_tuple a _, ⟨_, Heap.get?_push_size _ rfl, rfl, rfl⟩, new, q⟩
  )]); intro f; simpa using My.gz f 5 true
end
/-- all but what stands at p -/
def Kx (p : Addr) (H H' : Hp) : Prop := ∀ b o, H b = some o → b ≠ p → H' b = some o
theorem Kx.refl {p : Addr} (H : Hp) : Kx p H H := fun _ _ h _ => h
theorem Kx.trans {p : Addr} {H H1 H2 : Hp} (a : Kx p H H1) (b : Kx p H1 H2) : Kx p H H2 := fun c o h n => b c o (a c o h n) n
theorem kx_same {p : Addr} {H H' : Hp} (s : Same H H') : Kx p H H' := fun b o h _ => s b o h
theorem kx_upd {p : Addr} {H : Hp} {o : HO} : Kx p H (upd H p o) := fun b u h n => by
  rw [upd_ne n]
  exact h
theorem Kx.free {p : Addr} {H H' : Hp} (k : Kx p H H') {l : Addr} (hp : H' p ≠ none) (h : H' l = none) : H l = none := by
  apply My.two; (focus intro zzI; simp only [↓ My.mkB zzI (by
  clear zzI
  cases q : H l with
  | none => rfl
  | some o =>
    by_cases e : l = p
    · rw [e] at h
      exact absurd h hp
    · rw [k l o q e] at h
      cases h
  )]); intro f; simpa using My.gz f 5 true
/-- a thing of another kind than a dict stands elsewhere -/
theorem ne_dict {H : Hp} {p b : Addr} {kvs : List (Key × V)} {o : HO} (hp : H p = some (.dK kvs)) (hb : H b = some o) (d : o ≠ .dK kvs) : b ≠ p := fun e => by
  rw [e, hp] at hb
  exact d (Option.some.inj hb).symm
def tMid (t u : TS) : TS := fun D σ H => ∃ Mid : L2.St → Hp → Prop, t { D with nx := Mid } σ H ∧ ∀ σ' H', Mid σ' H' → u D σ' H'
theorem pss_mid {X : Cx} {st : Stmt} {rest : List Stmt} {t u : TS} (h1 : PS X st t) (h2 : PSs X rest u) : PSs X (st :: rest) (tMid t u) := by
  apply My.two; (focus intro zzI; simp only [↓ My.mkB zzI (by
  clear zzI
  refine ⟨fun pins s σ H D I h => ?_⟩
  obtain ⟨Mid, ha, hb⟩ := h
  refine wpAny_execs_cons (thn (h1.run pins s σ H { D with nx := Mid } I ha) fun f s1 q => ?_)
  cases f with
  | next => exact q.elim fun σ' q => q.elim fun H' q => h2.run pins s1 σ' H' D q.1 (hb _ _ q.2)
  | ret v => exact q
  | brk => exact q
  | cont => exact q
  )]); intro f; simpa using My.gz f 5 true
section
variable {fa : List (Fg → Bool)} {fn : List He5.DefA} {K : Fg} {mg : Str → Option Value} {X : Cx} {o e : Expr} {es : List Expr} {to : TE} {t : TA} {apos cpos : Pos} {Ty : String} {name : Str} {id : String} {r : V → List V → Hp → VK → Prop}
/-- a built-in's method, the written part told -/
theorem bmk (T : TxOf fa fn K mg) (pa : PlainAttrs Ty) (slot : Slot Ty name id) (hty : typeOf (.builtin id) = pure (.type "method_descriptor")) (hm : MtR X id r) (ho : PE X o to) (ha : PA X (e :: es) t) (hK : X.K = K := by rfl)
    (hbase : attributeBase o name X.env (eval o X.env) = eval o X.env := by rfl)
    (hfew : ((backTo cpos (starEach (e :: es) X.env)).all (fun x => !x.1) && (backToKw cpos (keywordEach [] X.env)).all (fun x => x.1.isSome)
      && decide ((e :: es).length + ([] : List Keyword).length + (if ([] : List Keyword).isEmpty then 0 else 1) < 30)) = true := by rfl)
    (hline : (apos.endLine == cpos.line) = true := by rfl) (hs : starEach (e :: es) X.env = (false, eval e X.env) :: starEach es X.env := by rfl) (hplain : (backTo cpos (starEach es X.env)).any (·.1) = false := by rfl) :
    PE X (.Call (.Attribute o name apos) (e :: es) [] cpos) (tBM K Ty r to t) := by
  subst hK
  exact pe_bm pa slot hty hm ho ha hbase hfew hline hs hplain
end
end My
namespace My
open PySem PySem.Spec PyProof.Rows L2
theorem sqL_same {K : Fg} {H H' : Hp} {a : Addr} {xs : List V} (h : SqL K H a xs) (e : Same H H') : SqL K H' a xs :=
  h.elim (fun h => .inl (h.elim (fun h => .inl (e _ _ h)) fun ⟨o, h⟩ => .inr ⟨o, e _ _ h⟩)) fun h => .inr h
def spLaw (K : Fg) : Sp := fun vs H Q _ => ∃ (a : Addr) (ns : List Int), vs = [.ref a] ∧ SqL K H a (ns.map V.int) ∧ ns.length ≤ 63 ∧ ∀ H' : Hp, Q (.bl true) H'
end My
namespace My
open PySem PySem.Spec PyProof.Rows L2
/-- as FnR, for callers with no repr under way -/
def FnG (P : Program) (w : World) (K : Fg) (mg : Str → Option Value) (base : Heap) (k : Nat) (f : Addr) (sp : Sp) : Prop :=
  ∀ (A : Around) (outer : List Env) (st : Shared) (H : Hp) (us : List Value) (vs : List V) (Q : VK) (E : XK), A.guards = some [] → Room k A → Env0 P w K mg base A outer st H → Vals vs us → sp vs H Q E →
    codeAny (model P w) A (.call (.ref f) ⟨us, []⟩) (CR CX0 outer P w H st Q E) st
theorem FnG.mono {P : Program} {w : World} {K : Fg} {mg : Str → Option Value} {base : Heap} {j k : Nat} {f : Addr} {sp : Sp} (F : FnG P w K mg base j f sp) (h : j ≤ k) : FnG P w K mg base k f sp :=
  fun A outer st H us vs Q E hg hr => F A outer st H us vs Q E hg (hr.mono h)
theorem guards_deeper {A : Around} {e : Env} (h : A.guards = some []) : (A.deeper e).guards = some [] := h
section
variable {X : Cx} {k : Nat} {f : Addr} {sp : Sp} {E : XK} {x : Str} {e : Expr} {es : List Expr} {t : TA} {np pos : Pos}
/-- x(e, ..), x a def of the module, no repr under way -/
theorem pe_fG (F : FnG X.prog X.w X.K X.mg X.base k f sp) (hG : X.A.guards = some []) (hk : PySem.W.keepIn X.K (.ref f) = true) (hm : X.mg x = some (.ref f)) (hr : Room k X.A) (hx : Passes CX0 X E) (ha : PA X (e :: es) t)
    (hg : Gl X x := by rfl) (hd : (x == ("__debug__" : Str)) = false := by decide) (hse : starEach (e :: es) X.env = (false, eval e X.env) :: starEach es X.env := by rfl)
    (hpl : (backTo pos (starEach es X.env)).any (·.1) = false := by rfl) : PE X (.Call (.Name x np) (e :: es) [] pos) (tFn sp E t) := by
  refine ⟨fun pins s σ H Q I h => wpAny_Call_Name_kw (ld_glob I hg hm ?_ hd)⟩
  refine PySem.W.callWith_K (h₀ := X.base) I.ok.mod.kin hk (thn (ha.run pos pins s σ H _ I h) fun us s1 z => ?_) hse hpl
  obtain ⟨vs, H1, I1, r, q⟩ := z
  refine ⟨I1.kIn, wpAny_call (codeAny_mono (F X.A X.stack s1 H1 us vs Q E hG hr I1.env0 r q) fun res s2 hq => ?_)⟩
  match res, hq with
  | .error er, hq => exact hx pins σ H1 s1 er s2 I1 hq
  | .ok (.ret u), hq => exact I1.after hq
end
section
variable {fa : List (Fg → Bool)} {fn : List He5.DefA} {K : Fg} {mg : Str → Option Value} {P : Program} {w : World} {base : Heap}
theorem TxOf.fnGc (T : TxOf fa fn K mg) (i : Nat) {x qual : Str} {st : Stmt} {at_ : Fg → Addr} {N ps : List Str} {k : Nat} {sp : Sp}
    (hi : fn[i]? = some ⟨at_, x, qual, defArgs st, defBody st, defScope st, [], []⟩) (S : FnScope N ps (defScope st))
    (hb : ∀ (kV doc pm : Value) (an : Option Addr) (cdv ct : Value) (us : List Value), us.length = ps.length →
      bindArgs (PySem.W.fnOf x qual (defArgs st) (defBody st) (defScope st) .none kV doc pm an cdv ct) ⟨us, []⟩ = pure (ps.zip us))
    (len : ∀ vs H Q E, sp vs H Q E → vs.length = ps.length)
    (hbody : ∀ (cdv : Value) (A : Around) (outer : List Env) (s : Shared) (H : Hp) (vs : List V) (Q : VK) (E : XK), (∃ oc od fd osl, K.lookup (at_ K) = some ⟨oc, od, .func fd, osl⟩ ∧ fd.code = cdv ∧ PySem.W.codeIn K cdv qual = true) → (A.deeper (envOfC qual (defScope st) s.heap.objs.size (at_ K) cdv)).guards = some [] →
      Room k (A.deeper (envOfC qual (defScope st) s.heap.objs.size (at_ K) cdv)) → sp vs H Q E →
      ∃ t, PSs (cxOf CX0 P w K mg base N qual (defScope st) (at_ K) cdv A outer s H E).nox (defBody st) t ∧ t { nx := fun _ H' => Q .non H', rt := Q } (start N vs) H) :
    FnG P w K mg base (k + 1) (at_ K) sp := by
  apply My.two; (focus intro zzI; simp only [↓ My.mkB zzI (by
  clear zzI
  obtain ⟨fd, F⟩ := T.fund i hi
  have F0 : FunD K x qual (defArgs st) (defBody st) (defScope st) [] [] (at_ K) fd := F
  have B : Binds K fd ps [] := F0.bindsN hb
  intro A outer s H us vs Q E hG hr e0 r hsp
  have kin : K.In s.heap := e0.mod.kin.keeps fun b o e => (e0.bs b o e).1
  have lv := len _ _ _ _ hsp
  have lu : (us ++ []).length = ps.length := by rw [List.append_nil, ← r.length, lv]
  have bt := B s us kin lu
  rw [List.append_nil] at bt
  obtain ⟨oc, od, dV, kV, doc, pm, an, cdv, ct, osl, efd, lk, hcd, _, _⟩ := F0.ex
  subst efd
  have hkd : ∀ y ∈ ps.zip us, (defScope st).names.lookup y.1 = some .local ∨ ((defScope st).names.lookup y.1 = some .cell ∧ ((cellsFrom (s.heap.objs.size + 1) (defScope st).names []).lookup y.1).isSome = true) := by
    intro y hy
    obtain ⟨n, v⟩ := y
    exact (S.par n (List.of_mem_zip hy).1).imp id fun q => ⟨q, PySem.W.cellsFrom_some _ _ _ (.inl q)⟩
  refine codeAny_call_function hr.depth (kin _ _ lk) rfl S.co S.gen rfl (PySem.W.codeRec_of kin hcd) (bt _ _ _ _ ?_)
  refine wpAny_newFunctionEnv_cells S.kind hkd fun env he s1 y => ?_
  subst he
  refine ⟨(e0.mod.nolimit.keeps fun b o e => (e0.bs b o e).1).keeps y.toInCall.keep, codeAny_func ?_⟩
  obtain ⟨t, ht, hq⟩ := hbody cdv A outer s H vs Q E ⟨_, _, _, _, lk, rfl, hcd⟩ (guards_deeper hG) (hr.deeper _) hsp
  have I := inv_start (CX := CX0) (E := E) S hr.hd e0 lv r y
  refine wpAny_mono (ht.nox.run [] s1 (start N vs) H _ I hq) (fun fl s2 hs => ?_) fun _ _ hs => hs
  match fl, hs with
  | .ret u, hs =>
    obtain ⟨v, σ2, H2, J, rv, q⟩ := hs
    exact ⟨v, H2, J.os, J.bare, J.base, J.hok, rv, q⟩
  | .next, hs =>
    obtain ⟨σ2, H2, J, q⟩ := hs
    exact ⟨V.non, H2, J.os, J.bare, J.base, J.hok, rfl, q⟩
  | .brk, hs => exact hs.elim fun _ z => z.elim fun _ z => z.2.elim
  | .cont, hs => exact hs.elim fun _ z => z.elim fun _ z => z.2.elim
  )]); intro f; simpa using My.gz f 5 true
theorem TxOf.fnG (T : TxOf fa fn K mg) (i : Nat) {x qual : Str} {st : Stmt} {at_ : Fg → Addr} {N ps : List Str} {k : Nat} {sp : Sp}
    (hi : fn[i]? = some ⟨at_, x, qual, defArgs st, defBody st, defScope st, [], []⟩) (S : FnScope N ps (defScope st))
    (hb : ∀ (kV doc pm : Value) (an : Option Addr) (cdv ct : Value) (us : List Value), us.length = ps.length →
      bindArgs (PySem.W.fnOf x qual (defArgs st) (defBody st) (defScope st) .none kV doc pm an cdv ct) ⟨us, []⟩ = pure (ps.zip us))
    (len : ∀ vs H Q E, sp vs H Q E → vs.length = ps.length)
    (hbody : ∀ (cdv : Value) (A : Around) (outer : List Env) (s : Shared) (H : Hp) (vs : List V) (Q : VK) (E : XK), (A.deeper (envOfC qual (defScope st) s.heap.objs.size (at_ K) cdv)).guards = some [] →
      Room k (A.deeper (envOfC qual (defScope st) s.heap.objs.size (at_ K) cdv)) → sp vs H Q E →
      ∃ t, PSs (cxOf CX0 P w K mg base N qual (defScope st) (at_ K) cdv A outer s H E).nox (defBody st) t ∧ t { nx := fun _ H' => Q .non H', rt := Q } (start N vs) H) :
    FnG P w K mg base (k + 1) (at_ K) sp :=
  T.fnGc i hi S hb len fun cdv A outer s H vs Q E _ => hbody cdv A outer s H vs Q E
end
end My
namespace My
open PySem PySem.Spec PyProof.Rows L2
mutual
/-- v stands for d -/
inductive Shw (K : Fg) (H : Hp) : V → PyData → Prop
  | non : Shw K H .non .none
  | bl (b : Bool) : Shw K H (.bl b) (.bool b)
  | int (i : Int) : Shw K H (.int i) (.int i)
  | str (x : Str) : Shw K H (.str x) (.str x)
  | lst {a : Addr} {xs : List V} {ds : List PyData} : SqL K H a xs → Shws K H xs ds → Shw K H (.ref a) (.list ds)
  | tup {a : Addr} {xs : List V} {ds : List PyData} : SqT K H a xs → Shws K H xs ds → Shw K H (.ref a) (.tuple ds)
inductive Shws (K : Fg) (H : Hp) : List V → List PyData → Prop
  | nil : Shws K H [] []
  | cons {v : V} {vs : List V} {d : PyData} {ds : List PyData} : Shw K H v d → Shws K H vs ds → Shws K H (v :: vs) (d :: ds)
end
section
variable {X : Cx} {pins : List (Addr × Obj)} {σ : L2.St} {H : Hp} {s : Shared}
mutual
theorem Shw.reads (I : Inv X pins σ H s) : ∀ {v : V} {d : PyData}, Shw X.K H v d → ∀ u, RelV v u → ∃ as, Reads s.heap u d as
  | _, _, .non, u, r => by
    cases r
    exact ⟨_, .none⟩
  | _, _, .bl b, u, r => by
    cases r
    exact ⟨_, .bool b⟩
  | _, _, .int i, u, r => by
    obtain ⟨t, rfl⟩ := r
    exact ⟨_, .int i t⟩
  | _, _, .str x, u, r => by
    obtain ⟨t, rfl⟩ := r
    exact ⟨_, .str x t⟩
  | _, _, .lst h hs, u, r => by
    apply My.two; (focus intro zzI; simp only [↓ My.mkB zzI (by
    clear zzI
    cases r
    obtain ⟨its, rv, ⟨o, n, h1, h2, _, h3⟩, _⟩ := I.list h
    obtain ⟨as, ha⟩ := Shws.reads I hs its rv
    exact ⟨_, .list h1 h2 h3 ha⟩
    )]); intro f; simpa using My.gz f 5 true
  | _, _, .tup h hs, u, r => by
    apply My.two; (focus intro zzI; simp only [↓ My.mkB zzI (by
    clear zzI
    cases r
    obtain ⟨its, rv, ⟨o, h1, h2, n, h3⟩, _⟩ := I.tuple h
    obtain ⟨as, ha⟩ := Shws.reads I hs its rv
    exact ⟨_, .tuple h1 h2 h3 ha⟩
    )]); intro f; simpa using My.gz f 5 true
theorem Shws.reads (I : Inv X pins σ H s) : ∀ {vs : List V} {ds : List PyData}, Shws X.K H vs ds → ∀ us, Vals vs us → ∃ as, ReadsAll s.heap us ds as
  | _, _, .nil, us, r => by
    cases r
    exact ⟨_, .nil⟩
  | _, _, .cons h hs, us, r => by
    apply My.two; (focus intro zzI; simp only [↓ My.mkB zzI (by
    clear zzI
    cases r with
    | cons r1 r2 =>
      obtain ⟨a1, h1⟩ := Shw.reads I h _ r1
      obtain ⟨a2, h2⟩ := Shws.reads I hs _ r2
      exact ⟨_, .cons h1 h2⟩
    )]); intro f; simpa using My.gz f 5 true
end
end
mutual
/-- d's ints have at most B digits; its text's length is at most n; its depth at most m -/
inductive Fit (B : Nat) : PyData → Nat → Nat → Prop
  | non : Fit B .none 4 0
  | bl (b : Bool) : Fit B (.bool b) 5 0
  | int {i : Int} : i.natAbs < 10 ^ B → Fit B (.int i) (B + 1) 0
  | str {x : Str} {n : Nat} : (reprText x).length ≤ n → Fit B (.str x) n 0
  | lst {ds : List PyData} {n m : Nat} : Fits B ds n m → Fit B (.list ds) (n + 3) (m + 1)
  | tup {ds : List PyData} {n m : Nat} : Fits B ds n m → Fit B (.tuple ds) (n + 3) (m + 1)
inductive Fits (B : Nat) : List PyData → Nat → Nat → Prop
  | nil {m : Nat} : Fits B [] 0 m
  | cons {d : PyData} {ds : List PyData} {n k m j : Nat} : Fit B d n j → j ≤ m → Fits B ds k m → Fits B (d :: ds) (n + 2 + k) m
end
theorem textFrom_le : ∀ (ts : List Str) (k : Nat) (acc : Str), (textFrom k acc ts).length ≤ acc.length + piled ts
  | [], k, acc => Nat.le_add_right _ _
  | t :: r, k, acc => by
    apply My.two; (focus intro zzI; simp only [↓ My.mkB zzI (by
    clear zzI
    have h := textFrom_le r (k + 1) (acc ++ (if k > 0 then ", " else "" : String) ++ t)
    have e : (acc ++ (if k > 0 then ", " else "" : String) ++ t).length ≤ acc.length + 2 + t.length := by
      rw [strLen_append, strLen_append]
      have : ((if k > 0 then ", " else "" : String) : Str).length ≤ 2 := by split <;> decide
      omega
    rw [piled_cons]
    show (textFrom (k + 1) _ r).length ≤ _
    omega
    )]); intro f; simpa using My.gz f 5 true
theorem listText_le (ts : List Str) : (listText ts).length ≤ piled ts + 2 := by
  apply My.two; (focus intro zzI; simp only [↓ My.mkB zzI (by
  clear zzI
  have h := textFrom_le ts 0 "["
  have e1 : ((("[" : String) : Str)).length = 1 := rfl
  have e2 : ((("]" : String) : Str)).length = 1 := rfl
  unfold listText
  rw [strLen_append]
  omega
  )]); intro f; simpa using My.gz f 5 true
theorem log10 {B : Nat} {i : Int} (hB : B ≤ 500) (h : i.natAbs < 10 ^ B) : i.natAbs.log2 < 1920 := by
  apply My.two; (focus intro zzI; simp only [↓ My.mkB zzI (by
  clear zzI
  by_cases e : i.natAbs = 0
  · rw [e]
    decide
  · refine (Nat.log2_lt e).mpr (Nat.lt_of_lt_of_le h (Nat.le_trans (Nat.pow_le_pow_right (by decide) hB) (by decide +kernel)))
  )]); intro f; simpa using My.gz f 5 true
mutual
theorem Fit.ok {B : Nat} (hB : B ≤ 500) : ∀ {d : PyData} {n m : Nat}, Fit B d n m → d.shown.length ≤ n ∧ d.showable = true ∧ d.hasDict = false ∧ d.depth ≤ m
  | _, _, _, .non => ⟨by simp only [PyData.shown]; decide, by simp only [PyData.showable], by simp only [PyData.hasDict], by simp only [PyData.depth]; omega⟩
  | _, _, _, .bl b => ⟨by simp only [PyData.shown]; cases b <;> decide, by simp only [PyData.showable], by simp only [PyData.hasDict], by simp only [PyData.depth]; omega⟩
  | _, _, _, .int (i := i) h => by
    apply My.two; (focus intro zzI; simp only [↓ My.mkB zzI (by
    clear zzI
    refine ⟨?_, ?_, by simp only [PyData.hasDict], by simp only [PyData.depth]; omega⟩
    · simp only [PyData.shown]
      rw [PySem.ofString_length]
      by_cases e : B = 0
      · subst e
        have : i = 0 := by
          have h2 : i.natAbs < 1 := h
          omega
        subst this
        decide
      · exact int_text_length_le10 (Nat.pos_of_ne_zero e) h
    · simp only [PyData.showable, decide_eq_true_eq]
      exact log10 hB h
    )]); intro f; simpa using My.gz f 5 true
  | _, _, _, .str h => ⟨by simpa only [PyData.shown] using h, by simp only [PyData.showable], by simp only [PyData.hasDict], by simp only [PyData.depth]; omega⟩
  | _, _, _, .lst h => by
    apply My.two; (focus intro zzI; simp only [↓ My.mkB zzI (by
    clear zzI
    obtain ⟨h1, h2, h3, h4⟩ := Fits.ok hB h
    refine ⟨?_, by simpa only [PyData.showable] using h2, by simpa only [PyData.hasDict] using h3, by simp only [PyData.depth]; omega⟩
    simp only [PyData.shown]
    exact Nat.le_trans (listText_le _) (by omega)
    )]); intro f; simpa using My.gz f 5 true
  | _, _, _, .tup h => by
    apply My.two; (focus intro zzI; simp only [↓ My.mkB zzI (by
    clear zzI
    obtain ⟨h1, h2, h3, h4⟩ := Fits.ok hB h
    refine ⟨?_, by simpa only [PyData.showable] using h2, by simpa only [PyData.hasDict] using h3, by simp only [PyData.depth]; omega⟩
    simp only [PyData.shown]
    exact Nat.le_trans (fmt_text _) (by omega)
    )]); intro f; simpa using My.gz f 5 true
theorem Fits.ok {B : Nat} (hB : B ≤ 500) : ∀ {ds : List PyData} {n m : Nat}, Fits B ds n m → piled (PyData.shownAll ds) ≤ n ∧ PyData.showableAll ds = true ∧ PyData.hasDictAll ds = false ∧ PyData.depthAll ds ≤ m
  | _, _, _, .nil => ⟨by simp only [PyData.shownAll]; exact Nat.le_refl _, by simp only [PyData.showableAll], by simp only [PyData.hasDictAll], by simp only [PyData.depthAll]; omega⟩
  | _, _, _, .cons h hj hs => by
    apply My.two; (focus intro zzI; simp only [↓ My.mkB zzI (by
    clear zzI
    obtain ⟨h1, h2, h3, h4⟩ := Fit.ok hB h
    obtain ⟨g1, g2, g3, g4⟩ := Fits.ok hB hs
    refine ⟨?_, ?_, ?_, ?_⟩
    · simp only [PyData.shownAll, piled_cons]
      omega
    · simp only [PyData.showableAll, h2, g2, Bool.and_self]
    · simp only [PyData.hasDictAll, h3, g3, Bool.or_self]
    · simp only [PyData.depthAll]
      omega
    )]); intro f; simpa using My.gz f 5 true
end
/-- repr(v), v told by d -/
@[irreducible] def rShow (K : Fg) : List V → Hp → VK → Prop := fun xs H Q => ∃ (v : V) (d : PyData) (B n m : Nat), xs = [v] ∧ Shw K H v d ∧ Fit B d n m ∧ B ≤ 500 ∧ n ≤ 16777216 ∧ m ≤ 50 ∧ Q (.str d.shown) H
theorem show_any {K : Fg} {H : Hp} {Q : VK} {v : V} {d : PyData} {B n m : Nat} (hv : Shw K H v d) (hf : Fit B d n m) (hB : B ≤ 500) (hn : n ≤ 16777216) (hm : m ≤ 50) (q : Q (.str d.shown) H) : rShow K [v] H Q := by
  unfold rShow
  exact ⟨v, d, B, n, m, rfl, hv, hf, hB, hn, hm, q⟩
theorem call_show {X : Cx} {k : Nat} (hG : X.A.guards = some []) (hr : Room k X.A) : CallR X (.builtin "repr") (rShow X.K) := by
  apply My.two; (focus intro zzI; simp only [↓ My.mkB zzI (by
  clear zzI
  intro pins s σ H xs us Q I r h
  unfold rShow at h
  obtain ⟨v, d, B, n, m, rfl, hv, hf, hB, hn, hm, q⟩ := h
  obtain ⟨u, rfl, ru⟩ := vals1 r
  obtain ⟨h1, h2, h3, h4⟩ := hf.ok hB
  have hz : d.shown.length ≤ sizeLine := Nat.le_trans h1 (Nat.le_trans hn (by decide))
  have hu := hr.units
  obtain ⟨as, hR⟩ := hv.reads I u ru
  cases hv with
  | non =>
    cases ru
    exact PySem.P.repr_of_none ⟨.str _, H, I.tok _, ⟨_, rfl⟩, by simpa only [PyData.shown] using q⟩
  | bl b =>
    cases ru
    exact PySem.P.repr_of_bool ⟨.str _, H, I.tok _, ⟨_, rfl⟩, by simpa only [PyData.shown] using q⟩
  | int i =>
    obtain ⟨t, rfl⟩ := ru
    exact PySem.P.repr_of_int (by simpa only [PyData.showable, decide_eq_true_eq] using h2) ⟨.str _, H, I.tok _, ⟨_, rfl⟩, by simpa only [PyData.shown] using q⟩
  | str x =>
    obtain ⟨t, rfl⟩ := ru
    exact PySem.P.repr_of_str ⟨.str _, H, I.tok _, ⟨_, rfl⟩, by simpa only [PyData.shown] using q⟩ (by simpa only [PyData.shown] using hz)
  | lst _ _ =>
    cases ru
    exact repr_of_reads' hR h2 (PyData.noDict_hsm h3) hG (by omega) (fun _ _ e => e) (fun h' t tk hk => ⟨.str _, H, I.kept hk, ⟨t, rfl⟩, q⟩) hz
  | tup _ _ =>
    cases ru
    exact repr_of_reads' hR h2 (PyData.noDict_hsm h3) hG (by omega) (fun _ _ e => e) (fun h' t tk hk => ⟨.str _, H, I.kept hk, ⟨t, rfl⟩, q⟩) hz
  )]); intro f; simpa using My.gz f 5 true
section
variable {fa : List (Fg → Bool)} {fn : List He5.DefA} {K : Fg} {mg : Str → Option Value} {X : Cx}
theorem show_k (T : TxOf fa fn K mg) {k : Nat} (hG : X.A.guards = some []) (hr : Room k X.A) (hK : X.K = K := by rfl) : CallR X (.builtin "repr") (rShow K) := by subst hK; exact call_show hG hr
end
end My
namespace My
open PySem PySem.Spec PyProof.Rows L2
/-- the abstract heap of the law's start: the script alone, frozen, where the module does not own it -/
def script (a : Addr) (vs : List Value) (ns : List Int) : Hp := fun b => if b = a then some (.frz { cls := .type "list", data := .seq vs.toArray } (.lst (ns.map V.int))) else none
theorem nowhere {Z : Addr → HO → Prop} : ∀ b u, (fun _ : Addr => (none : Option HO)) b = some u → Z b u := by
  intro b u z
  cases z
theorem in_nil {b : Addr} {Z : Prop} (z : b ∈ frs []) : Z := by
  have y : b ∈ ([] : List Addr) := z
  cases y
theorem lawG {P : Program} {w : World} {K : Fg} {mg mb : Str → Option Value} {k : Nat} {fa a : Addr} {sp : Sp} {s₁ : Shared} {vs : List Value} {ns : List Int}
    (kin : K.In s₁.heap) (hg : s₁.heap.Ns mainGlobals mg) (hb : s₁.heap.Ns builtinsNs mb) (hbb : ∀ x : Str, x ≠ "__name__" → mb x = bootBuiltins x) (nl : s₁.heap.NoLimit) (ge : s₁.gens = #[])
    (ga : s₁.heap.get? a = some { cls := .type "list", data := .seq vs.toArray }) (hi : IntsAre vs ns) (hz : ns.length ≤ sizeLine) (hr : Room k callerA)
    (F : ∀ base : Heap, FnG P w K mg base k fa sp) (hsp : ∀ H : Hp, SqL K H a (ns.map V.int) → sp [.ref a] H (fun v _ => v = .bl true) fun _ _ _ => False) :
    codeAny (model P w) callerA (.call (.ref fa) ⟨[.ref a], []⟩) (fun r s' => r = .ok (.ret (.bool true)) ∧ OldK s₁.heap s'.heap ∧ s'.os = s₁.os ∧ AllBare s'.gens) s₁ := by
  apply My.two; (focus intro zzI; simp only [↓ My.mkB zzI (by
  clear zzI
  obtain ⟨H, hS, hok, hA, hF⟩ : ∃ H : Hp, SqL K H a (ns.map V.int) ∧ HOk P w H s₁.heap ∧ (∀ b u, H b = some u → b = a ∧ K.lookup b = none) ∧ ∀ b u, H b = some u → ∃ o v, u = .frz o v := by
    have lv := hi.length
    have rv := vals_ints hi
    cases hk : K.lookup a with
    | some o =>
      have e := (kin a o hk).symm.trans ga
      cases e
      exact ⟨fun _ => none, .inr ⟨_, _, _, hk, rfl, rfl, rfl, by rw [List.size_toArray, lv]; exact hz, by simpa using rv⟩, nowhere, nowhere, nowhere⟩
    | none =>
      have at_ : ∀ b u, script a vs ns b = some u → b = a ∧ u = .frz { cls := .type "list", data := .seq vs.toArray } (.lst (ns.map V.int)) := fun b u z => by
        unfold script at z
        split at z
        · next h => exact ⟨h, (Option.some.inj z).symm⟩
        · cases z
      refine ⟨script a vs ns, .inl (.inr ⟨_, if_pos rfl⟩), fun b u z => ?_, fun b u z => ?_, fun b u z => ?_⟩
      · obtain ⟨rfl, rfl⟩ := at_ b u z
        exact ⟨ga, by rw [List.length_map]; exact hz, vs, _, rv, ga⟩
      · obtain ⟨rfl, _⟩ := at_ b u z
        exact ⟨rfl, hk⟩
      · exact ⟨_, _, (at_ b u z).2⟩
  have off : ∀ {b : Addr} {o : Obj}, s₁.heap.get? b = some o → (∀ ys n, o.data ≠ .seq ys n) → H b = none := fun {b o} e d => by
    cases q : H b with
    | none => rfl
    | some u =>
      obtain ⟨rfl, _⟩ := hA b u q
      rw [ga] at e
      cases e
      exact absurd rfl (d vs.toArray _)
  have ns' : ∀ {b : Addr} {m : Str → Option Value}, s₁.heap.Ns b m → (hidT s₁.heap H).Ns b m := fun z => by
    obtain ⟨o, es, ep, e, d, r⟩ := z
    exact ⟨o, es, ep, hidT_get e (off e fun ys n h => by rw [d] at h; cases h), d, r⟩
  have kb : K.In (hidT s₁.heap H) := fun b o e => hidT_get (kin b o e) (by
    cases q : H b with
    | none => rfl
    | some u => rw [(hA b u q).2] at e; cases e)
  obtain ⟨mc, n1, n2⟩ := nl
  have e0 : Env0 P w K mg (hidT s₁.heap H) callerA [] s₁ H := ⟨rfl, ⟨kb, ns' hg, ⟨mb, ns' hb, hbb⟩, ⟨mc, ns' n1, n2⟩⟩, fun _ _ e => of_hidT e, Nat.le_of_eq (hidT_size _ _), trivial, fun b z => in_nil z, hok, .of_eq ge⟩
  refine codeAny_mono (F _ callerA [] s₁ H [.ref a] [.ref a] _ _ rfl hr e0 (.cons rfl .nil) (hsp H hS)) fun r s' h => ?_
  match r, h with
  | .error e, h => exact False.elim h
  | .ok (.ret u), ⟨v, H', h1, h2, un, hok', rv, q⟩ =>
    obtain rfl : v = .bl true := q
    obtain rfl : u = Value.bool true := rv
    refine ⟨rfl, OldK.of_keep fun b o e => ?_, h1, h2⟩
    cases q : H b with
    | none => exact un.keep b o e q (fun z => in_nil z) (by simp)
    | some u =>
      obtain ⟨o2, u2, rfl⟩ := hF b u q
      have g1 := (hok b _ q).1
      have g2 := (hok' b _ (un.frzs b o2 u2 q)).1
      rw [g1] at e
      cases e
      exact g2
  )]); intro f; simpa using My.gz f 5 true
theorem walkG {l : PySem.W.OpenLaw} {n k : Nat} {q : Program} {loose : List Str} {XP : (Str → Option Value) → Heap → Prop} {YP : World → Heap → Prop} {d : DefRec} (hn : l.most = some n) (hn2 : n ≤ 63) (hdf : d.params.defaults = []) (hr : Room k callerA)
    (F : ∀ (w : World) (mg : Str → Option Value) (fa : Addr) (h : Heap), YP w h → h.Ns mainGlobals mg → mg d.name = some (.ref fa) → ∃ K : Fg, K.In h ∧ ∀ base : Heap, FnG l.prog w K mg base k fa (spLaw K)) :
    PySem.W.WalkO q loose XP YP l.row.toRowW d [] (fun f vs => PySem.call f vs) := by
  apply My.two; (focus intro zzI; simp only [↓ My.mkB zzI (by
  clear zzI
  refine Att.attach_call hn hdf fun w s₀ s₁ mg mb fa o pm cd doc a vs ns G Y ho hd hcd hmg hobj hints hlen hg => ?_
  obtain ⟨K, kin, f⟩ := F w mg fa _ Y G.T.g hmg
  have h63 : ns.length ≤ 63 := Nat.le_trans hlen hn2
  exact lawG kin G.T.g G.T.b G.T.builtins G.T.nolimit hg hobj hints (Nat.le_trans h63 (by decide)) hr f fun H hS => ⟨a, ns, rfl, hS, h63, fun _ => rfl⟩
  )]); intro f; simpa using My.gz f 5 true
section
variable {fa : List (Fg → Bool)} {fn : List He5.DefA} {K : Fg} {mg : Str → Option Value} {P : Program} {w : World}
def LawG (P : Program) (w : World) (K : Fg) (mg : Str → Option Value) (k : Nat) (at_ : Addr) : Prop := ∀ base : Heap, FnG P w K mg base k at_ (spLaw K)
theorem TxOf.lawG (T : TxOf fa fn K mg) (i : Nat) {x qual y : Str} {st : Stmt} {at_ : Fg → Addr} {N : List Str} {k : Nat}
    (hi : fn[i]? = some ⟨at_, x, qual, defArgs st, defBody st, defScope st, [], []⟩) (S : FnScope N [y] (defScope st))
    (hb : ∀ (kV doc pm : Value) (an : Option Addr) (cdv ct : Value) (us : List Value), us.length = [y].length →
      bindArgs (PySem.W.fnOf x qual (defArgs st) (defBody st) (defScope st) .none kV doc pm an cdv ct) ⟨us, []⟩ = pure ([y].zip us))
    (hbody : ∀ (base : Heap) (cdv : Value) (A : Around) (outer : List Env) (s : Shared) (H : Hp) (a : Addr) (ns : List Int) (Q : VK) (E : XK), (A.deeper (envOfC qual (defScope st) s.heap.objs.size (at_ K) cdv)).guards = some [] →
      Room k (A.deeper (envOfC qual (defScope st) s.heap.objs.size (at_ K) cdv)) → SqL K H a (ns.map V.int) → ns.length ≤ 63 → (∀ H' : Hp, Q (.bl true) H') →
      ∃ t, PSs (cxOf CX0 P w K mg base N qual (defScope st) (at_ K) cdv A outer s H E).nox (defBody st) t ∧ t { nx := fun _ H' => Q .non H', rt := Q } (start N [.ref a]) H) :
    LawG P w K mg (k + 1) (at_ K) := fun base => by
  refine T.fnG i hi S hb (fun vs H Q E h => ?_) fun cdv A outer s H vs Q E hG hr h => ?_
  · obtain ⟨a, ns, rfl, _⟩ := h
    rfl
  · obtain ⟨a, ns, rfl, hS, hl, k⟩ := h
    exact hbody base cdv A outer s H a ns Q E hG hr hS hl k
end
end My
namespace My
open PySem PySem.Spec PyProof.Rows L2
def SqQ (K : Fg) (H : Hp) (a : Addr) (xs : List V) : Prop := SqL K H a xs ∨ SqT K H a xs
theorem SqQ.same {K : Fg} {H H' : Hp} {a : Addr} {xs : List V} (h : SqQ K H a xs) (s : Same H H') : SqQ K H' a xs := h.imp (fun h => sqL_same h s) fun h =>
  h.elim (fun h => .inl (h.elim (fun h => .inl (s _ _ h)) fun ⟨o, h⟩ => .inr ⟨o, s _ _ h⟩)) fun h => .inr h
/-- a[i], a list or a tuple -/
def rIxQ (K : Fg) : R2 := fun x y H Q => rIxL K x y H Q ∨ rIxT K x y H Q
section
variable {fa : List (Fg → Bool)} {fn : List He5.DefA} {K : Fg} {mg : Str → Option Value} {X : Cx} {e : Expr} {ta : TA}
theorem ixq (T : TxOf fa fn K mg) (hK : X.K = K := by rfl) : IxR X (rIxQ K) := by
  apply My.two; (focus intro zzI; simp only [↓ My.mkB zzI (by
  clear zzI
  subst hK
  intro value slice pins s σ H x y v u Q I rx ry h
  rcases h with h | h
  · exact ix_list value slice pins s σ H x y v u Q I rx ry h
  · exact ix_tup value slice pins s σ H x y v u Q I rx ry h
  )]); intro f; simpa using My.gz f 5 true
end
end My
namespace My
open PySem PySem.Spec PyProof.Rows L2
end My
namespace My
open PySem PySem.Spec PyProof.Rows L2
theorem shws_ints {K : Fg} {H : Hp} : ∀ r : List Int, Shws K H (r.map V.int) (r.map PyData.int)
  | [] => .nil
  | x :: r => .cons (.int x) (shws_ints r)
theorem fits_ints {B m : Nat} : ∀ r : List Int, (∀ v ∈ r, v.natAbs < 10 ^ B) → Fits B (r.map PyData.int) ((B + 3) * r.length) m
  | [], _ => by
    rw [List.length_nil, Nat.mul_zero]
    exact .nil
  | x :: r, h => by
    apply My.two; (focus intro zzI; simp only [↓ My.mkB zzI (by
    clear zzI
    have e : (B + 3) * (x :: r).length = (B + 1) + 2 + (B + 3) * r.length := by
      rw [List.length_cons, Nat.mul_succ]
      omega
    rw [e]
    exact .cons (.int (h x List.mem_cons_self)) (Nat.zero_le _) (fits_ints r fun v hv => h v (List.mem_cons_of_mem _ hv))
    )]); intro f; simpa using My.gz f 5 true
/-- repr of an int: nothing asked of guards -/
theorem show_int {K : Fg} {H : Hp} {i : Int} {Q : VK} (h : i.natAbs < 10 ^ 60) (q : Q (.str (PyData.int i).shown) H) : rShow K [.int i] H Q := show_any (.int i) (.int h) (by decide) (by decide) (by decide) q
/-- repr of a tuple of ints -/
theorem show_tup {K : Fg} {H : Hp} {a : Addr} {r : List Int} {Q : VK} (hS : SqT K H a (r.map V.int)) (hl : r.length ≤ 200000) (h : ∀ v ∈ r, v.natAbs < 10 ^ 60) (q : Q (.str (PyData.tuple (r.map .int)).shown) H) : rShow K [.ref a] H Q := by
  apply My.two; (focus intro zzI; simp only [↓ My.mkB zzI (by
  clear zzI
  refine show_any (.tup hS (shws_ints r)) (.tup (m := 0) (fits_ints r h)) (by decide) ?_ (by decide) q
  have : (60 + 3) * r.length ≤ (60 + 3) * 200000 := Nat.mul_le_mul_left _ hl
  omega
  )]); intro f; simpa using My.gz f 5 true
end My
namespace My
open PySem PySem.Spec PyProof.Rows L2
end My
namespace My
open PySem PySem.Spec PyProof.Rows L2
def pick {α : Type} (ps : List Nat) (l : List α) : List α := ps.filterMap fun i => l[i]?
theorem pick_vals {vs : List V} {us : List Value} (r : Vals vs us) : ∀ ps : List Nat, Vals (pick ps vs) (pick ps us)
  | [] => .nil
  | i :: ps => by
    apply My.two; (focus intro zzI; simp only [↓ My.mkB zzI (by
    clear zzI
    have ih := pick_vals r ps
    have hl := r.length
    unfold pick at ih ⊢
    rw [List.filterMap_cons, List.filterMap_cons]
    cases e : vs[i]? with
    | none =>
      have : us[i]? = none := by
        rw [List.getElem?_eq_none_iff] at e ⊢
        omega
      rw [this]
      exact ih
    | some v =>
      obtain ⟨u, h1, h2⟩ := r.get e
      rw [h1]
      exact .cons h2 ih
    )]); intro f; simpa using My.gz f 5 true
/-- a def called with n values by position, those named ks by name; pm: the parameters' places among these -/
def FnKw (P : Program) (w : World) (K : Fg) (mg : Str → Option Value) (base : Heap) (k : Nat) (f : Addr) (n : Nat) (ks : List Str) (pm : List Nat) (sp : Sp) : Prop :=
  ∀ (A : Around) (outer : List Env) (st : Shared) (H : Hp) (us ws : List Value) (vs zs : List V) (Q : VK) (E : XK), Room k A → Env0 P w K mg base A outer st H → Vals vs us → Vals zs ws → vs.length = n → zs.length = ks.length → sp (pick pm (vs ++ zs)) H Q E →
    codeAny (model P w) A (.call (.ref f) ⟨us, ks.zip ws⟩) (CR CX0 outer P w H st Q E) st
structure FnQ (P : Program) (w : World) (K : Fg) (mg : Str → Option Value) (base : Heap) (k : Nat) (f : Addr) (x qual : Str) (st : Stmt) (ps : List Str) (sp : Sp) : Prop where
  r : FnR P w K mg base CX0 k f sp
  o : ∃ fd, FunD K x qual (defArgs st) (defBody st) (defScope st) [] [] f fd ∧ FnOk P w K mg base CX0 k f fd ps sp
section
variable {fa : List (Fg → Bool)} {fn : List He5.DefA} {K : Fg} {mg : Str → Option Value} {P : Program} {w : World} {base : Heap}
theorem TxOf.fnQ (T : TxOf fa fn K mg) (i : Nat) {x qual : Str} {st : Stmt} {at_ : Fg → Addr} {N ps : List Str} {k : Nat} {sp : Sp}
    (hi : fn[i]? = some ⟨at_, x, qual, defArgs st, defBody st, defScope st, [], []⟩) (S : FnScope N ps (defScope st))
    (hb : ∀ (kV doc pm : Value) (an : Option Addr) (cdv ct : Value) (us : List Value), us.length = ps.length →
      bindArgs (PySem.W.fnOf x qual (defArgs st) (defBody st) (defScope st) .none kV doc pm an cdv ct) ⟨us, []⟩ = pure (ps.zip us))
    (len : ∀ vs H Q E, sp vs H Q E → vs.length = ps.length)
    (hbody : ∀ (cdv : Value) (A : Around) (outer : List Env) (s : Shared) (H : Hp) (vs : List V) (Q : VK) (E : XK), Room k (A.deeper (envOfC qual (defScope st) s.heap.objs.size (at_ K) cdv)) → sp vs H Q E →
      ∃ t, PSs (cxOf CX0 P w K mg base N qual (defScope st) (at_ K) cdv A outer s H E).nox (defBody st) t ∧ t { nx := fun _ H' => Q .non H', rt := Q } (start N vs) H) :
    FnQ P w K mg base (k + 1) (at_ K) x qual st ps sp := by
  apply My.two; (focus intro zzI; simp only [↓ My.mkB zzI (by
  clear zzI
  obtain ⟨fd, F⟩ := T.fund i hi
  have F0 : FunD K x qual (defArgs st) (defBody st) (defScope st) [] [] (at_ K) fd := F
  have G : FnOk P w K mg base CX0 (k + 1) (at_ K) fd ps sp := F0.ok S len fun cdv A outer s H vs Q E hr h => by
    obtain ⟨t, h1, h2⟩ := hbody cdv A outer s H vs Q E hr h
    exact ⟨t, h1.nox, h2⟩
  exact ⟨(G.raw (F0.bindsN hb) .nil).imp fun vs H Q E h => by
    rw [List.append_nil]
    exact h, fd, F0, G⟩
  )]); intro f; simpa using My.gz f 5 true
theorem FnQ.kw {k : Nat} {f : Addr} {x qual : Str} {st : Stmt} {ps : List Str} {sp : Sp} (F : FnQ P w K mg base k f x qual st ps sp) (n : Nat) (ks : List Str) (pm : List Nat)
    (hb : ∀ (kV doc pmv : Value) (an : Option Addr) (cdv ct : Value) (us ws : List Value), us.length = n → ws.length = ks.length →
      bindArgs (PySem.W.fnOf x qual (defArgs st) (defBody st) (defScope st) .none kV doc pmv an cdv ct) ⟨us, ks.zip ws⟩ = pure (ps.zip (pick pm (us ++ ws)))) : FnKw P w K mg base k f n ks pm sp := by
  apply My.two; (focus intro zzI; simp only [↓ My.mkB zzI (by
  clear zzI
  intro A outer s H us ws vs zs Q E hr e0 rv rz l1 l2 h
  obtain ⟨fd, F0, G⟩ := F.o
  have r2 := pick_vals (rv.append rz) pm
  refine G.run A outer s H ⟨us, ks.zip ws⟩ (pick pm (us ++ ws)) (pick pm (vs ++ zs)) Q E hr e0 ?_ r2 h
  obtain ⟨oc, od, dV, kV, doc, pmv, an, cdv, ct, osl, rfl, lk, hcd, hD, hK⟩ := F0.ex
  rcases hD with ⟨_, rfl⟩ | ⟨e, _⟩
  · exact .of_eq (hb kV doc pmv an cdv ct us ws (rv.length.symm.trans l1) (rz.length.symm.trans l2))
  · exact absurd rfl e
  )]); intro f; simpa using My.gz f 5 true
end
section
variable {X : Cx} {k n : Nat} {C f p g : Addr} {mc : Value} {ks : List Str} {pm : List Nat} {sp : Sp} {E : XK} {x m : Str} {e o : Expr} {es : List Expr} {kws : List Keyword} {ta : TE} {t tk : TA} {np pos apos : Pos} {pl : Sem Bool}
theorem run_fnK {pins : List (Addr × Obj)} {σ : L2.St} {H : Hp} {s : Shared} {Q : VK} {us ws : List Value} {vs zs : List V} (F : FnKw X.prog X.w X.K X.mg X.base k f n ks pm sp) (hr : Room k X.A) (hx : Passes CX0 X E)
    (I : Inv X pins σ H s) (r : Vals vs us) (rz : Vals zs ws) (l1 : vs.length = n) (l2 : zs.length = ks.length) (h : sp (pick pm (vs ++ zs)) H Q E) :
    codeAny (model X.prog X.w) X.A (.call (.ref f) ⟨us, ks.zip ws⟩) (fun r s' => match r with | .ok (.ret v) => EP X pins σ Q v s' | .ok _ => False | .error e => X.xe e s') s := by
  apply My.two; (focus intro zzI; simp only [↓ My.mkB zzI (by
  clear zzI
  refine codeAny_mono (F X.A X.stack s H us ws vs zs Q E hr I.env0 r rz l1 l2 h) fun r s' hq => ?_
  cases r with
  | error e => exact hx pins σ H s e s' I hq
  | ok fl =>
    cases fl with
    | ret u => exact I.after hq
    | next => exact False.elim hq
    | brk => exact False.elim hq
    | cont => exact False.elim hq
  )]); intro f; simpa using My.gz f 5 true
/-- C.m(k = v, ..), m a classmethod -/
def tCMK0 (C : Addr) (n : Nat) (pm : List Nat) (sp : Sp) (E : XK) (ta : TE) (tk : TA) : TE := fun σ H Q => ta σ H fun x H1 => x = .ref C ∧ tk σ H1 fun zs H2 => zs.length = n ∧ sp (pick pm ([.ref C] ++ zs)) H2 Q E
theorem pe_cmK0 (he : PE X o ta) (r : ClX.CRead X.K C mc) (c : ClX.CMet X.K C mc m p g) (F : FnKw X.prog X.w X.K X.mg X.base k g 1 ks pm sp) (hr : Room k X.A) (hx : Passes CX0 X E) (hkw : PK X kws tk)
    (hall : (backToKw pos (keywordEach kws X.env)).all (·.1.isSome) = true := by rfl) (hks : (backToKw pos (keywordEach kws X.env)).filterMap (·.1) = ks := by rfl)
    (hpl : ((backTo pos (starEach [] X.env)).any (·.1) || (backToKw pos (keywordEach kws X.env)).any (·.1.isNone)) = false := by rfl)
    (ht : eval (.Call (.Attribute o m apos) [] kws pos) X.env = (do
      let ov ← eval o X.env
      standAt apos.atName
      let (f, first) ← holding [ov] (getMethod ov m pl)
      callWith pos f first (backTo pos (starEach [] X.env)) (backToKw pos (keywordEach kws X.env))) := by rfl) : PE X (.Call (.Attribute o m apos) [] kws pos) (tCMK0 C ks.length pm sp E ta tk) := by
  refine ⟨fun pins s σ H Q I h => PySem.W.methodCall_KW (pl := pl) (thn (he.run pins s σ H _ I h) fun u s1 z => ?_) ht⟩
  obtain ⟨y, H1, I1, ry, ey, q⟩ := z
  subst ey
  obtain rfl : u = Value.ref C := ry
  refine ClX.getmethcm_ok I1 r c fun s2 I2 => ?_
  refine PySem.W.callWith_of (P := PySem.W.MethP X.K s1.heap.objs.size g (.ref C)) hpl (PySem.W.keeps_M c.fi) (evalArgs_kw2_nil hall ?_)
  refine thn (hkw.run pos _ s2 σ H1 _ I2 q) fun ws s3 z => ?_
  obtain ⟨zs, H2, I3, rz, l2, q2⟩ := z
  refine ⟨⟨ClX.pin_at I3, I3.kIn⟩, ?_⟩
  rw [hks]
  have z : wpAny (model X.prog X.w) X.A (call (.ref s1.heap.objs.size) [] (ks.zip ws)) (EP X ((s1.heap.objs.size, PySem.W.methodObj (.ref g) (.ref C)) :: pins) σ Q) X.xe s3 :=
    wpAny_call (PySem.W.method_call (ClX.pin_at I3) (run_fnK (us := [.ref C]) (vs := [.ref C]) F hr hx I3 (.cons rfl .nil) rz rfl l2 q2))
  exact thn z fun _ _ y => ClX.unpinE y
end
end My
namespace My
open PySem PySem.Spec PyProof.Rows L2
end My
namespace My
open PySem PySem.Spec PyProof.Rows L2
structure FnD (P : Program) (w : World) (K : Fg) (mg : Str → Option Value) (base : Heap) (k : Nat) (f : Addr) (x qual : Str) (st : Stmt) (kws : List (Str × V)) (ps : List Str) (sp : Sp) : Prop where
  o : ∃ fd, FunD K x qual (defArgs st) (defBody st) (defScope st) [] kws f fd ∧ FnOk P w K mg base CX0 k f fd ps sp
section
variable {fa : List (Fg → Bool)} {fn : List He5.DefA} {K : Fg} {mg : Str → Option Value} {P : Program} {w : World} {base : Heap}
variable {k : Nat} {f : Addr} {x qual : Str} {st : Stmt} {ps : List Str} {sp : Sp} {kws : List (Str × V)}
/-- called without them -/
theorem FnD.plain (F : FnD P w K mg base k f x qual st kws ps sp) (n : Nat) (hk : kws ≠ []) (hn : n + kws.length = ps.length)
    (h : ∀ (D : Addr) (doc pm : Value) (an : Option Addr) (cdv ct : Value) (us ks : List Value), us.length = n → ks.length = kws.length →
      KwChain D ((kws.map (·.1)).zip ks) (bindArgs (PySem.W.fnOf x qual (defArgs st) (defBody st) (defScope st) .none (.ref D) doc pm an cdv ct) ⟨us, []⟩) (ps.zip (us ++ ks))) :
    FnR P w K mg base CX0 k f (fun vs H Q E => sp (vs ++ kws.map (·.2)) H Q E) := by
  apply My.two; (focus intro zzI; simp only [↓ My.mkB zzI (by
  clear zzI
  obtain ⟨fd, F0, G⟩ := F.o
  obtain ⟨ds, rd, B⟩ := F0.binds0 n hk hn h
  exact G.raw B rd
  )]); intro f; simpa using My.gz f 5 true
/-- called with all of them -/
theorem FnD.kw (F : FnD P w K mg base k f x qual st kws ps sp) (n : Nat) (ks : List Str) (pm : List Nat)
    (hb : ∀ (kV doc pmv : Value) (an : Option Addr) (cdv ct : Value) (us ws : List Value), us.length = n → ws.length = ks.length →
      bindArgs (PySem.W.fnOf x qual (defArgs st) (defBody st) (defScope st) .none kV doc pmv an cdv ct) ⟨us, ks.zip ws⟩ = pure (ps.zip (pick pm (us ++ ws)))) : FnKw P w K mg base k f n ks pm sp := by
  apply My.two; (focus intro zzI; simp only [↓ My.mkB zzI (by
  clear zzI
  intro A outer s H us ws vs zs Q E hr e0 rv rz l1 l2 h
  obtain ⟨fd, F0, G⟩ := F.o
  refine G.run A outer s H ⟨us, ks.zip ws⟩ (pick pm (us ++ ws)) (pick pm (vs ++ zs)) Q E hr e0 ?_ (pick_vals (rv.append rz) pm) h
  obtain ⟨oc, od, dV, kV, doc, pmv, an, cdv, ct, osl, rfl, lk, hcd, hD, hK⟩ := F0.ex
  rcases hD with ⟨_, rfl⟩ | ⟨e, _⟩
  · exact .of_eq (hb kV doc pmv an cdv ct us ws (rv.length.symm.trans l1) (rz.length.symm.trans l2))
  · exact absurd rfl e
  )]); intro f; simpa using My.gz f 5 true
end
end My
namespace My
open PySem PySem.Spec PyProof.Rows L2
end My
namespace My
open PySem PySem.Spec PyProof.Rows L2
/-- 1 is True, all else False -/
def vB (i : Int) : V := .bl (decide (i = 1))
def dB (i : Int) : PyData := .bool (decide (i = 1))
def Bits (xs : List Int) : Prop := ∀ v ∈ xs, v = 0 ∨ v = 1
theorem Bits.tl {x : Int} {xs : List Int} (h : Bits (x :: xs)) : Bits xs := fun v hv => h v (List.mem_cons_of_mem _ hv)
theorem Bits.hd {x : Int} {xs : List Int} (h : Bits (x :: xs)) : x = 0 ∨ x = 1 := h x List.mem_cons_self
theorem Bits.take {xs : List Int} (h : Bits xs) (d : Nat) : Bits (xs.take d) := fun v hv => h v (List.mem_of_mem_take hv)
theorem Bits.drop {xs : List Int} (h : Bits xs) (d : Nat) : Bits (xs.drop d) := fun v hv => h v (List.mem_of_mem_drop hv)
theorem dB_eqv {x y : Int} (hx : x = 0 ∨ x = 1) (hy : y = 0 ∨ y = 1) : PyData.eqv (dB x) (dB y) = decide (x = y) := by
  rcases hx with rfl | rfl <;> rcases hy with rfl | rfl <;> simp [dB, PyData.eqv]
theorem eqvAll_bits : ∀ xs ys : List Int, Bits xs → Bits ys → PyData.eqvAll (xs.map dB) (ys.map dB) = decide (xs = ys)
  | [], [], _, _ => by simp [PyData.eqvAll]
  | [], y :: ys, _, _ => by simp [PyData.eqvAll]
  | x :: xs, [], _, _ => by simp [PyData.eqvAll]
  | x :: xs, y :: ys, hx, hy => by
    apply My.two; (focus intro zzI; simp only [↓ My.mkB zzI (by
    clear zzI
    have ih := eqvAll_bits xs ys hx.tl hy.tl
    have e := dB_eqv hx.hd hy.hd
    simp only [List.map_cons, PyData.eqvAll, e, ih]
    by_cases h1 : x = y <;> by_cases h2 : xs = ys <;> simp [h1, h2]
    )]); intro f; simpa using My.gz f 5 true
theorem canLay_bits : ∀ xs : List Int, PyData.canLayAll0 (xs.map dB) = true
  | [] => by simp [PyData.canLayAll0]
  | x :: xs => by simp [PyData.canLayAll0, dB, PyData.canLay0, canLay_bits xs]
theorem depth_bits : ∀ xs : List Int, PyData.depthAll (xs.map dB) ≤ 1
  | [] => by simp [PyData.depthAll]
  | x :: xs => by
    apply My.two; (focus intro zzI; simp only [↓ My.mkB zzI (by
    clear zzI
    have := depth_bits xs
    simp [PyData.depthAll, dB, PyData.depth]
    omega
    )]); intro f; simpa using My.gz f 5 true
theorem shaped_bits (xs : List Int) : SeqAt.shaped (.list (xs.map dB)) = true := by
  apply My.two; (focus intro zzI; simp only [↓ My.mkB zzI (by
  clear zzI
  have := depth_bits xs
  simp [SeqAt.shaped, PyData.canLay0, PyData.depth, canLay_bits]
  omega
  )]); intro f; simpa using My.gz f 5 true
theorem dp_bits {K : Fg} {H : Hp} : ∀ xs : List Int, DpAll K H (xs.map vB) (xs.map dB)
  | [] => .nil
  | x :: xs => .cons (.bl _) (dp_bits xs)
def rEqB (K : Fg) : R2 := fun x y H Q => ∃ (a b : Addr) (xs ys : List Int), x = .ref a ∧ y = .ref b ∧ SqL K H a (xs.map vB) ∧ SqL K H b (ys.map vB) ∧ Bits xs ∧ Bits ys ∧ Q (.bl (decide (xs = ys))) H
section
variable {X : Cx} {fa : List (Fg → Bool)} {fn : List He5.DefA} {K : Fg} {mg : Str → Option Value}
theorem op_eqB (hu : X.A.units + 64 < cLine) : OpR X (compareOp .Eq) (rEqB X.K) := by
  apply My.two; (focus intro zzI; simp only [↓ My.mkB zzI (by
  clear zzI
  intro pins s σ H x y v u Q I rx ry h
  obtain ⟨a, b, xs, ys, rfl, rfl, h1, h2, b1, b2, q⟩ := h
  refine op_eqD hu pins s σ H (.ref a) (.ref b) v u Q I rx ry ⟨_, _, .lst h1 (dp_bits xs), .lst h2 (dp_bits ys), shaped_bits _, shaped_bits _, ?_⟩
  rw [PyData.eqv, eqvAll_bits _ _ b1 b2]
  exact q
  )]); intro f; simpa using My.gz f 5 true
theorem eqB (T : TxOf fa fn K mg) (hu : X.A.units + 64 < cLine) (hK : X.K = K := by rfl) : OpR X (compareOp .Eq) (rEqB K) := by subst hK; exact op_eqB hu
end
theorem mapB_take (xs : List Int) (d : Nat) : (xs.map vB).take d = (xs.take d).map vB := (List.map_take).symm
theorem mapB_drop (xs : List Int) (d : Nat) : (xs.map vB).drop d = (xs.drop d).map vB := (List.map_drop).symm
theorem mapB_get {xs : List Int} {j : Nat} {i : Int} (h : xs[j]? = some i) : (xs.map vB)[j]? = some (vB i) := by
  rw [List.getElem?_map, h]
  rfl
end My
namespace My
open PySem PySem.Spec PyProof.Rows L2
def tLenSetQ (K : Fg) (ta : TE) : TE := fun σ H Q => ta σ H fun x H1 => ∃ (l : Addr) (ns : List Int), x = .ref l ∧ (SqL K H1 l (ns.map V.int) ∨ SqT K H1 l (ns.map V.int)) ∧ ns.Nodup ∧ ns.length ≤ 4000 ∧ Q (.int (ns.length : Nat)) H1
theorem pe_lenSetQ {X : Cx} {a : Expr} {ta : TE} {p p2 q pos : Pos} (hg : Gl X "len") (hm : X.mg "len" = none) (hg2 : Gl X "set") (hm2 : X.mg "set" = none) (ha : PE X a ta) (hc : X.calm = true := by rfl)
    (na : starEach [a] X.env = (false, eval a X.env) :: starEach [] X.env := by rfl) : PE X (.Call (.Name "len" p) [.Call (.Name "set" p2) [a] [] q] [] pos) (tLenSetQ X.K ta) := by
  refine ⟨fun pins s σ H Q I h => ?_⟩
  refine Call_ (ld_blt I hg hm boot_len ?_)
  refine PyProof.Rows.callWith_builtin1 (PyProof.Rows.args_cons ?_ rfl) rfl rfl
  refine Call_ (ld_blt I hg2 hm2 boot_set ?_)
  refine PyProof.Rows.callWith_type1 (PyProof.Rows.args_cons (thn (ha.run pins s σ H _ I h) fun v s1 ⟨x, H1, I1, r1, q1⟩ => PyProof.Rows.args_nil ?_) na) na rfl
  obtain ⟨l, ns, rfl, hq, hnd, hl, q1⟩ := q1
  cases r1
  rcases hq with hq | hq
  · obtain ⟨its, r, pl, hz⟩ := I1.list hq
    have hlen : its.toArray.size = ns.length := by rw [List.size_toArray, ← r.length, List.length_map]
    refine call_set_list (I1.ok.hd hc) pl.isList (by simpa using RZ.intsAre_vals r) (by rw [hlen]; unfold scanBound; omega) fun h' tk hS hk => ?_
    refine PyProof.Rows.args_nil ?_
    rw [hlen, RZ.firstMet_nodup hnd ns.length (Nat.le_refl _), List.take_length] at hS
    obtain ⟨o, es, ep, t, ho, hex, hd, _, _, _, hf, hn⟩ := hS
    have I2 : Inv X pins σ H1 { s1 with heap := h', toks := tk } := I1.kept fun b o e => hk b o (Heap.lt_size e) e
    exact call_len_set ho hex hd hf (by rw [hn] <;> omega) ⟨.int ns.length, H1, I2.tok _, ⟨_, by rw [hn]⟩, q1⟩
  · obtain ⟨its, r, pl, hz⟩ := I1.tuple hq
    refine call_set_tupI ns (I1.ok.hd hc) (show s1.heap.IsTuple l its.toArray from pl) (by simpa using RZ.intsAre_vals r) (by unfold scanBound; omega) fun h' tk c R hcn hk => ?_
    refine PyProof.Rows.args_nil ?_
    obtain ⟨o, es, ep, t, ho, hex, hd, _, nd, hmem, _, hf, hn, _⟩ := R
    have hc2 : es.size = ns.length := by
      have h1 := nd_le ns (es.toList.map keyOf) hnd fun x hx => (hmem x).mp (decide_eq_true hx)
      have h2 : (es.toList.map keyOf).length = es.size := by simp
      omega
    have I2 : Inv X pins σ H1 { s1 with heap := h', toks := tk } := I1.kept hk
    exact call_len_set ho hex hd hf (by rw [hc2]; omega) ⟨.int ns.length, H1, I2.tok _, ⟨_, by rw [hc2]⟩, q1⟩
end My
namespace My
open PySem PySem.Spec PyProof.Rows L2
section
variable {X : Cx} {CX : CXT} {n : Nat} {C g : Addr} {sp : Sp} {E : XK}
/-- x in y, y an instance -/
def rInO (neg : Bool) (C : Addr) (sp : Sp) (E : XK) : R2 := fun x y H Q => ∃ a dx fs, y = .ref a ∧ H a = some (.ins C dx fs) ∧ sp [.ref a, x] H (fun z H' => ∃ b : Bool, z = .bl b ∧ Q (.bl (if neg then !b else b)) H') E
theorem op_inO (hs : PySem.W.findIn X.K (.ref C) "__contains__" = some (some (.ref g))) (hf : PySem.W.isFn X.K (.ref g) = true) (F : FnR X.prog X.w X.K X.mg X.base CX n g sp) (hr : Room n X.A) (hx : Passes CX X E) : OpR X (compareOp .In) (rInO false C sp E) := by
  apply My.two; (focus intro zzI; simp only [↓ My.mkB zzI (by
  clear zzI
  intro pins s σ H x y v u Q I rx ry h
  obtain ⟨a, dx, fs, rfl, ha, q⟩ := h
  obtain rfl : u = Value.ref a := ry
  obtain ⟨od, J⟩ := inst_of I ha
  obtain ⟨m, hF⟩ := I.fr
  refine PySem.W.in_K hF I.ok.mod.kin J hs hf ?_
  have vs2 : Vals [V.ref a, x] [Value.ref a, v] := .cons rfl (.cons rx .nil)
  refine thn (wpAny_call (run_fnR F hr hx I vs2 q)) fun w s' z => ?_
  obtain ⟨z', H', I', rz, b, rfl, qz⟩ := z
  obtain rfl : w = Value.bool b := rz
  exact wpAny_pure ⟨.bl b, H', I', rfl, qz⟩
  )]); intro f; simpa using My.gz f 5 true
end
/-- a name that the class has not -/
def nbB (C m : Str) (K : Fg) : Bool := He.eqO (PySem.W.findIn K (.ref (He.ga K C)) m) (some none)
end My
namespace My
open PySem PySem.Spec PyProof.Rows L2
open Builtin.SmallTypes (ownedTupleIsFree ownedTupleHandOut nextOf)
/-- a zip's record -/
abbrev ZRec (h : Heap) (z TI TO : Addr) (q : Value) (f : Bool) : Prop :=
  h.get? z = some { cls := .type "zip", dict := none, data := .fields #[q, .bool f, .bool false, .ref TI, .ref TO], slots := #[] }
section
variable {prog : Program} {w : World} {A : Around} {E : Value → Shared → Prop} {s : Shared} {z TI TO i1 i2 l1 l2 : Addr} {k1 k2 : Nat} {xs ys : Array Value} {x y a b q : Value} {f : Bool}
/-- where a zip stands at turn i of a walk by which no tuple is taken back -/
def ZSt (z TI TO i1 i2 l1 l2 : Addr) (i : Nat) (h : Heap) : Prop :=
  ((ZRec h z TI TO .none false) ∨ ∃ (T : Addr) (f : Bool), ZRec h z TI TO (rawInt T) f) ∧ IsPair h TI (.ref i1) (.ref i2) ∧ (∃ a b, IsPair h TO a b) ∧ h.IsListIter i1 l1 i ∧ h.IsListIter i2 l2 i
theorem ZSt.at {i : Nat} {h g : Heap} (st : ZSt z TI TO i1 i2 l1 l2 i h) (k : ∀ c o, c = z ∨ c = TI ∨ c = TO ∨ c = i1 ∨ c = i2 → h.get? c = some o → g.get? c = some o) : ZSt z TI TO i1 i2 l1 l2 i g := by
  apply My.two; (focus intro zzI; simp only [↓ My.mkB zzI (by
  clear zzI
  obtain ⟨hz, hTI, ⟨a, b, hTO⟩, h1, h2⟩ := st
  refine ⟨?_, k _ _ (.inr (.inl rfl)) hTI, ⟨a, b, k _ _ (.inr (.inr (.inl rfl))) hTO⟩, h1.at fun o q => k _ _ (.inr (.inr (.inr (.inl rfl)))) q, h2.at fun o q => k _ _ (.inr (.inr (.inr (.inr rfl)))) q⟩
  rcases hz with h | ⟨T, f, h⟩
  · exact .inl (k _ _ (.inl rfl) h)
  · exact .inr ⟨T, f, k _ _ (.inl rfl) h⟩
  )]); intro f; simpa using My.gz f 5 true
end
end My
namespace My
open PySem PySem.Spec PyProof.Rows L2
end My
namespace My
open PySem PySem.Spec PyProof.Rows L2
end My
namespace My
open PySem PySem.Spec PyProof.Rows L2
section
variable {fa : List (Fg → Bool)} {fn : List He5.DefA} {K : Fg} {mg : Str → Option Value} {X : Cx}
theorem inq (T : TxOf fa fn K mg) (hK : X.K = K := by rfl) : OpR X (compareOp .In) (rIn K false) := by subst hK; exact op_in_seq
theorem ninq (T : TxOf fa fn K mg) (hK : X.K = K := by rfl) : OpR X (compareOp .NotIn) (rIn K true) := by subst hK; exact op_notIn_seq
end
end My
namespace My
open PySem PySem.Spec PyProof.Rows L2
end My
namespace My
open PySem PySem.Spec PyProof.Rows L2
/-- the class has object's __ne__ -/
def neB (C : Str) (K : Fg) : Bool := He.eqO (PySem.W.findIn K (.ref (He.ga K C)) "__ne__") (some (some (.builtin "object.__ne__"))) && decide (PySem.W.mroIn K (He.ga K C) (.type "object") = some true)
end My
namespace My
open PySem PySem.Spec PyProof.Rows L2
end My
namespace My
open PySem PySem.Spec PyProof.Rows L2
end My
namespace My
open PySem PySem.Spec PyProof.Rows L2
/-- built-in types of values -/
def tys : List String := ["NoneType", "bool", "int", "str", "list", "tuple", "dict"]
/-- none of these types is the class D, and none goes ahead of the class C -/
def othB (C D : Str) (K : Fg) : Bool := tys.all fun T => decide (PySem.W.kitOne K (.type T) (.ref (He.ga K D)) = some false) && PySem.W.notFirst K (He.ga K C) (.type T)
end My
namespace My
open PySem PySem.Spec PyProof.Rows L2 PySem.PyData
/-- the text, sign by sign -/
abbrev sg (d : PyData) : List Nat := TL.tl d.shown
/-- a figure or a minus -/
def Fig (c : Nat) : Prop := c = 45 ∨ (48 ≤ c ∧ c ≤ 57)
theorem digit_fig {n : Nat} : ∀ c ∈ (Nat.toDigits 10 n).map Char.toNat, 48 ≤ c ∧ c ≤ 57 := fun c hc => by
  obtain ⟨d, hd, rfl⟩ := List.mem_map.mp hc
  have h := Nat.isDigit_of_mem_toDigits (by decide) (by decide) hd
  simp only [Char.isDigit, Bool.and_eq_true, decide_eq_true_eq] at h
  exact ⟨h.1, h.2⟩
theorem repr_list (n : Nat) : (Nat.repr n).toList = Nat.toDigits 10 n := by
  unfold Nat.repr
  rw [String.toList_ofList]
theorem sg_nat (n : Nat) : sg (.int (n : Int)) = (Nat.toDigits 10 n).map Char.toNat := by
  unfold sg
  rw [shown_int, TL.tl_ofString, show (toString (n : Int)) = Nat.repr n from rfl, repr_list]
theorem sg_neg (n : Nat) : sg (.int (Int.negSucc n)) = 45 :: (Nat.toDigits 10 (n + 1)).map Char.toNat := by
  apply My.two; (focus intro zzI; simp only [↓ My.mkB zzI (by
  clear zzI
  unfold sg
  rw [shown_int, TL.tl_ofString, show (toString (Int.negSucc n)) = "-" ++ Nat.repr (n + 1) from rfl, String.toList_append, List.map_append, repr_list]
  rfl
  )]); intro f; simpa using My.gz f 5 true
theorem sg_int_fig (i : Int) : ∀ c ∈ sg (.int i), Fig c := by
  apply My.two; (focus intro zzI; simp only [↓ My.mkB zzI (by
  clear zzI
  cases i with
  | ofNat n =>
    intro c hc
    rw [show Int.ofNat n = (n : Int) from rfl, sg_nat] at hc
    exact .inr (digit_fig c hc)
  | negSucc n =>
    intro c hc
    rw [sg_neg] at hc
    rcases List.mem_cons.mp hc with h | h
    · exact .inl h
    · exact .inr (digit_fig c h)
  )]); intro f; simpa using My.gz f 5 true
/-- closers -/
def Clo (c : List Nat) : Prop := c = [44, 41] ∨ c = [41] ∨ c = [93]
theorem Clo.ex {c : List Nat} (h : Clo c) : ∃ k l, c = k :: l ∧ (k = 44 ∨ k = 41 ∨ k = 93) := by
  apply My.two; (focus intro zzI; simp only [↓ My.mkB zzI (by
  clear zzI
  rcases h with rfl | rfl | rfl
  · exact ⟨_, _, rfl, .inl rfl⟩
  · exact ⟨_, _, rfl, .inr (.inl rfl)⟩
  · exact ⟨_, _, rfl, .inr (.inr rfl)⟩
  )]); intro f; simpa using My.gz f 5 true
end My
namespace My
open PySem PySem.Spec PyProof.Rows L2
/-- a caught exception at a, kept: its class, its dict -/
def ExK (cls : Value) (d : Option Addr) (a : Addr) : HO := .ext fun g => ∃ (o : Obj) (fv : Array Value), g.get? a = some o ∧ Zc cls d o ∧ o.data = .fields fv
end My
namespace My
open PySem PySem.Spec PyProof.Rows L2
/-- an exception with its own dict, kept at a -/
def KExc (H : Hp) (a C : Addr) (fs : List (Str × V)) : Prop := ∃ dd : Addr, H a = some (ExK (.ref C) (some dd) a) ∧ H dd = some (.xd fs)
theorem KExc.same {H H' : Hp} {a C : Addr} {fs : List (Str × V)} (h : KExc H a C fs) (s : Same H H') : KExc H' a C fs := by
  obtain ⟨dd, h1, h2⟩ := h
  exact ⟨dd, s _ _ h1, s _ _ h2⟩
end My
namespace My
open PySem PySem.Spec PyProof.Rows L2
end My
namespace My
open PySem PySem.Spec PyProof.Rows L2
end My
namespace My
open PySem PySem.Spec PyProof.Rows L2
section
variable {X : Cx} {o : Expr} {ta : TE} {f : Str} {pos : Pos}
/-- o.f = .. as a target -/
def gFld (K : Fg) (ta : TE) (f : Str) : TG := fun v σ H Q => ta σ H fun x H1 => ∃ a C dx fs, x = .ref a ∧ H1 a = some (.ins C dx fs) ∧ Cls K C ∧ NoAttr K C f ∧ fs.length < 1000 ∧ Q σ (upd H1 a (.ins C dx (putF f v fs)))
theorem pg_fld (he : PE X o ta)
    (hq : ∀ v, assign (.Attribute o f pos) X.env v = (do
      let w ← holding [v] (eval o X.env)
      standAt pos.atName
      holding [v, w] (setAttr w f v)
      release [v, w] []) := by intro _; rfl) : PG X (.Attribute o f pos) (gFld X.K ta f) := by
  apply My.two; (focus intro zzI; simp only [↓ My.mkB zzI (by
  clear zzI
  refine ⟨fun pins s σ H v u Q I r h => ?_⟩
  rw [hq]
  refine wpAny_bind (wpAny_holding (thn (he.run pins s σ H _ I h) fun w s1 h1 => ?_))
  obtain ⟨x, H1, I1, rx, a, C, dx, fs, ex, ea, c, n, l, q⟩ := h1
  subst ex
  obtain rfl : w = Value.ref a := rx
  exact wpAny_bind (wpAny_standAt (wpAny_bind (wpAny_holding (setattr_ok I1 ea c n l r fun s3 I3 => wpAny_release ⟨σ, _, I3, q⟩))))
  )]); intro f; simpa using My.gz f 5 true
end
end My
namespace My
/-- the remainder comes again first at L, where it is that of e -/
structure Trl (f : Int → Int) (d : Nat) (x : Int) (L e : Nat) : Prop where
  lt : e < L
  eq : it f x L % (d : Int) = it f x e % (d : Int)
  ne : ∀ i j : Nat, i < j → j < L → it f x i % (d : Int) ≠ it f x j % (d : Int)
/-- a look at m dates: which remainder has which number -/
structure TrlI (f : Int → Int) (d : Nat) (x : Int) (m : Nat) (val : Int → Option Int) : Prop where
  v1 : ∀ z j, val z = some j → ∃ n : Nat, j = (n : Int) ∧ n < m ∧ it f x n % (d : Int) = z
  v2 : ∀ j : Nat, j < m → val (it f x j % (d : Int)) = some (j : Int)
  le : m ≤ d
section
variable {f : Int → Int} {d : Nat} {x : Int} {m L e L' e' : Nat} {val : Int → Option Int}
theorem TrlI.start : TrlI f d x 0 (fun _ => none) := ⟨fun z j h => (nomatch h), fun j h => absurd h (Nat.not_lt_zero _), Nat.zero_le _⟩
theorem TrlI.ne (h : TrlI f d x m val) (i j : Nat) (hij : i < j) (hj : j < m) : it f x i % (d : Int) ≠ it f x j % (d : Int) := fun e => by
  have h1 := h.v2 i (by omega)
  rw [e, h.v2 j hj] at h1
  have := Option.some.inj h1
  omega
theorem TrlI.step (d0 : 0 < d) (h : TrlI f d x m val) (hv : val (it f x m % (d : Int)) = none) : TrlI f d x (m + 1) (fun z => if z = it f x m % (d : Int) then some (m : Int) else val z) := by
  apply My.two; (focus intro zzI; simp only [↓ My.mkB zzI (by
  clear zzI
  have nn : ∀ j : Nat, j < m → it f x j % (d : Int) ≠ it f x m % (d : Int) := fun j hj e => by
    have := h.v2 j hj
    rw [e, hv] at this
    cases this
  refine ⟨fun z j hz => ?_, fun j hj => ?_, ?_⟩
  · replace hz : (if z = it f x m % (d : Int) then some (m : Int) else val z) = some j := hz
    by_cases e : z = it f x m % (d : Int)
    · rw [if_pos e] at hz
      exact ⟨m, (Option.some.inj hz).symm, Nat.lt_succ_self m, e.symm⟩
    · rw [if_neg e] at hz
      obtain ⟨n, h1, h2, h3⟩ := h.v1 z j hz
      exact ⟨n, h1, by omega, h3⟩
  · show (if it f x j % (d : Int) = it f x m % (d : Int) then some (m : Int) else val (it f x j % (d : Int))) = _
    rcases Nat.lt_or_ge j m with c | c
    · rw [if_neg (nn j c)]
      exact h.v2 j c
    · have : j = m := by omega
      subst this
      rw [if_pos rfl]
  · have hp := pigeon d ((List.range (m + 1)).map fun j => (it f x j % (d : Int)).toNat) ?_ ?_
    · rw [List.length_map, List.length_range] at hp
      exact hp
    · rw [List.nodup_iff_pairwise_ne, List.pairwise_map]
      refine List.Pairwise.imp_of_mem ?_ (List.pairwise_lt_range (n := m + 1))
      intro i j hi hj hij e
      have hi2 := List.mem_range.mp hi
      have hj2 := List.mem_range.mp hj
      have a0 := Int.emod_nonneg (it f x i) (show (d : Int) ≠ 0 by omega)
      have b0 := Int.emod_nonneg (it f x j) (show (d : Int) ≠ 0 by omega)
      have e2 : it f x i % (d : Int) = it f x j % (d : Int) := by omega
      rcases Nat.lt_or_ge j m with c1 | c1
      · exact h.ne i j hij c1 e2
      · have : j = m := by omega
        subst this
        exact nn i hij e2
    · intro v hv2
      obtain ⟨j, _, rfl⟩ := List.mem_map.mp hv2
      have a1 := Int.emod_lt_of_pos (it f x j) (show (0 : Int) < (d : Int) by omega)
      have a0 := Int.emod_nonneg (it f x j) (show (d : Int) ≠ 0 by omega)
      omega
  )]); intro f; simpa using My.gz f 5 true
theorem TrlI.done {j : Int} (h : TrlI f d x m val) (hv : val (it f x m % (d : Int)) = some j) : ∃ e : Nat, j = (e : Int) ∧ Trl f d x m e := by
  obtain ⟨n, h1, h2, h3⟩ := h.v1 _ _ hv
  exact ⟨n, h1, h2, h3.symm, fun i j hij hj => h.ne i j hij hj⟩
theorem Trl.uniq (a : Trl f d x L e) (b : Trl f d x L' e') : L = L' ∧ e = e' := by
  apply My.two; (focus intro zzI; simp only [↓ My.mkB zzI (by
  clear zzI
  have hL : L = L' := by
    rcases Nat.lt_trichotomy L L' with c | c | c
    · exact absurd a.eq.symm (b.ne e L a.lt c)
    · exact c
    · exact absurd b.eq.symm (a.ne e' L' b.lt c)
  subst hL
  refine ⟨rfl, ?_⟩
  rcases Nat.lt_trichotomy e e' with c | c | c
  · exact absurd (a.eq.symm.trans b.eq) (a.ne e e' c b.lt)
  · exact c
  · exact absurd (b.eq.symm.trans a.eq) (a.ne e' e c a.lt)
  )]); intro f; simpa using My.gz f 5 true
theorem Trl.le (a : Trl f d x L e) (d0 : 0 < d) : L ≤ d := by
  apply My.two; (focus intro zzI; simp only [↓ My.mkB zzI (by
  clear zzI
  have hp := pigeon d ((List.range L).map fun j => (it f x j % (d : Int)).toNat) ?_ ?_
  · rw [List.length_map, List.length_range] at hp
    exact hp
  · rw [List.nodup_iff_pairwise_ne, List.pairwise_map]
    refine List.Pairwise.imp_of_mem ?_ (List.pairwise_lt_range (n := L))
    intro i j hi hj hij e
    have hj2 := List.mem_range.mp hj
    have a0 := Int.emod_nonneg (it f x i) (show (d : Int) ≠ 0 by omega)
    have b0 := Int.emod_nonneg (it f x j) (show (d : Int) ≠ 0 by omega)
    exact a.ne i j hij hj2 (by omega)
  · intro v hv2
    obtain ⟨j, _, rfl⟩ := List.mem_map.mp hv2
    have a1 := Int.emod_lt_of_pos (it f x j) (show (0 : Int) < (d : Int) by omega)
    have a0 := Int.emod_nonneg (it f x j) (show (d : Int) ≠ 0 by omega)
    omega
  )]); intro f; simpa using My.gz f 5 true
theorem Trl.at (a : Trl f d x L e) (p : Per f d) (c : Nat) (hc : e ≤ c) : it f x c = it f x (e + (c - e) % (L - e)) + (((c - e) / (L - e) : Nat) : Int) * (it f x L - it f x e) := by
  apply My.two; (focus intro zzI; simp only [↓ My.mkB zzI (by
  clear zzI
  have := a.lt
  have h := it_ring p (a := e) (s := L - e) (by omega) (by rw [show e + (L - e) = L by omega]; exact a.eq) c hc
  rw [show e + (L - e) = L by omega] at h
  exact h
  )]); intro f; simpa using My.gz f 5 true
end
end My
namespace PySem
end PySem
namespace PySem
end PySem
namespace My
open PySem PySem.Spec PyProof.Rows L2
end My
namespace My
open PySem PySem.Spec PyProof.Rows L2
section
variable {K : Fg} {H H' : Hp} {a p : Addr} {o : HO} {xs : List V}
theorem Same.use (s : Same H H') (h : H a = some o) : H' a = some o := s _ _ h
theorem newS (e : upd H a o = H') (h : H a = none) : Same H H' := e ▸ same_upd h
theorem newO (e : upd H a o = H') : H' a = some o := by rw [← e]; exact upd_same
end
end My
namespace My
open PySem PySem.Spec PyProof.Rows L2
end My
namespace My
/-- the least number of a date -/
def NumOf (f : Int → Int) (x date : Int) : Option Int → Prop
  | none => ∀ c : Nat, it f x c ≠ date
  | some k => ∃ c : Nat, k = (c : Int) ∧ it f x c = date ∧ ∀ c' : Nat, it f x c' = date → c ≤ c'
theorem NumOf.uniq {f : Int → Int} {x date : Int} : ∀ {o o' : Option Int}, NumOf f x date o → NumOf f x date o' → o = o'
  | none, none, _, _ => rfl
  | none, some _, h, ⟨c, _, e, _⟩ => absurd e (h c)
  | some _, none, ⟨c, _, e, _⟩, h => absurd e (h c)
  | some _, some _, ⟨c, e1, h1, m1⟩, ⟨c', e2, h2, m2⟩ => by
    apply My.two; (focus intro zzI; simp only [↓ My.mkB zzI (by
    clear zzI
    have := m1 c' h2
    have := m2 c h1
    rw [e1, e2]
    congr 1
    omega
    )]); intro f; simpa using My.gz f 5 true
section
variable {f : Int → Int} {d : Nat} {x date : Int} {L e : Nat}
theorem Trl.split (a : Trl f d x L e) (p : Per f d) (k : Nat) : ∃ j q : Nat, j < L ∧ k = j + q * (L - e) ∧ it f x k = it f x j + (q : Int) * (it f x L - it f x e) ∧ (q ≠ 0 → e ≤ j) := by
  apply My.two; (focus intro zzI; simp only [↓ My.mkB zzI (by
  clear zzI
  have lt := a.lt
  rcases Nat.lt_or_ge k L with h | h
  · exact ⟨k, 0, h, by omega, by omega, fun z => absurd rfl z⟩
  · have hm := Nat.mod_lt (k - e) (show 0 < L - e by omega)
    have hd := Nat.mod_add_div (k - e) (L - e)
    refine ⟨e + (k - e) % (L - e), (k - e) / (L - e), by omega, ?_, a.at p k (by omega), fun _ => by omega⟩
    rw [Nat.mul_comm] at hd
    omega
  )]); intro f; simpa using My.gz f 5 true
theorem Trl.join (a : Trl f d x L e) (p : Per f d) {j : Nat} (q : Nat) (h : e ≤ j) (hj : j < L) : it f x (j + q * (L - e)) = it f x j + (q : Int) * (it f x L - it f x e) := by
  apply My.two; (focus intro zzI; simp only [↓ My.mkB zzI (by
  clear zzI
  have lt := a.lt
  have s0 : 0 < L - e := by omega
  have h1 := a.at p (j + q * (L - e)) (by omega)
  have e1 : j + q * (L - e) - e = (j - e) + (L - e) * q := by rw [Nat.mul_comm]; omega
  rw [e1, Nat.add_mul_mod_self_left, Nat.add_mul_div_left _ _ s0, Nat.mod_eq_of_lt (by omega), Nat.div_eq_of_lt (by omega), show e + (j - e) = j by omega, Nat.zero_add] at h1
  exact h1
  )]); intro f; simpa using My.gz f 5 true
theorem Trl.dvd (a : Trl f d x L e) : (d : Int) ∣ it f x L - it f x e := Int.dvd_of_emod_eq_zero (by rw [Int.sub_emod, a.eq, Int.sub_self]; exact Int.zero_emod _)
end
end My
namespace My
open PySem PySem.Spec PyProof.Rows L2
/-- for i in range(n), the slot told without 0 + -/
theorem for_range0 {n : Nat} {g : TG} {tb : TS} {D : Ends} {σ : L2.St} {H : Hp} (Pv : Nat → L2.St → Hp → Prop) (h0 : Pv 0 σ H)
    (hs : ∀ i σ H, i < n → Pv i σ H → g (.int (i : Nat)) σ H fun σ2 H2 => tb { D with nx := Pv (i + 1), ct := Pv (i + 1), bk := D.nx } σ2 H2) (hd : ∀ σ H, Pv n σ H → D.nx σ H) :
    ∃ W : Nat → Nat → L2.St → Hp → Prop, (∃ m, W 0 m σ H) ∧ ∀ i m σ H, W i m σ H →
      ((Itr 0 n).stop i H ∧ D.nx σ H) ∨ ((Itr 0 n).go i H ∧ ∃ N : L2.St → Hp → Prop, (∀ σ' H', N σ' H' → ∃ m', m' < m ∧ W (i + 1) m' σ' H') ∧ ∀ x H', (Itr 0 n).yld i H x H' → g x σ H' fun σ2 H2 => tb { D with nx := N, ct := N, bk := D.nx } σ2 H2) :=
  for_range Pv h0 (fun i σ H hi p => by
    rw [show (0 : Int) + (i : Int) = (i : Int) from Int.zero_add _]
    exact hs i σ H hi p) hd
theorem Same.via {H H1 H2 : Hp} (b : Same H1 H2) (a : Same H H1) : Same H H2 := a.trans b
theorem at_add {xs : List V} {a b : Nat} {v : V} (h : xs[a + b]? = some v) : atI xs ((a : Int) + (b : Int)) = some v := at_of (Int.natCast_add a b).symm h
theorem mulL {i j : Int} (h : -(2 ^ 64) < i ∧ i < 2 ^ 64) : CMul i j := .inl h
theorem mulR {i j : Int} (h : -(2 ^ 64) < j ∧ j < 2 ^ 64) : CMul i j := .inr h
end My
namespace My
/-- the least number with the same date -/
def LevOf (f : Int → Int) (x : Int) (g : Int → Int) (y : Int) : Option Int → Prop
  | none => ∀ c : Nat, it f x c ≠ it g y c
  | some k => ∃ c : Nat, k = (c : Int) ∧ it f x c = it g y c ∧ ∀ c' : Nat, it f x c' = it g y c' → c ≤ c'
theorem LevOf.uniq {f : Int → Int} {x : Int} {g : Int → Int} {y : Int} : ∀ {o o' : Option Int}, LevOf f x g y o → LevOf f x g y o' → o = o'
  | none, none, _, _ => rfl
  | none, some _, h, ⟨c, _, e, _⟩ => absurd e (h c)
  | some _, none, ⟨c, _, e, _⟩, h => absurd e (h c)
  | some _, some _, ⟨c, e1, h1, m1⟩, ⟨c', e2, h2, m2⟩ => by
    apply My.two; (focus intro zzI; simp only [↓ My.mkB zzI (by
    clear zzI
    have := m1 c' h2
    have := m2 c h1
    rw [e1, e2]
    congr 1
    omega
    )]); intro f; simpa using My.gz f 5 true
theorem LevOf.symm {f : Int → Int} {x : Int} {g : Int → Int} {y : Int} : ∀ {o : Option Int}, LevOf f x g y o → LevOf g y f x o
  | none, h => fun c e => h c e.symm
  | some _, ⟨c, e1, h1, m1⟩ => ⟨c, e1, h1.symm, fun c' e => m1 c' e.symm⟩
end My
namespace My
open PySem PySem.Spec PyProof.Rows L2
end My
namespace My
open PySem PySem.Spec PyProof.Rows L2
end My
namespace My
open PySem PySem.Spec PyProof.Rows L2
def kD : Key → PyData
  | .inl i => .int i
  | .inr x => .str x
/-- the interpreter's own dict of modules is in the written part -/
def smB (K : Fg) : Bool := match K.lookup sysModules with
  | some o => o.cls == .type "dict"
  | none => false
mutual
inductive ShwD (K : Fg) (H : Hp) : V → PyData → Prop
  | non : ShwD K H .non .none
  | bl (b : Bool) : ShwD K H (.bl b) (.bool b)
  | int (i : Int) : ShwD K H (.int i) (.int i)
  | str (x : Str) : ShwD K H (.str x) (.str x)
  | lst {a : Addr} {xs : List V} {ds : List PyData} : SqL K H a xs → ShwDs K H xs ds → ShwD K H (.ref a) (.list ds)
  | tup {a : Addr} {xs : List V} {ds : List PyData} : SqT K H a xs → ShwDs K H xs ds → ShwD K H (.ref a) (.tuple ds)
  | dct {a : Addr} {kvs : List (Key × V)} {ds : List (PyData × PyData)} : H a = some (.dK kvs) → ShwKv K H kvs ds → ShwD K H (.ref a) (.dict ds)
inductive ShwDs (K : Fg) (H : Hp) : List V → List PyData → Prop
  | nil : ShwDs K H [] []
  | cons {v : V} {vs : List V} {d : PyData} {ds : List PyData} : ShwD K H v d → ShwDs K H vs ds → ShwDs K H (v :: vs) (d :: ds)
inductive ShwKv (K : Fg) (H : Hp) : List (Key × V) → List (PyData × PyData) → Prop
  | nil : ShwKv K H [] []
  | cons {k : Key} {v : V} {vs : List (Key × V)} {d : PyData} {ds : List (PyData × PyData)} : ShwD K H v d → ShwKv K H vs ds → ShwKv K H ((k, v) :: vs) ((kD k, d) :: ds)
end
section
variable {X : Cx} {pins : List (Addr × Obj)} {σ : L2.St} {H : Hp} {s : Shared}
theorem smB_ne {K : Fg} {h : Heap} (hK : K.In h) (sm : smB K = true) {a : Addr} {o : Obj} (ha : h.get? a = some o) (hc : o.cls ≠ .type "dict") : a ≠ sysModules := fun e => by
  unfold smB at sm
  split at sm
  · rename_i o' eo
    rw [e, hK _ _ eo] at ha
    cases ha
    exact hc (beq_iff_eq.mp sm)
  · cases sm
theorem key_reads {h : Heap} {k : Key} {v : Value} (hk : keyIs k v = true) : Reads h v (kD k) [] := by
  apply My.two; (focus intro zzI; simp only [↓ My.mkB zzI (by
  clear zzI
  rcases keyIs_shape hk with ⟨i, t, rfl, rfl⟩ | ⟨x, t, rfl, rfl⟩
  · exact .int i t
  · exact .str x t
  )]); intro f; simpa using My.gz f 5 true
mutual
theorem ShwD.reads (I : Inv X pins σ H s) (sm : smB X.K = true) : ∀ {v : V} {d : PyData}, ShwD X.K H v d → ∀ u, RelV v u → ∃ as, Reads s.heap u d as ∧ sysModules ∉ as
  | _, _, .non, u, r => by
    cases r
    exact ⟨_, .none, by simp⟩
  | _, _, .bl b, u, r => by
    cases r
    exact ⟨_, .bool b, by simp⟩
  | _, _, .int i, u, r => by
    obtain ⟨t, rfl⟩ := r
    exact ⟨_, .int i t, by simp⟩
  | _, _, .str x, u, r => by
    obtain ⟨t, rfl⟩ := r
    exact ⟨_, .str x t, by simp⟩
  | _, _, .lst (a := a) h hs, u, r => by
    apply My.two; (focus intro zzI; simp only [↓ My.mkB zzI (by
    clear zzI
    cases r
    obtain ⟨its, rv, ⟨o, n, h1, h2, _, h3⟩, _⟩ := I.list h
    obtain ⟨as, ha, hn⟩ := ShwDs.reads I sm hs its rv
    refine ⟨_, .list h1 h2 h3 ha, fun hm => ?_⟩
    rcases List.mem_cons.mp hm with e | e
    · exact smB_ne I.kIn sm h1 (by rw [h2]; exact fun z => absurd (Value.type.inj z) (by decide)) e.symm
    · exact hn e
    )]); intro f; simpa using My.gz f 5 true
  | _, _, .tup h hs, u, r => by
    apply My.two; (focus intro zzI; simp only [↓ My.mkB zzI (by
    clear zzI
    cases r
    obtain ⟨its, rv, ⟨o, h1, h2, n, h3⟩, _⟩ := I.tuple h
    obtain ⟨as, ha, hn⟩ := ShwDs.reads I sm hs its rv
    exact ⟨_, .tuple h1 h2 h3 ha, hn⟩
    )]); intro f; simpa using My.gz f 5 true
  | _, _, .dct (a := a) (kvs := kvs) h hs, u, r => by
    apply My.two; (focus intro zzI; simp only [↓ My.mkB zzI (by
    clear zzI
    cases r
    obtain ⟨_, ne, vs, hkv, o, es, ep, h1, hx, h3, _, hp, _⟩ := dk_of I.hok h
    obtain ⟨as, bs, ha, hb, hn, hm⟩ := ShwKv.reads I sm hs es.toList vs hkv hp
    refine ⟨_, .dict h1 hx.1 h3 ha hb, fun q => ?_⟩
    rcases List.mem_append.mp q with q | q
    · rcases List.mem_cons.mp q with e | q
      · rw [← e] at ne
        exact absurd ne (by simp)
      · exact hn q
    · exact hm q
    )]); intro f; simpa using My.gz f 5 true
theorem ShwDs.reads (I : Inv X pins σ H s) (sm : smB X.K = true) : ∀ {vs : List V} {ds : List PyData}, ShwDs X.K H vs ds → ∀ us, Vals vs us → ∃ as, ReadsAll s.heap us ds as ∧ sysModules ∉ as
  | _, _, .nil, us, r => by
    cases r
    exact ⟨_, .nil, by simp⟩
  | _, _, .cons h hs, us, r => by
    apply My.two; (focus intro zzI; simp only [↓ My.mkB zzI (by
    clear zzI
    cases r with
    | cons r1 r2 =>
      obtain ⟨a1, h1, n1⟩ := ShwD.reads I sm h _ r1
      obtain ⟨a2, h2, n2⟩ := ShwDs.reads I sm hs _ r2
      exact ⟨_, .cons h1 h2, fun q => (List.mem_append.mp q).elim n1 n2⟩
    )]); intro f; simpa using My.gz f 5 true
theorem ShwKv.reads (I : Inv X pins σ H s) (sm : smB X.K = true) : ∀ {kvs : List (Key × V)} {ds : List (PyData × PyData)}, ShwKv X.K H kvs ds → ∀ (es : List DictEntry) (vs : List (Key × Value)), KV kvs vs → Pairs (mixKind X.prog X.w) es vs →
    ∃ as bs, ReadsAll s.heap (es.map (·.key)) (ds.map (·.1)) as ∧ ReadsAll s.heap (es.map (·.val)) (ds.map (·.2)) bs ∧ sysModules ∉ as ∧ sysModules ∉ bs
  | _, _, .nil, es, vs, hk, hp => by
    apply My.two; (focus intro zzI; simp only [↓ My.mkB zzI (by
    clear zzI
    cases hk
    cases hp
    exact ⟨_, _, .nil, .nil, by simp, by simp⟩
    )]); intro f; simpa using My.gz f 5 true
  | _, _, .cons (k := k) (d := d) h hs, es, vs, hk, hp => by
    apply My.two; (focus intro zzI; simp only [↓ My.mkB zzI (by
    clear zzI
    cases hk with
    | cons r1 r2 =>
      cases hp with
      | @cons e kv _ _ p1 p2 p3 =>
        obtain ⟨e1, e2⟩ := r1
        obtain ⟨a2, h2, n2⟩ := ShwD.reads I sm h _ e2
        obtain ⟨as, bs, g1, g2, m1, m2⟩ := ShwKv.reads I sm hs _ _ r2 p3
        have kr : Reads s.heap _ (kD k) [] := key_reads (e1 ▸ p1)
        have h3 : Reads s.heap e.val d a2 := by
          rw [p2]
          exact h2
        exact ⟨_, _, .cons kr g1, .cons h3 g2, by simpa using m1, fun q => (List.mem_append.mp q).elim n2 m2⟩
    )]); intro f; simpa using My.gz f 5 true
end
end
mutual
/-- d's ints have at most B digits; its text's length is at most n; its depth at most m -/
inductive FitD (B : Nat) : PyData → Nat → Nat → Prop
  | of {d : PyData} {n m : Nat} : Fit B d n m → FitD B d n m
  | lst {ds : List PyData} {n m : Nat} : FitDs B ds n m → FitD B (.list ds) (n + 3) (m + 1)
  | tup {ds : List PyData} {n m : Nat} : FitDs B ds n m → FitD B (.tuple ds) (n + 3) (m + 1)
  | dct {ds : List (PyData × PyData)} {n m : Nat} : FitKv B ds n m → FitD B (.dict ds) (n + 3) (m + 1)
inductive FitDs (B : Nat) : List PyData → Nat → Nat → Prop
  | nil {m : Nat} : FitDs B [] 0 m
  | cons {d : PyData} {ds : List PyData} {n k m j : Nat} : FitD B d n j → j ≤ m → FitDs B ds k m → FitDs B (d :: ds) (n + 2 + k) m
inductive FitKv (B : Nat) : List (PyData × PyData) → Nat → Nat → Prop
  | nil {m : Nat} : FitKv B [] 0 m
  | cons {c d : PyData} {ds : List (PyData × PyData)} {i n k m h j : Nat} : FitD B c i h → h ≤ m → FitD B d n j → j ≤ m → FitKv B ds k m → FitKv B ((c, d) :: ds) (i + n + 4 + k) m
end
mutual
theorem FitD.ok {B : Nat} (hB : B ≤ 500) : ∀ {d : PyData} {n m : Nat}, FitD B d n m → d.shown.length ≤ n ∧ d.showable = true ∧ d.depth ≤ m
  | _, _, _, .of h => by
    obtain ⟨h1, h2, _, h4⟩ := Fit.ok hB h
    exact ⟨h1, h2, h4⟩
  | _, _, _, .lst h => by
    apply My.two; (focus intro zzI; simp only [↓ My.mkB zzI (by
    clear zzI
    obtain ⟨h1, h2, h4⟩ := FitDs.ok hB h
    refine ⟨?_, by simpa only [PyData.showable] using h2, by simp only [PyData.depth]; omega⟩
    simp only [PyData.shown]
    exact Nat.le_trans (listText_le _) (by omega)
    )]); intro f; simpa using My.gz f 5 true
  | _, _, _, .tup h => by
    apply My.two; (focus intro zzI; simp only [↓ My.mkB zzI (by
    clear zzI
    obtain ⟨h1, h2, h4⟩ := FitDs.ok hB h
    refine ⟨?_, by simpa only [PyData.showable] using h2, by simp only [PyData.depth]; omega⟩
    simp only [PyData.shown]
    exact Nat.le_trans (fmt_text _) (by omega)
    )]); intro f; simpa using My.gz f 5 true
  | _, _, _, .dct h => by
    apply My.two; (focus intro zzI; simp only [↓ My.mkB zzI (by
    clear zzI
    obtain ⟨h1, h2, h4⟩ := FitKv.ok hB h
    refine ⟨?_, by simpa only [PyData.showable] using h2, by simp only [PyData.depth]; omega⟩
    simp only [PyData.shown]
    exact Nat.le_trans (dictText_len_le _) (by omega)
    )]); intro f; simpa using My.gz f 5 true
theorem FitDs.ok {B : Nat} (hB : B ≤ 500) : ∀ {ds : List PyData} {n m : Nat}, FitDs B ds n m → piled (PyData.shownAll ds) ≤ n ∧ PyData.showableAll ds = true ∧ PyData.depthAll ds ≤ m
  | _, _, _, .nil => ⟨by simp only [PyData.shownAll]; exact Nat.le_refl _, by simp only [PyData.showableAll], by simp only [PyData.depthAll]; omega⟩
  | _, _, _, .cons h hj hs => by
    apply My.two; (focus intro zzI; simp only [↓ My.mkB zzI (by
    clear zzI
    obtain ⟨h1, h2, h4⟩ := FitD.ok hB h
    obtain ⟨g1, g2, g4⟩ := FitDs.ok hB hs
    refine ⟨?_, ?_, ?_⟩
    · simp only [PyData.shownAll, piled_cons]
      omega
    · simp only [PyData.showableAll, h2, g2, Bool.and_self]
    · simp only [PyData.depthAll]
      omega
    )]); intro f; simpa using My.gz f 5 true
theorem FitKv.ok {B : Nat} (hB : B ≤ 500) : ∀ {ds : List (PyData × PyData)} {n m : Nat}, FitKv B ds n m → ((PyData.shownKv ds).map (·.length)).sum + 2 * (PyData.shownKv ds).length ≤ n ∧ PyData.showableKv ds = true ∧ PyData.depthKv ds ≤ m
  | _, _, _, .nil => ⟨by simp [PyData.shownKv], by simp only [PyData.showableKv], by simp only [PyData.depthKv]; omega⟩
  | _, _, _, .cons hc hh h hj hs => by
    apply My.two; (focus intro zzI; simp only [↓ My.mkB zzI (by
    clear zzI
    obtain ⟨c1, c2, c4⟩ := FitD.ok hB hc
    obtain ⟨h1, h2, h4⟩ := FitD.ok hB h
    obtain ⟨g1, g2, g4⟩ := FitKv.ok hB hs
    refine ⟨?_, ?_, ?_⟩
    · have e : (": " : Str).length = 2 := rfl
      simp only [PyData.shownKv, List.map_cons, List.sum_cons, List.length_cons, strLen_append, e]
      omega
    · simp only [PyData.showableKv, c2, h2, g2, Bool.and_self]
    · simp only [PyData.depthKv]
      omega
    )]); intro f; simpa using My.gz f 5 true
end
end My
namespace My
section
variable {f : Int → Int} {n : Nat}
/-- the k-th member from x on, or before it; none if there are no members -/
def KthO (f : Int → Int) (n : Nat) (x k : Int) : Option Int → Prop
  | none => ∀ y, f y ≠ 1
  | some y => f y = 1 ∧ ps f n y = ps f n x + (if 0 < k then k - 1 else k)
theorem KthO.uniq (p : Per f n) (n0 : 0 < n) (hb : ∀ x, f x = 0 ∨ f x = 1) {x k : Int} : ∀ {o o' : Option Int}, KthO f n x k o → KthO f n x k o' → o = o'
  | none, none, _, _ => rfl
  | none, some y, h, h' => absurd h'.1 (h y)
  | some y, none, h, h' => absurd h.1 (h' y)
  | some y, some z, h, h' => by rw [num_uniq p n0 hb h.1 h'.1 (h.2.trans h'.2.symm)]
/-- the greatest gap: bound and met -/
def GapO (f : Int → Int) (n : Nat) : Option Int → Prop
  | none => ∀ y, f y ≠ 1
  | some G => (∀ y z, f y = 1 → f z = 1 → ps f n z = ps f n y + 1 → z - y ≤ G) ∧ ∃ y z, f y = 1 ∧ f z = 1 ∧ ps f n z = ps f n y + 1 ∧ z - y = G
theorem GapO.uniq : ∀ {o o' : Option Int}, GapO f n o → GapO f n o' → o = o'
  | none, none, _, _ => rfl
  | none, some y, h, h' => by
    obtain ⟨y, z, h1, _⟩ := h'.2
    exact absurd h1 (h y)
  | some y, none, h, h' => by
    obtain ⟨y, z, h1, _⟩ := h.2
    exact absurd h1 (h' y)
  | some G, some G', h, h' => by
    apply My.two; (focus intro zzI; simp only [↓ My.mkB zzI (by
    clear zzI
    obtain ⟨y, z, h1, h2, h3, h4⟩ := h.2
    obtain ⟨y', z', h1', h2', h3', h4'⟩ := h'.2
    have := h'.1 y z h1 h2 h3
    have := h.1 y' z' h1' h2' h3'
    congr 1
    omega
    )]); intro f; simpa using My.gz f 5 true
end
end My
namespace My
/-- the remainder behind n steps -/
def rmd (f : Int → Int) (d : Nat) (x : Int) (n : Nat) : Int := it f x n % (d : Int)
section
variable {f : Int → Int} {d : Nat} {x y i : Int} {L e s : Nat}
theorem rmd_lo (d0 : 0 < d) (n : Nat) : 0 ≤ rmd f d x n := Int.emod_nonneg _ (by omega)
theorem rmd_hi (d0 : 0 < d) (n : Nat) : rmd f d x n < (d : Int) := Int.emod_lt_of_pos _ (by omega)
theorem rmd_zero (h0 : 0 ≤ x) (h1 : x < (d : Int)) : rmd f d x 0 = x := by
  apply My.two; (focus intro zzI; simp only [↓ My.mkB zzI (by
  clear zzI
  unfold rmd
  rw [it_zero]
  exact Int.emod_eq_of_lt h0 h1
  )]); intro f; simpa using My.gz f 5 true
theorem it_emod (p : Per f d) (y : Int) (n : Nat) : it f y n = it f (y % (d : Int)) n + (d : Int) * (y / (d : Int)) := by
  rw [← it_per p, Int.emod_add_mul_ediv]
theorem rmd_emod (p : Per f d) (y : Int) (n : Nat) : rmd f d (y % (d : Int)) n = rmd f d y n := by
  unfold rmd
  rw [it_emod p y n, Int.add_mul_emod_self_left]
theorem rmd_add (p : Per f d) (x : Int) (a b : Nat) : rmd f d x (a + b) = rmd f d (rmd f d x a) b := by
  apply My.two; (focus intro zzI; simp only [↓ My.mkB zzI (by
  clear zzI
  rw [show rmd f d x a = it f x a % (d : Int) from rfl, rmd_emod p]
  unfold rmd
  rw [it_add]
  )]); intro f; simpa using My.gz f 5 true
theorem Trl.back (a : Trl f d x L e) (p : Per f d) (c : Nat) (hc : e ≤ c) : rmd f d x c = rmd f d x (e + (c - e) % (L - e)) := by
  apply My.two; (focus intro zzI; simp only [↓ My.mkB zzI (by
  clear zzI
  have h := a.at p c hc
  have hd : (d : Int) ∣ it f x L - it f x e := a.dvd
  unfold rmd
  rw [h, Int.add_emod, Int.emod_eq_zero_of_dvd (Int.dvd_trans hd (Int.dvd_mul_left _ _)), Int.add_zero, Int.emod_emod]
  )]); intro f; simpa using My.gz f 5 true
theorem mod_step {a s t : Nat} (h0 : 0 < t) (h1 : t < s) : (a + t) % s ≠ a % s := fun e => by
  have s0 : 0 < s := by omega
  have hu := Nat.mod_lt a s0
  rw [Nat.add_mod, Nat.mod_eq_of_lt h1] at e
  rcases Nat.lt_or_ge (a % s + t) s with c | c
  · rw [Nat.mod_eq_of_lt c] at e
    omega
  · rw [Nat.mod_eq_sub_mod c, Nat.mod_eq_of_lt (by omega)] at e
    omega
/-- a remainder on the ring of a trail -/
theorem Trl.onr (a : Trl f d x L e) (p : Per f d) {j : Nat} (hj : e ≤ j) : Trl f d (rmd f d x j) (L - e) 0 := by
  apply My.two; (focus intro zzI; simp only [↓ My.mkB zzI (by
  clear zzI
  have elt := a.lt
  refine ⟨by omega, ?_, fun u v huv hv => ?_⟩
  · show rmd f d (rmd f d x j) (L - e) = rmd f d (rmd f d x j) 0
    rw [← rmd_add p, ← rmd_add p, a.back p (j + (L - e)) (by omega), a.back p (j + 0) (by omega)]
    congr 2
    rw [show j + (L - e) - e = (j - e) + (L - e) by omega, Nat.add_mod_right, Nat.add_zero]
  · show rmd f d (rmd f d x j) u ≠ rmd f d (rmd f d x j) v
    rw [← rmd_add p, ← rmd_add p, a.back p (j + u) (by omega), a.back p (j + v) (by omega)]
    have m1 := Nat.mod_lt (j + u - e) (show 0 < L - e by omega)
    have m2 := Nat.mod_lt (j + v - e) (show 0 < L - e by omega)
    have ne : (j + v - e) % (L - e) ≠ (j + u - e) % (L - e) := by
      have := mod_step (a := j + u - e) (s := L - e) (t := v - u) (by omega) (by omega)
      rw [show j + u - e + (v - u) = j + v - e by omega] at this
      exact this
    intro h
    rcases Nat.lt_or_gt_of_ne ne with c | c
    · exact a.ne _ _ (show e + (j + v - e) % (L - e) < e + (j + u - e) % (L - e) by omega) (by omega) h.symm
    · exact a.ne _ _ (show e + (j + u - e) % (L - e) < e + (j + v - e) % (L - e) by omega) (by omega) h
  )]); intro f; simpa using My.gz f 5 true
theorem Trl.ring_per (a : Trl f d y s 0) (p : Per f d) (n : Nat) : rmd f d y n = rmd f d y (n % s) := by
  apply My.two; (focus intro zzI; simp only [↓ My.mkB zzI (by
  clear zzI
  have := a.back p n (Nat.zero_le _)
  rw [Nat.zero_add, Nat.sub_zero, Nat.sub_zero] at this
  exact this
  )]); intro f; simpa using My.gz f 5 true
/-- from any date of a ring one comes back -/
theorem Trl.ring_back (a : Trl f d y s 0) (p : Per f d) (n m : Nat) : ∃ t, rmd f d (rmd f d y n) t = rmd f d y m := by
  apply My.two; (focus intro zzI; simp only [↓ My.mkB zzI (by
  clear zzI
  have s0 := a.lt
  have hn := Nat.mod_lt n s0
  refine ⟨m % s + s - n % s, ?_⟩
  rw [← rmd_add p, a.ring_per p (n + _), a.ring_per p m, Nat.add_mod]
  congr 1
  have hm := Nat.mod_lt m s0
  rw [Nat.add_mod_mod, show n % s + (m % s + s - n % s) = m % s + s by omega, Nat.add_mod_right, Nat.mod_mod]
  )]); intro f; simpa using My.gz f 5 true
/-- the least remainder of a ring -/
def Lst (f : Int → Int) (d : Nat) (i : Int) : Prop := (0 ≤ i ∧ i < (d : Int)) ∧ (∃ s, Trl f d i s 0) ∧ ∀ n, i ≤ rmd f d i n
theorem Trl.lst (a : Trl f d y s 0) (p : Per f d) (d0 : 0 < d) {k : Nat} (hm : ∀ n, n < s → rmd f d y k ≤ rmd f d y n) : Lst f d (rmd f d y k) := by
  apply My.two; (focus intro zzI; simp only [↓ My.mkB zzI (by
  clear zzI
  refine ⟨⟨rmd_lo d0 k, rmd_hi d0 k⟩, ⟨_, a.onr p (Nat.zero_le k)⟩, fun n => ?_⟩
  rw [← rmd_add p, a.ring_per p (k + n)]
  exact hm _ (Nat.mod_lt _ a.lt)
  )]); intro f; simpa using My.gz f 5 true
theorem Lst.uniq {j : Int} {n m : Nat} (p : Per f d) (a : Lst f d i) (b : Lst f d j) (h : rmd f d i n = rmd f d j m) : i = j := by
  apply My.two; (focus intro zzI; simp only [↓ My.mkB zzI (by
  clear zzI
  obtain ⟨⟨i0, i1⟩, ⟨s, ta⟩, la⟩ := a
  obtain ⟨⟨j0, j1⟩, ⟨t, tb⟩, lb⟩ := b
  obtain ⟨u, hu⟩ := ta.ring_back p n 0
  obtain ⟨v, hv⟩ := tb.ring_back p m 0
  rw [rmd_zero i0 i1] at hu
  rw [rmd_zero j0 j1] at hv
  rw [h, ← rmd_add p] at hu
  rw [← h, ← rmd_add p] at hv
  have h1 := la (n + v)
  have h2 := lb (m + u)
  omega
  )]); intro f; simpa using My.gz f 5 true
open Classical in
noncomputable def rlen (f : Int → Int) (d : Nat) (i : Int) : Nat := if h : ∃ s, Trl f d i s 0 then h.choose else 0
theorem Trl.rl_eq (a : Trl f d i s 0) : rlen f d i = s := by
  apply My.two; (focus intro zzI; simp only [↓ My.mkB zzI (by
  clear zzI
  have h : ∃ s, Trl f d i s 0 := ⟨s, a⟩
  unfold rlen
  rw [dif_pos h]
  exact (h.choose_spec.uniq a).1
  )]); intro f; simpa using My.gz f 5 true
theorem Lst.trl (a : Lst f d i) : Trl f d i (rlen f d i) 0 := by
  apply My.two; (focus intro zzI; simp only [↓ My.mkB zzI (by
  clear zzI
  obtain ⟨_, ⟨s, t⟩, _⟩ := a
  rw [t.rl_eq]
  exact t
  )]); intro f; simpa using My.gz f 5 true
open Classical in
noncomputable def lsts (f : Int → Int) (d : Nat) : List Int := ((List.range d).map fun n : Nat => (n : Int)).filter fun i => decide (Lst f d i)
open Classical in
theorem mem_lsts : i ∈ lsts f d ↔ Lst f d i := by
  apply My.two; (focus intro zzI; simp only [↓ My.mkB zzI (by
  clear zzI
  unfold lsts
  rw [List.mem_filter, decide_eq_true_eq]
  refine ⟨fun h => h.2, fun h => ⟨List.mem_map.mpr ⟨i.toNat, List.mem_range.mpr (by have := h.1; omega), by have := h.1; omega⟩, h⟩⟩
  )]); intro f; simpa using My.gz f 5 true
theorem lsts_up : (lsts f d).Pairwise (· < ·) := by
  apply My.two; (focus intro zzI; simp only [↓ My.mkB zzI (by
  clear zzI
  have h : ((List.range d).map fun n : Nat => (n : Int)).Pairwise (· < ·) := by
    rw [List.pairwise_map]
    exact List.pairwise_lt_range.imp fun h => by omega
  unfold lsts
  exact h.filter _
  )]); intro f; simpa using My.gz f 5 true
theorem up_nodup {l : List Int} (h : l.Pairwise (· < ·)) : l.Nodup := by
  rw [List.nodup_iff_pairwise_ne]
  exact h.imp fun h => by omega
theorem lsts_nodup : (lsts f d).Nodup := up_nodup lsts_up
end
/-- behind the starts before st: where one has been, and the least remainders of the rings found -/
structure RgI (f : Int → Int) (d st : Nat) (val : Int → Option Int) (fs : List Int) : Prop where
  nd : fs.Nodup
  lst : ∀ i ∈ fs, Lst f d i ∧ val i ≠ none
  old : ∀ z v, val z = some v → v < (st : Int)
  all : ∀ z : Int, 0 ≤ z → z < (st : Int) → val z ≠ none
  cl : ∀ z v, val z = some v → 0 ≤ z ∧ z < (d : Int) ∧ (∀ n, val (rmd f d z n) ≠ none) ∧ ∃ i ∈ fs, ∃ n, rmd f d z n = i
/-- in the walk from st, behind m steps -/
structure RgW (f : Int → Int) (d st : Nat) (v0 : Int → Option Int) (m : Nat) (val : Int → Option Int) : Prop where
  le : m ≤ d
  ne : ∀ a b : Nat, a < b → b < m → rmd f d st a ≠ rmd f d st b
  out : ∀ a, a < m → v0 (rmd f d st a) = none
  v1 : ∀ a, a < m → val (rmd f d st a) = some (st : Int)
  v2 : ∀ z, (∀ a, a < m → rmd f d st a ≠ z) → val z = v0 z
section
variable {f : Int → Int} {d st m : Nat} {v0 val : Int → Option Int} {fs : List Int}
theorem RgI.start : RgI f d 0 (fun _ => none) [] := ⟨List.nodup_nil, fun i h => (nomatch h), fun z v h => (nomatch h), fun z h0 h1 => by omega, fun z v h => (nomatch h)⟩
theorem RgW.start : RgW f d st v0 0 v0 := ⟨Nat.zero_le _, fun a b _ h => absurd h (Nat.not_lt_zero _), fun a h => absurd h (Nat.not_lt_zero _), fun a h => absurd h (Nat.not_lt_zero _), fun z _ => rfl⟩
theorem RgW.step (d0 : 0 < d) (h : RgW f d st v0 m val) (hv : val (rmd f d st m) = none) : RgW f d st v0 (m + 1) (fun z => if z = rmd f d st m then some (st : Int) else val z) := by
  apply My.two; (focus intro zzI; simp only [↓ My.mkB zzI (by
  clear zzI
  have nw : ∀ a, a < m → rmd f d st a ≠ rmd f d st m := fun a ha e => by
    rw [← e, h.v1 a ha] at hv
    cases hv
  have ne : ∀ a b : Nat, a < b → b < m + 1 → rmd f d st a ≠ rmd f d st b := fun a b hab hb => by
    rcases Nat.lt_or_ge b m with c | c
    · exact h.ne a b hab c
    · rw [show b = m by omega]
      exact nw a (by omega)
  refine ⟨?_, ne, fun a ha => ?_, fun a ha => ?_, fun z hz => ?_⟩
  · have hp := pigeon d ((List.range (m + 1)).map fun j => (rmd f d st j).toNat) ?_ ?_
    · rw [List.length_map, List.length_range] at hp
      exact hp
    · rw [List.nodup_iff_pairwise_ne, List.pairwise_map]
      refine List.Pairwise.imp_of_mem ?_ (List.pairwise_lt_range (n := m + 1))
      intro i j hi hj hij e
      have hj2 := List.mem_range.mp hj
      have a0 := rmd_lo (f := f) (x := (st : Int)) d0 i
      have b0 := rmd_lo (f := f) (x := (st : Int)) d0 j
      exact ne i j hij hj2 (by omega)
    · intro v hv2
      obtain ⟨j, _, rfl⟩ := List.mem_map.mp hv2
      have a1 := rmd_hi (f := f) (x := (st : Int)) d0 j
      have a0 := rmd_lo (f := f) (x := (st : Int)) d0 j
      omega
  · rcases Nat.lt_or_ge a m with c | c
    · exact h.out a c
    · rw [show a = m by omega, ← h.v2 _ fun b hb => nw b hb]
      exact hv
  · show (if rmd f d st a = rmd f d st m then some (st : Int) else val (rmd f d st a)) = some (st : Int)
    by_cases c : rmd f d st a = rmd f d st m
    · rw [if_pos c]
    · rw [if_neg c]
      refine h.v1 a ?_
      rcases Nat.lt_or_ge a m with c2 | c2
      · exact c2
      · exact absurd (by rw [show a = m by omega]) c
  · show (if z = rmd f d st m then some (st : Int) else val z) = v0 z
    rw [if_neg (fun e => hz m (by omega) e.symm)]
    exact h.v2 z fun a ha => hz a (by omega)
  )]); intro f; simpa using My.gz f 5 true
/-- the walk ends -/
theorem RgW.done {v : Int} (p : Per f d) (d0 : 0 < d) (I : RgI f d st v0 fs) (h : RgW f d st v0 m val) (hs : st < d) (hv : val (rmd f d st m) = some v) :
    (v = (st : Int) ∧ ∃ e, Trl f d st m e ∧ (∀ i, Lst f d i → (∃ n, rmd f d (rmd f d st e) n = i) → RgI f d (st + 1) val (fs ++ [i]))) ∨ (v ≠ (st : Int) ∧ RgI f d (st + 1) val fs) := by
  apply My.two; (focus intro zzI; simp only [↓ My.mkB zzI (by
  clear zzI
  have s0 : rmd f d (st : Int) 0 = (st : Int) := rmd_zero (by omega) (by omega)
  have grow : ∀ z v, v0 z = some v → val z = some v := fun z v hz => by
    rw [← hz]
    refine h.v2 z fun a ha e => ?_
    rw [← e, h.out a ha] at hz
    cases hz
  have old : ∀ z v, val z = some v → v0 z = some v ∨ (v = (st : Int) ∧ ∃ a, a < m ∧ rmd f d st a = z) := fun z v hz => by
    by_cases c : ∃ a, a < m ∧ rmd f d st a = z
    · obtain ⟨a, ha, e⟩ := c
      rw [← e, h.v1 a ha] at hz
      exact .inr ⟨(Option.some.inj hz).symm, a, ha, e⟩
    · rw [h.v2 z fun a ha e => c ⟨a, ha, e⟩] at hz
      exact .inl hz
  have stv : val (st : Int) ≠ none := by
    rcases Nat.eq_zero_or_pos m with c | c
    · subst c
      rw [s0] at hv
      rw [hv]
      exact fun z => nomatch z
    · have := h.v1 0 c
      rw [s0] at this
      rw [this]
      exact fun z => nomatch z
  rcases old _ _ hv with hv0 | ⟨e0, a, ha, ea⟩
  · -- one comes to a place of before
    refine .inr ⟨fun e => by have := I.old _ _ hv0; omega, ?_⟩
    obtain ⟨c0, c1, c2, i, hi, n, hn⟩ := I.cl _ _ hv0
    refine ⟨I.nd, fun i hi => ⟨(I.lst i hi).1, ?_⟩, fun z v hz => ?_, fun z h0 h1 => ?_, fun z v hz => ?_⟩
    · obtain ⟨w, hw⟩ := Option.ne_none_iff_exists'.mp (I.lst i hi).2
      rw [grow _ _ hw]
      exact fun z => nomatch z
    · rcases old _ _ hz with h2 | h2
      · have := I.old _ _ h2
        omega
      · omega
    · rcases Int.lt_or_le z (st : Int) with c | c
      · obtain ⟨w, hw⟩ := Option.ne_none_iff_exists'.mp (I.all z h0 c)
        rw [grow _ _ hw]
        exact fun z => nomatch z
      · rw [show z = (st : Int) by omega]
        exact stv
    · rcases old _ _ hz with h2 | ⟨_, a, ha, rfl⟩
      · obtain ⟨b0, b1, b2, b3⟩ := I.cl _ _ h2
        refine ⟨b0, b1, fun n => ?_, b3⟩
        obtain ⟨w, hw⟩ := Option.ne_none_iff_exists'.mp (b2 n)
        rw [grow _ _ hw]
        exact fun z => nomatch z
      · refine ⟨rmd_lo d0 a, rmd_hi d0 a, fun k => ?_, i, hi, m - a + n, ?_⟩
        · rw [← rmd_add p]
          rcases Nat.lt_or_ge (a + k) m with c | c
          · rw [h.v1 _ c]
            exact fun z => nomatch z
          · rw [show a + k = m + (a + k - m) by omega, rmd_add p]
            obtain ⟨w, hw⟩ := Option.ne_none_iff_exists'.mp (c2 (a + k - m))
            rw [grow _ _ hw]
            exact fun z => nomatch z
        · rw [← rmd_add p, show a + (m - a + n) = m + n by omega, rmd_add p]
          exact hn
  · -- a new ring
    subst e0
    have tr : Trl f d (st : Int) m a := ⟨ha, ea.symm, h.ne⟩
    refine .inl ⟨rfl, a, tr, fun i hi hn => ?_⟩
    obtain ⟨n, hn⟩ := hn
    have inr : ∀ k, ∃ b, b < m ∧ rmd f d (st : Int) (a + k) = rmd f d (st : Int) b := fun k => by
      have := tr.back p (a + k) (by omega)
      have := Nat.mod_lt (a + k - a) (show 0 < m - a by omega)
      exact ⟨a + (a + k - a) % (m - a), by omega, by assumption⟩
    have iv : ∃ b, b < m ∧ rmd f d (st : Int) b = i := by
      obtain ⟨b, hb, e⟩ := inr n
      rw [← rmd_add p, e] at hn
      exact ⟨b, hb, hn⟩
    obtain ⟨b, hb, eb⟩ := iv
    have ivn : val i = some (st : Int) := by
      rw [← eb]
      exact h.v1 b hb
    have i0 : v0 i = none := by
      rw [← eb]
      exact h.out b hb
    refine ⟨?_, fun j hj => ?_, fun z v hz => ?_, fun z h0 h1 => ?_, fun z v hz => ?_⟩
    · rw [List.nodup_append]
      refine ⟨I.nd, by simp, fun x hx y hy e => ?_⟩
      rw [List.mem_singleton] at hy
      subst hy
      subst e
      exact (I.lst _ hx).2 i0
    · rcases List.mem_append.mp hj with hj | hj
      · refine ⟨(I.lst j hj).1, ?_⟩
        obtain ⟨w, hw⟩ := Option.ne_none_iff_exists'.mp (I.lst j hj).2
        rw [grow _ _ hw]
        exact fun z => nomatch z
      · rw [List.mem_singleton] at hj
        subst hj
        rw [ivn]
        exact ⟨hi, fun z => nomatch z⟩
    · rcases old _ _ hz with h2 | h2
      · have := I.old _ _ h2
        omega
      · omega
    · rcases Int.lt_or_le z (st : Int) with c | c
      · obtain ⟨w, hw⟩ := Option.ne_none_iff_exists'.mp (I.all z h0 c)
        rw [grow _ _ hw]
        exact fun z => nomatch z
      · rw [show z = (st : Int) by omega]
        exact stv
    · rcases old _ _ hz with h2 | ⟨_, c, hc, rfl⟩
      · obtain ⟨b0, b1, b2, j, hj, b3⟩ := I.cl _ _ h2
        refine ⟨b0, b1, fun n => ?_, j, List.mem_append_left _ hj, b3⟩
        obtain ⟨w, hw⟩ := Option.ne_none_iff_exists'.mp (b2 n)
        rw [grow _ _ hw]
        exact fun z => nomatch z
      · refine ⟨rmd_lo d0 c, rmd_hi d0 c, fun k => ?_, i, List.mem_append_right _ (List.mem_singleton.mpr rfl), ?_⟩
        · rw [← rmd_add p]
          rcases Nat.lt_or_ge (c + k) m with c2 | c2
          · rw [h.v1 _ c2]
            exact fun z => nomatch z
          · obtain ⟨b2, hb2, e2⟩ := inr (c + k - a)
            rw [show a + (c + k - a) = c + k by omega] at e2
            rw [e2, h.v1 _ hb2]
            exact fun z => nomatch z
        · refine ⟨(m - c) + n, ?_⟩
          rw [← rmd_add p, show c + ((m - c) + n) = m + n by omega, rmd_add p, ← ea]
          exact hn
  )]); intro f; simpa using My.gz f 5 true
/-- all rings are found -/
theorem RgI.end_ (p : Per f d) (I : RgI f d d val fs) : fs.Perm (lsts f d) := by
  apply My.two; (focus intro zzI; simp only [↓ My.mkB zzI (by
  clear zzI
  refine (List.perm_ext_iff_of_nodup I.nd lsts_nodup).mpr fun i => ?_
  rw [mem_lsts]
  refine ⟨fun h => (I.lst i h).1, fun h => ?_⟩
  obtain ⟨v, hv⟩ := Option.ne_none_iff_exists'.mp (I.all i h.1.1 h.1.2)
  obtain ⟨_, _, _, j, hj, n, hn⟩ := I.cl i v hv
  have l := (I.lst j hj).1
  have : i = j := by
    refine Lst.uniq (n := n) (m := 0) p h l ?_
    rw [hn, rmd_zero l.1.1 l.1.2]
  rw [this]
  exact hj
  )]); intro f; simpa using My.gz f 5 true
end
end My
namespace My
/-- how many keys there are -/
def Cnt (d : Nat) (val : Int → Option Int) (c : Nat) : Prop := ∃ ks : List Int, ks.Nodup ∧ ks.length = c ∧ ∀ z ∈ ks, 0 ≤ z ∧ z < (d : Int) ∧ val z ≠ none
theorem Cnt.start {d : Nat} : Cnt d (fun _ => none) 0 := ⟨[], List.nodup_nil, rfl, fun z h => (nomatch h)⟩
theorem Cnt.put {d c : Nat} {val : Int → Option Int} {z : Int} {v : Int} (h : Cnt d val c) (hz : val z = none) (h0 : 0 ≤ z) (h1 : z < (d : Int)) : Cnt d (fun y => if y = z then some v else val y) (c + 1) := by
  apply My.two; (focus intro zzI; simp only [↓ My.mkB zzI (by
  clear zzI
  obtain ⟨ks, nd, l, hk⟩ := h
  refine ⟨z :: ks, List.nodup_cons.mpr ⟨fun m => (hk z m).2.2 hz, nd⟩, by rw [List.length_cons, l], fun y hy => ?_⟩
  show 0 ≤ y ∧ y < (d : Int) ∧ (if y = z then some v else val y) ≠ none
  by_cases e : y = z
  · rw [if_pos e, e]
    exact ⟨h0, h1, fun z => nomatch z⟩
  · rw [if_neg e]
    exact hk y ((List.mem_cons.mp hy).resolve_left e)
  )]); intro f; simpa using My.gz f 5 true
theorem Cnt.le {d c : Nat} {val : Int → Option Int} (h : Cnt d val c) : c ≤ d := by
  apply My.two; (focus intro zzI; simp only [↓ My.mkB zzI (by
  clear zzI
  obtain ⟨ks, nd, l, hk⟩ := h
  have hp := pigeon d (ks.map Int.toNat) ?_ ?_
  · rw [List.length_map, l] at hp
    exact hp
  · rw [List.nodup_iff_pairwise_ne, List.pairwise_map]
    refine List.Pairwise.imp_of_mem ?_ (List.nodup_iff_pairwise_ne.mp nd)
    intro a b ha hb hab e
    have := (hk a ha).1
    have := (hk b hb).1
    exact hab (by omega)
  · intro v hv
    obtain ⟨z, hz, rfl⟩ := List.mem_map.mp hv
    have := hk z hz
    omega
  )]); intro f; simpa using My.gz f 5 true
end My
namespace My
/-- behind k rings and m more places of the next one: which remainder has which index -/
structure PlI (f : Int → Int) (d k m : Nat) (val : Int → Option Int) : Prop where
  v1 : ∀ z j, val z = some j → ∃ (n : Nat) (i : Int) (q : Nat), j = (n : Int) ∧ (lsts f d)[n]? = some i ∧ rmd f d i q = z ∧ q < rlen f d i ∧ (n < k ∨ n = k ∧ q < m)
  v2 : ∀ (n q : Nat) (i : Int), (lsts f d)[n]? = some i → q < rlen f d i → (n < k ∨ n = k ∧ q < m) → val (rmd f d i q) ≠ none
section
variable {f : Int → Int} {d k m : Nat} {val : Int → Option Int} {i : Int}
theorem PlI.start : PlI f d 0 0 (fun _ => none) := ⟨fun z j h => (nomatch h), fun n q i _ _ h => by omega⟩
theorem PlI.next (h : PlI f d k m val) (hi : (lsts f d)[k]? = some i) (hm : rlen f d i ≤ m) : PlI f d (k + 1) 0 val := ⟨fun z j e => by
  obtain ⟨n, i2, q, h1, h2, h3, h4, h5⟩ := h.v1 z j e
  exact ⟨n, i2, q, h1, h2, h3, h4, .inl (by omega)⟩, fun n q j hn hq hc => by
  rcases Nat.lt_or_ge n k with c | c
  · exact h.v2 n q j hn hq (.inl c)
  · obtain rfl : n = k := by omega
    rw [hn] at hi
    obtain rfl : j = i := Option.some.inj hi
    exact h.v2 n q j hn hq (.inr ⟨rfl, by omega⟩)⟩
theorem PlI.step (h : PlI f d k m val) (hi : (lsts f d)[k]? = some i) (hm : m < rlen f d i) : PlI f d k (m + 1) (fun z => if z = rmd f d i m then some (k : Int) else val z) := by
  apply My.two; (focus intro zzI; simp only [↓ My.mkB zzI (by
  clear zzI
  refine ⟨fun z j e => ?_, fun n q j hn hq hc => ?_⟩
  · replace e : (if z = rmd f d i m then some (k : Int) else val z) = some j := e
    by_cases c : z = rmd f d i m
    · rw [if_pos c] at e
      exact ⟨k, i, m, (Option.some.inj e).symm, hi, c.symm, hm, .inr ⟨rfl, by omega⟩⟩
    · rw [if_neg c] at e
      obtain ⟨n, i2, q, h1, h2, h3, h4, h5⟩ := h.v1 z j e
      exact ⟨n, i2, q, h1, h2, h3, h4, by omega⟩
  · show (if rmd f d j q = rmd f d i m then some (k : Int) else val (rmd f d j q)) ≠ none
    by_cases c : rmd f d j q = rmd f d i m
    · rw [if_pos c]
      exact fun z => nomatch z
    · rw [if_neg c]
      refine h.v2 n q j hn hq ?_
      rcases hc with hc | ⟨rfl, hc⟩
      · exact .inl hc
      · refine .inr ⟨rfl, ?_⟩
        rcases Nat.lt_or_ge q m with c2 | c2
        · exact c2
        · rw [hn] at hi
          obtain rfl : j = i := Option.some.inj hi
          exact absurd (by rw [show q = m by omega]) c
  )]); intro f; simpa using My.gz f 5 true
theorem PlI.free (h : PlI f d k m val) (p : Per f d) (hi : (lsts f d)[k]? = some i) (hm : m < rlen f d i) : val (rmd f d i m) = none := by
  apply My.two; (focus intro zzI; simp only [↓ My.mkB zzI (by
  clear zzI
  cases hv : val (rmd f d i m) with
  | none => rfl
  | some j =>
    obtain ⟨n, i2, q, _, h2, h3, h4, h5⟩ := h.v1 _ _ hv
    have li := mem_lsts.mp (List.mem_of_getElem? hi)
    have l2 := mem_lsts.mp (List.mem_of_getElem? h2)
    obtain rfl := Lst.uniq p l2 li h3
    obtain rfl := nodup_get lsts_nodup h2 hi
    exact absurd h3 (li.trl.ne q m (by omega) hm)
  )]); intro f; simpa using My.gz f 5 true
end
end My
namespace My
/-- n / s in lowest terms -/
def low (n : Int) (s : Nat) : List Int := [n / ((Nat.gcd n.natAbs s : Nat) : Int), (s : Int) / ((Nat.gcd n.natAbs s : Nat) : Int)]
/-- the least date from 0 on that does not lead forward -/
def StopOf (f : Int → Int) : Option Int → Prop
  | none => ∀ z, 0 < f z
  | some m => 0 ≤ m ∧ f m ≤ 0 ∧ ∀ z, 0 ≤ z → z < m → 0 < f z
theorem StopOf.uniq {f : Int → Int} : ∀ {o o' : Option Int}, StopOf f o → StopOf f o' → o = o'
  | none, none, _, _ => rfl
  | none, some m, h, h' => by have := h m; have := h'.2.1; omega
  | some m, none, h, h' => by have := h' m; have := h.2.1; omega
  | some m, some m', h, h' => by
    apply My.two; (focus intro zzI; simp only [↓ My.mkB zzI (by
    clear zzI
    have a := h.2.2 m' h'.1
    have b := h'.2.2 m h.1
    have c := h.2.1
    have c' := h'.2.1
    have : m = m' := by
      rcases Int.lt_trichotomy m m' with z | z | z
      · have := b z; omega
      · exact z
      · have := a z; omega
    rw [this]
    )]); intro f; simpa using My.gz f 5 true
end My
namespace My
end My
namespace My
end My
namespace My
end My
namespace My
open PySem PySem.Spec PyProof.Rows L2
end My
namespace My
open PySem PySem.Spec PyProof.Rows L2
theorem eqd {fa : List (Fg → Bool)} {fn : List He5.DefA} {K : Fg} {mg : Str → Option Value} {X : Cx} (T : TxOf fa fn K mg) (hu : X.A.units + 64 < cLine) (hK : X.K = K := by rfl) : OpR X (compareOp .Eq) (rEqD K) := by subst hK; exact op_eqD hu
theorem ned {fa : List (Fg → Bool)} {fn : List He5.DefA} {K : Fg} {mg : Str → Option Value} {X : Cx} (T : TxOf fa fn K mg) (hu : X.A.units + 64 < cLine) (hK : X.K = K := by rfl) : OpR X (compareOp .NotEq) (rNeD K) := by subst hK; exact op_neD hu
end My
namespace My
open PySem PySem.Spec PyProof.Rows L2
/-- a def called with parameters by name, that may raise -/
def FnKwX (P : Program) (w : World) (K : Fg) (mg : Str → Option Value) (base : Heap) (k : Nat) (f : Addr) (n : Nat) (ks : List Str) (pm : List Nat) (sp : Sp) : Prop :=
  ∀ (A : Around) (outer : List Env) (st : Shared) (H : Hp) (us ws : List Value) (vs zs : List V) (Q : VK) (E : XK), Room k A → Env0 P w K mg base A outer st H → Vals vs us → Vals zs ws → vs.length = n → zs.length = ks.length → sp (pick pm (vs ++ zs)) H Q E →
    codeAny (model P w) A (.call (.ref f) ⟨us, ks.zip ws⟩) (CR (L2.CX P w) outer P w H st Q E) st
structure FnDX (P : Program) (w : World) (K : Fg) (mg : Str → Option Value) (base : Heap) (k : Nat) (f : Addr) (x qual : Str) (st : Stmt) (kws : List (Str × V)) (ps : List Str) (sp : Sp) : Prop where
  o : ∃ fd, FunD K x qual (defArgs st) (defBody st) (defScope st) [] kws f fd ∧ FnOk P w K mg base (L2.CX P w) k f fd ps sp
section
variable {fa : List (Fg → Bool)} {fn : List He5.DefA} {K : Fg} {mg : Str → Option Value} {P : Program} {w : World} {base : Heap}
variable {k j n : Nat} {f : Addr} {x qual : Str} {st : Stmt} {ps : List Str} {sp sp1 sp2 : Sp} {kws : List (Str × V)} {ks : List Str} {pm : List Nat}
/-- called without them -/
theorem FnDX.plain (F : FnDX P w K mg base k f x qual st kws ps sp) (n : Nat) (hk : kws ≠ []) (hn : n + kws.length = ps.length)
    (h : ∀ (D : Addr) (doc pm : Value) (an : Option Addr) (cdv ct : Value) (us ks : List Value), us.length = n → ks.length = kws.length →
      KwChain D ((kws.map (·.1)).zip ks) (bindArgs (PySem.W.fnOf x qual (defArgs st) (defBody st) (defScope st) .none (.ref D) doc pm an cdv ct) ⟨us, []⟩) (ps.zip (us ++ ks))) :
    FnR P w K mg base (L2.CX P w) k f (fun vs H Q E => sp (vs ++ kws.map (·.2)) H Q E) := by
  apply My.two; (focus intro zzI; simp only [↓ My.mkB zzI (by
  clear zzI
  obtain ⟨fd, F0, G⟩ := F.o
  obtain ⟨ds, rd, B⟩ := F0.binds0 n hk hn h
  exact G.raw B rd
  )]); intro f; simpa using My.gz f 5 true
/-- called with all of them -/
theorem FnDX.kw (F : FnDX P w K mg base k f x qual st kws ps sp) (n : Nat) (ks : List Str) (pm : List Nat)
    (hb : ∀ (kV doc pmv : Value) (an : Option Addr) (cdv ct : Value) (us ws : List Value), us.length = n → ws.length = ks.length →
      bindArgs (PySem.W.fnOf x qual (defArgs st) (defBody st) (defScope st) .none kV doc pmv an cdv ct) ⟨us, ks.zip ws⟩ = pure (ps.zip (pick pm (us ++ ws)))) : FnKwX P w K mg base k f n ks pm sp := by
  apply My.two; (focus intro zzI; simp only [↓ My.mkB zzI (by
  clear zzI
  intro A outer s H us ws vs zs Q E hr e0 rv rz l1 l2 h
  obtain ⟨fd, F0, G⟩ := F.o
  refine G.run A outer s H ⟨us, ks.zip ws⟩ (pick pm (us ++ ws)) (pick pm (vs ++ zs)) Q E hr e0 ?_ (pick_vals (rv.append rz) pm) h
  obtain ⟨oc, od, dV, kV, doc, pmv, an, cdv, ct, osl, rfl, lk, hcd, hD, hK⟩ := F0.ex
  rcases hD with ⟨_, rfl⟩ | ⟨e, _⟩
  · exact .of_eq (hb kV doc pmv an cdv ct us ws (rv.length.symm.trans l1) (rz.length.symm.trans l2))
  · exact absurd rfl e
  )]); intro f; simpa using My.gz f 5 true
end
end My
namespace My
open PySem PySem.Spec PyProof.Rows L2 PySem.SeqAt
/-- v is a list of these ints -/
def IsLi (h : Heap) (v : Value) (ns : List Int) : Prop := ∃ (a : Addr) (its : List Value) (n : Nat), v = .ref a ∧ h.get? a = some (seqObj "list" its.toArray n) ∧ IntsAre its ns
theorem IsLi.keeps {h h' : Heap} {v : Value} {ns : List Int} (x : IsLi h v ns) (k : ∀ b o, v = .ref b → h.get? b = some o → h'.get? b = some o) : IsLi h' v ns := by
  obtain ⟨a, its, n, e, g, i⟩ := x
  exact ⟨a, its, n, e, k _ _ e g, i⟩
theorem IsLi.type {M : Model} {h : Heap} {v : Value} {ns : List Int} (x : IsLi h v ns) : PySem.W.Looks M h (typeOf v) (.type "list") := by
  obtain ⟨a, its, n, rfl, g, i⟩ := x
  exact (PySem.W.Looks.ld g).andThen .now
end My
namespace My
open PySem PySem.Spec PyProof.Rows L2
end My
namespace My
open PySem PySem.Spec PyProof.Rows L2
end My
namespace Lw
open PySem PySem.Spec PyProof.Rows L2 My
def top (i : Nat) : Stmt := PySem.Challenge.pw_dayrecipes_k52_whole_sets_of_texts.main.body.getD i (.Pass ⟨0, 0, 0, 0⟩)
abbrev s_is_nth : Stmt := top 2
abbrev s_is_day : Stmt := top 3
abbrev s_holds_plain : Stmt := top 4
abbrev s_holds : Stmt := top 5
abbrev s_is_integer : Stmt := top 21
abbrev s_is_period : Stmt := top 22
abbrev s_common_divisor : Stmt := top 23
abbrev s_common_multiple : Stmt := top 24
abbrev s_common_period : Stmt := top 25
abbrev s_least_period : Stmt := top 26
abbrev s_number_in : Stmt := top 29
abbrev s_bounded_in : Stmt := top 30
abbrev s_week_in : Stmt := top 32
abbrev s_numbers_in : Stmt := top 33
abbrev s_rest_in : Stmt := top 34
abbrev s_holiday_in : Stmt := top 35
abbrev s_year_in : Stmt := top 36
abbrev s_read_calendar : Stmt := top 37
abbrev s_is_name : Stmt := top 44
abbrev s_Readeru_initu : Stmt := inClass (top 45) 0
abbrev s_Reader_fail : Stmt := inClass (top 45) 1
abbrev s_Reader_is_next : Stmt := inClass (top 45) 2
abbrev s_Reader_taken : Stmt := inClass (top 45) 3
abbrev s_Reader_need : Stmt := inClass (top 45) 4
abbrev s_Reader_read_number : Stmt := inClass (top 45) 6
abbrev s_Reader_bounded : Stmt := inClass (top 45) 7
abbrev s_Reader_read_weekday : Stmt := inClass (top 45) 8
abbrev s_Reader_read_name : Stmt := inClass (top 45) 9
abbrev s_Reader_go_in : Stmt := inClass (top 45) 10
abbrev s_Reader_go_out : Stmt := inClass (top 45) 11
abbrev s_Reader_of_month : Stmt := inClass (top 45) 16
abbrev s_Reader_condition : Stmt := inClass (top 45) 18
abbrev s_Reader_term : Stmt := inClass (top 45) 19
abbrev s_Reader_factor : Stmt := inClass (top 45) 20
abbrev s_Reader_plain_factor : Stmt := inClass (top 45) 21
abbrev s_Reader_finish : Stmt := inClass (top 45) 22
abbrev s_set_in : Stmt := top 46
abbrev s_are_days : Stmt := top 49
abbrev s_DaySetu_initu : Stmt := inClass (top 51) 0
abbrev s_DaySetu_equ : Stmt := inClass (top 51) 1
abbrev s_DaySetu_lenu : Stmt := inClass (top 51) 2
abbrev s_DaySetu_containsu : Stmt := inClass (top 51) 3
abbrev s_DaySetu_subu : Stmt := inClass (top 51) 6
abbrev s_DaySet_read : Stmt := inClass (top 51) 8
abbrev s_DaySet_period : Stmt := inClass (top 51) 11
abbrev s_DaySet_days : Stmt := inClass (top 51) 12
abbrev s_DaySet_has : Stmt := inClass (top 51) 14
abbrev s_is_row : Stmt := top 54
abbrev s_is_between : Stmt := top 55
abbrev s_are_years : Stmt := top 56
abbrev s_are_weekdays : Stmt := top 57
abbrev s_are_holidays : Stmt := top 58
abbrev s_month_starts : Stmt := top 59
abbrev s_month_at : Stmt := top 60
abbrev s_Calendaru_initu : Stmt := inClass (top 61) 0
abbrev s_Calendaru_equ : Stmt := inClass (top 61) 1
abbrev s_Calendar_read : Stmt := inClass (top 61) 4
abbrev s_Calendar_facts : Stmt := inClass (top 61) 5
abbrev s_Calendar_first_works : Stmt := inClass (top 61) 7
abbrev s_Calendar_week : Stmt := inClass (top 61) 11
abbrev s_Calendar_months : Stmt := inClass (top 61) 15
abbrev s_Calendar_period : Stmt := inClass (top 61) 17
abbrev s_Calendar_month_start : Stmt := inClass (top 61) 19
abbrev s_Calendar_month_days : Stmt := inClass (top 61) 20
abbrev s_Calendar_month_number : Stmt := inClass (top 61) 21
abbrev s_Calendar_month_length : Stmt := inClass (top 61) 22
abbrev s_Calendar_parts : Stmt := inClass (top 61) 24
abbrev s_Calendar_weekday : Stmt := inClass (top 61) 25
abbrev s_Calendar_is_work : Stmt := inClass (top 61) 26
abbrev s__law_pen : Stmt := top 63
abbrev s__law_draw : Stmt := top 64
abbrev s__law_pick : Stmt := top 65
abbrev s__law_shuffled : Stmt := top 66
abbrev s__law_far : Stmt := top 67
abbrev s__law_gcd : Stmt := top 68
abbrev s__law_multiple : Stmt := top 69
abbrev s__law_least : Stmt := top 70
abbrev s__law_members : Stmt := top 71
abbrev s__law_is : Stmt := top 72
abbrev s__law_calendar : Stmt := top 73
abbrev s__law_cycle : Stmt := top 74
abbrev s__law_place : Stmt := top 75
abbrev s__law_weekday : Stmt := top 76
abbrev s__law_is_rest : Stmt := top 77
abbrev s__law_opened : Stmt := top 78
abbrev s__law_nth : Stmt := top 79
abbrev s__law_leaf : Stmt := top 80
abbrev s__law_tree : Stmt := top 81
abbrev s__law_words : Stmt := top 82
abbrev s__law_plain_holds : Stmt := top 83
abbrev s__law_holds : Stmt := top 84
abbrev s__law_wide : Stmt := top 85
abbrev s_law : Stmt := top 86
abbrev N_is_nth : List Str := ["calendar", "date", "number", "weekday", "year", "month", "day", "gap"]
theorem sc_is_nth : FnScope N_is_nth ["calendar", "date", "number", "weekday"] (defScope s_is_nth) := ⟨rfl, rfl, rfl, by decide +kernel, rfl, by decide +kernel, by decide +kernel⟩
abbrev N_is_day : List Str := ["calendar", "date", "number", "year", "month", "day"]
theorem sc_is_day : FnScope N_is_day ["calendar", "date", "number"] (defScope s_is_day) := ⟨rfl, rfl, rfl, by decide +kernel, rfl, by decide +kernel, by decide +kernel⟩
abbrev N_holds_plain : List Str := ["calendar", "condition", "date", "word"]
theorem sc_holds_plain : FnScope N_holds_plain ["calendar", "condition", "date"] (defScope s_holds_plain) := ⟨rfl, rfl, rfl, by decide +kernel, rfl, by decide +kernel, by decide +kernel⟩
abbrev N_holds : List Str := ["calendar", "condition", "date", "known", "word", "one"]
theorem sc_holds : FnScope N_holds ["calendar", "condition", "date", "known"] (defScope s_holds) := ⟨rfl, rfl, rfl, by decide +kernel, rfl, by decide +kernel, by decide +kernel⟩
abbrev N_is_integer : List Str := ["value"]
theorem sc_is_integer : FnScope N_is_integer ["value"] (defScope s_is_integer) := ⟨rfl, rfl, rfl, by decide +kernel, rfl, by decide +kernel, by decide +kernel⟩
abbrev N_is_period : List Str := ["value"]
theorem sc_is_period : FnScope N_is_period ["value"] (defScope s_is_period) := ⟨rfl, rfl, rfl, by decide +kernel, rfl, by decide +kernel, by decide +kernel⟩
abbrev N_common_divisor : List Str := ["one", "other"]
theorem sc_common_divisor : FnScope N_common_divisor ["one", "other"] (defScope s_common_divisor) := ⟨rfl, rfl, rfl, by decide +kernel, rfl, by decide +kernel, by decide +kernel⟩
abbrev N_common_multiple : List Str := ["one", "other"]
theorem sc_common_multiple : FnScope N_common_multiple ["one", "other"] (defScope s_common_multiple) := ⟨rfl, rfl, rfl, by decide +kernel, rfl, by decide +kernel, by decide +kernel⟩
abbrev N_least_period : List Str := ["rows", "found", "rest", "prime", "days"]
theorem sc_least_period : FnScope N_least_period ["rows"] (defScope s_least_period) := ⟨rfl, rfl, rfl, by decide +kernel, rfl, by decide +kernel, by decide +kernel⟩
abbrev N_number_in : List Str := ["word", "most", "digits", "sign"]
theorem sc_number_in : FnScope N_number_in ["word", "most"] (defScope s_number_in) := ⟨rfl, rfl, rfl, by decide +kernel, rfl, by decide +kernel, by decide +kernel⟩
abbrev N_Readeru_initu : List Str := ["self", "calendar", "text", "with_names"]
theorem sc_Readeru_initu : FnScope N_Readeru_initu ["self", "calendar", "text", "with_names"] (defScope s_Readeru_initu) := ⟨rfl, rfl, rfl, by decide +kernel, rfl, by decide +kernel, by decide +kernel⟩
abbrev N_Reader_is_next : List Str := ["self", "word"]
theorem sc_Reader_is_next : FnScope N_Reader_is_next ["self", "word"] (defScope s_Reader_is_next) := ⟨rfl, rfl, rfl, by decide +kernel, rfl, by decide +kernel, by decide +kernel⟩
abbrev N_Reader_taken : List Str := ["self"]
theorem sc_Reader_taken : FnScope N_Reader_taken ["self"] (defScope s_Reader_taken) := ⟨rfl, rfl, rfl, by decide +kernel, rfl, by decide +kernel, by decide +kernel⟩
abbrev N_Reader_need : List Str := ["self", "word"]
theorem sc_Reader_need : FnScope N_Reader_need ["self", "word"] (defScope s_Reader_need) := ⟨rfl, rfl, rfl, by decide +kernel, rfl, by decide +kernel, by decide +kernel⟩
abbrev N_Reader_read_number : List Str := ["self", "number"]
theorem sc_Reader_read_number : FnScope N_Reader_read_number ["self"] (defScope s_Reader_read_number) := ⟨rfl, rfl, rfl, by decide +kernel, rfl, by decide +kernel, by decide +kernel⟩
abbrev N_Reader_bounded : List Str := ["self", "low", "high", "number"]
theorem sc_Reader_bounded : FnScope N_Reader_bounded ["self", "low", "high"] (defScope s_Reader_bounded) := ⟨rfl, rfl, rfl, by decide +kernel, rfl, by decide +kernel, by decide +kernel⟩
abbrev N_Reader_read_weekday : List Str := ["self"]
theorem sc_Reader_read_weekday : FnScope N_Reader_read_weekday ["self"] (defScope s_Reader_read_weekday) := ⟨rfl, rfl, rfl, by decide +kernel, rfl, by decide +kernel, by decide +kernel⟩
abbrev N_Reader_go_in : List Str := ["self"]
theorem sc_Reader_go_in : FnScope N_Reader_go_in ["self"] (defScope s_Reader_go_in) := ⟨rfl, rfl, rfl, by decide +kernel, rfl, by decide +kernel, by decide +kernel⟩
abbrev N_Reader_go_out : List Str := ["self"]
theorem sc_Reader_go_out : FnScope N_Reader_go_out ["self"] (defScope s_Reader_go_out) := ⟨rfl, rfl, rfl, by decide +kernel, rfl, by decide +kernel, by decide +kernel⟩
abbrev N_Reader_of_month : List Str := ["self", "word", "number"]
theorem sc_Reader_of_month : FnScope N_Reader_of_month ["self", "word"] (defScope s_Reader_of_month) := ⟨rfl, rfl, rfl, by decide +kernel, rfl, by decide +kernel, by decide +kernel⟩
abbrev N_Reader_condition : List Str := ["self", "found"]
theorem sc_Reader_condition : FnScope N_Reader_condition ["self"] (defScope s_Reader_condition) := ⟨rfl, rfl, rfl, by decide +kernel, rfl, by decide +kernel, by decide +kernel⟩
abbrev N_Reader_term : List Str := ["self", "found"]
theorem sc_Reader_term : FnScope N_Reader_term ["self"] (defScope s_Reader_term) := ⟨rfl, rfl, rfl, by decide +kernel, rfl, by decide +kernel, by decide +kernel⟩
abbrev N_Reader_factor : List Str := ["self", "is_turned", "found"]
theorem sc_Reader_factor : FnScope N_Reader_factor ["self"] (defScope s_Reader_factor) := ⟨rfl, rfl, rfl, by decide +kernel, rfl, by decide +kernel, by decide +kernel⟩
abbrev N_Reader_plain_factor : List Str := ["self", "found", "place", "word"]
theorem sc_Reader_plain_factor : FnScope N_Reader_plain_factor ["self"] (defScope s_Reader_plain_factor) := ⟨rfl, rfl, rfl, by decide +kernel, rfl, by decide +kernel, by decide +kernel⟩
abbrev N_Reader_finish : List Str := ["self"]
theorem sc_Reader_finish : FnScope N_Reader_finish ["self"] (defScope s_Reader_finish) := ⟨rfl, rfl, rfl, by decide +kernel, rfl, by decide +kernel, by decide +kernel⟩
abbrev N_set_in : List Str := ["calendar", "text", "with_names", "reader", "found"]
theorem sc_set_in : FnScope N_set_in ["calendar", "text", "with_names"] (defScope s_set_in) := ⟨rfl, rfl, rfl, by decide +kernel, rfl, by decide +kernel, by decide +kernel⟩
abbrev N_are_days : List Str := ["period", "days", "day"]
theorem sc_are_days : FnScope N_are_days ["period", "days"] (defScope s_are_days) := ⟨rfl, rfl, rfl, by decide +kernel, rfl, by decide +kernel, by decide +kernel⟩
abbrev N_DaySetu_initu : List Str := ["self", "period", "days", "known", "flags", "day", "flag"]
theorem sc_DaySetu_initu : FnScope N_DaySetu_initu ["self", "period", "days"] (defScope s_DaySetu_initu) := ⟨rfl, rfl, rfl, by decide +kernel, rfl, by decide +kernel, by decide +kernel⟩
abbrev N_DaySetu_equ : List Str := ["self", "other"]
theorem sc_DaySetu_equ : FnScope N_DaySetu_equ ["self", "other"] (defScope s_DaySetu_equ) := ⟨rfl, rfl, rfl, by decide +kernel, rfl, by decide +kernel, by decide +kernel⟩
abbrev N_DaySetu_containsu : List Str := ["self", "value"]
theorem sc_DaySetu_containsu : FnScope N_DaySetu_containsu ["self", "value"] (defScope s_DaySetu_containsu) := ⟨rfl, rfl, rfl, by decide +kernel, rfl, by decide +kernel, by decide +kernel⟩
abbrev N_DaySet_read : List Str := ["cls", "calendar", "text", "condition", "days", "day"]
theorem sc_DaySet_read : FnScope N_DaySet_read ["cls", "calendar", "text"] (defScope s_DaySet_read) := ⟨rfl, rfl, rfl, by decide +kernel, rfl, by decide +kernel, by decide +kernel⟩
abbrev N_DaySet_period : List Str := ["self"]
theorem sc_DaySet_period : FnScope N_DaySet_period ["self"] (defScope s_DaySet_period) := ⟨rfl, rfl, rfl, by decide +kernel, rfl, by decide +kernel, by decide +kernel⟩
abbrev N_DaySet_days : List Str := ["self"]
theorem sc_DaySet_days : FnScope N_DaySet_days ["self"] (defScope s_DaySet_days) := ⟨rfl, rfl, rfl, by decide +kernel, rfl, by decide +kernel, by decide +kernel⟩
abbrev N_DaySet_has : List Str := ["self", "date"]
theorem sc_DaySet_has : FnScope N_DaySet_has ["self", "date"] (defScope s_DaySet_has) := ⟨rfl, rfl, rfl, by decide +kernel, rfl, by decide +kernel, by decide +kernel⟩
abbrev N_is_row : List Str := ["value"]
theorem sc_is_row : FnScope N_is_row ["value"] (defScope s_is_row) := ⟨rfl, rfl, rfl, by decide +kernel, rfl, by decide +kernel, by decide +kernel⟩
abbrev N_is_between : List Str := ["value", "low", "high"]
theorem sc_is_between : FnScope N_is_between ["value", "low", "high"] (defScope s_is_between) := ⟨rfl, rfl, rfl, by decide +kernel, rfl, by decide +kernel, by decide +kernel⟩
abbrev N_are_years : List Str := ["years", "year", "days"]
theorem sc_are_years : FnScope N_are_years ["years"] (defScope s_are_years) := ⟨rfl, rfl, rfl, by decide +kernel, rfl, by decide +kernel, by decide +kernel⟩
abbrev N_are_weekdays : List Str := ["rest", "week", "weekday"]
theorem sc_are_weekdays : FnScope N_are_weekdays ["rest", "week"] (defScope s_are_weekdays) := ⟨rfl, rfl, rfl, by decide +kernel, rfl, by decide +kernel, by decide +kernel⟩
abbrev N_are_holidays : List Str := ["holidays", "months", "holiday"]
theorem sc_are_holidays : FnScope N_are_holidays ["holidays", "months"] (defScope s_are_holidays) := ⟨rfl, rfl, rfl, by decide +kernel, rfl, by decide +kernel, by decide +kernel⟩
abbrev N_month_starts : List Str := ["lengths", "found", "days"]
theorem sc_month_starts : FnScope N_month_starts ["lengths"] (defScope s_month_starts) := ⟨rfl, rfl, rfl, by decide +kernel, rfl, by decide +kernel, by decide +kernel⟩
abbrev N_month_at : List Str := ["starts", "day", "low", "high", "middle"]
theorem sc_month_at : FnScope N_month_at ["starts", "day"] (defScope s_month_at) := ⟨rfl, rfl, rfl, by decide +kernel, rfl, by decide +kernel, by decide +kernel⟩
abbrev N_Calendaru_initu : List Str := ["self", "years", "week", "first", "rest", "holidays", "year", "days"]
theorem sc_Calendaru_initu : FnScope N_Calendaru_initu ["self", "years", "week", "first", "rest", "holidays"] (defScope s_Calendaru_initu) := ⟨rfl, rfl, rfl, by decide +kernel, rfl, by decide +kernel, by decide +kernel⟩
abbrev N_Calendar_first_works : List Str := ["self", "period", "found", "day"]
theorem sc_Calendar_first_works : FnScope N_Calendar_first_works ["self"] (defScope s_Calendar_first_works) := ⟨rfl, rfl, rfl, by decide +kernel, rfl, by decide +kernel, by decide +kernel⟩
abbrev N_Calendar_week : List Str := ["self"]
theorem sc_Calendar_week : FnScope N_Calendar_week ["self"] (defScope s_Calendar_week) := ⟨rfl, rfl, rfl, by decide +kernel, rfl, by decide +kernel, by decide +kernel⟩
abbrev N_Calendar_months : List Str := ["self"]
theorem sc_Calendar_months : FnScope N_Calendar_months ["self"] (defScope s_Calendar_months) := ⟨rfl, rfl, rfl, by decide +kernel, rfl, by decide +kernel, by decide +kernel⟩
abbrev N_Calendar_period : List Str := ["self"]
theorem sc_Calendar_period : FnScope N_Calendar_period ["self"] (defScope s_Calendar_period) := ⟨rfl, rfl, rfl, by decide +kernel, rfl, by decide +kernel, by decide +kernel⟩
abbrev N_Calendar_month_start : List Str := ["self", "number", "many"]
theorem sc_Calendar_month_start : FnScope N_Calendar_month_start ["self", "number"] (defScope s_Calendar_month_start) := ⟨rfl, rfl, rfl, by decide +kernel, rfl, by decide +kernel, by decide +kernel⟩
abbrev N_Calendar_month_days : List Str := ["self", "number"]
theorem sc_Calendar_month_days : FnScope N_Calendar_month_days ["self", "number"] (defScope s_Calendar_month_days) := ⟨rfl, rfl, rfl, by decide +kernel, rfl, by decide +kernel, by decide +kernel⟩
abbrev N_Calendar_month_number : List Str := ["self", "date", "days"]
theorem sc_Calendar_month_number : FnScope N_Calendar_month_number ["self", "date"] (defScope s_Calendar_month_number) := ⟨rfl, rfl, rfl, by decide +kernel, rfl, by decide +kernel, by decide +kernel⟩
abbrev N_Calendar_month_length : List Str := ["self", "year", "month"]
theorem sc_Calendar_month_length : FnScope N_Calendar_month_length ["self", "year", "month"] (defScope s_Calendar_month_length) := ⟨rfl, rfl, rfl, by decide +kernel, rfl, by decide +kernel, by decide +kernel⟩
abbrev N_Calendar_parts : List Str := ["self", "date", "number"]
theorem sc_Calendar_parts : FnScope N_Calendar_parts ["self", "date"] (defScope s_Calendar_parts) := ⟨rfl, rfl, rfl, by decide +kernel, rfl, by decide +kernel, by decide +kernel⟩
abbrev N_Calendar_weekday : List Str := ["self", "date"]
theorem sc_Calendar_weekday : FnScope N_Calendar_weekday ["self", "date"] (defScope s_Calendar_weekday) := ⟨rfl, rfl, rfl, by decide +kernel, rfl, by decide +kernel, by decide +kernel⟩
abbrev N_Calendar_is_work : List Str := ["self", "date"]
theorem sc_Calendar_is_work : FnScope N_Calendar_is_work ["self", "date"] (defScope s_Calendar_is_work) := ⟨rfl, rfl, rfl, by decide +kernel, rfl, by decide +kernel, by decide +kernel⟩
abbrev N__law_pen : List Str := ["_law_script"]
theorem sc__law_pen : FnScope N__law_pen ["_law_script"] (defScope s__law_pen) := ⟨rfl, rfl, rfl, by decide +kernel, rfl, by decide +kernel, by decide +kernel⟩
abbrev N__law_draw : List Str := ["_law_pen_here", "_law_many", "_law_digit", "_law_used", "_law_cell", "_law_mixed"]
theorem sc__law_draw : FnScope N__law_draw ["_law_pen_here", "_law_many"] (defScope s__law_draw) := ⟨rfl, rfl, rfl, by decide +kernel, rfl, by decide +kernel, by decide +kernel⟩
abbrev N__law_pick : List Str := ["_law_pen_here", "_law_some"]
theorem sc__law_pick : FnScope N__law_pick ["_law_pen_here", "_law_some"] (defScope s__law_pick) := ⟨rfl, rfl, rfl, by decide +kernel, rfl, by decide +kernel, by decide +kernel⟩
abbrev N__law_shuffled : List Str := ["_law_pen_here", "_law_some", "_law_idle", "_law_found"]
theorem sc__law_shuffled : FnScope N__law_shuffled ["_law_pen_here", "_law_some"] (defScope s__law_shuffled) := ⟨rfl, rfl, rfl, by decide +kernel, rfl, by decide +kernel, by decide +kernel⟩
abbrev N__law_far : List Str := ["_law_pen_here", "_law_digits", "_law_found", "_law_turn"]
theorem sc__law_far : FnScope N__law_far ["_law_pen_here", "_law_digits"] (defScope s__law_far) := ⟨rfl, rfl, rfl, by decide +kernel, rfl, by decide +kernel, by decide +kernel⟩
abbrev N__law_gcd : List Str := ["_law_one", "_law_other"]
theorem sc__law_gcd : FnScope N__law_gcd ["_law_one", "_law_other"] (defScope s__law_gcd) := ⟨rfl, rfl, rfl, by decide +kernel, rfl, by decide +kernel, by decide +kernel⟩
abbrev N__law_multiple : List Str := ["_law_one", "_law_other"]
theorem sc__law_multiple : FnScope N__law_multiple ["_law_one", "_law_other"] (defScope s__law_multiple) := ⟨rfl, rfl, rfl, by decide +kernel, rfl, by decide +kernel, by decide +kernel⟩
abbrev N__law_least : List Str := ["_law_rows", "_law_many"]
theorem sc__law_least : FnScope N__law_least ["_law_rows"] (defScope s__law_least) := ⟨rfl, rfl, rfl, by decide +kernel, rfl, by decide +kernel, by decide +kernel⟩
abbrev N__law_members : List Str := ["_law_flags", "_law_day"]
theorem sc__law_members : FnScope N__law_members ["_law_flags"] (defScope s__law_members) := ⟨rfl, rfl, rfl, by decide +kernel, rfl, by decide +kernel, by decide +kernel⟩
abbrev N__law_is : List Str := ["_law_days", "_law_flags", "_law_least_here"]
theorem sc__law_is : FnScope N__law_is ["_law_days", "_law_flags"] (defScope s__law_is) := ⟨rfl, rfl, rfl, by decide +kernel, rfl, by decide +kernel, by decide +kernel⟩
abbrev N__law_calendar : List Str := ["_law_pen_here", "_law_most", "_law_months", "_law_many", "_law_week", "_law_years", "_law_lengths", "_law_begins", "_law_idle", "_law_free", "_law_turn", "_law_holiday", "_law_plain", "_law_year", "_law_month", "_law_day"]
theorem sc__law_calendar : FnScope N__law_calendar ["_law_pen_here", "_law_most"] (defScope s__law_calendar) := ⟨rfl, rfl, rfl, by decide +kernel, rfl, by decide +kernel, by decide +kernel⟩
abbrev N__law_cycle : List Str := ["_law_plain"]
theorem sc__law_cycle : FnScope N__law_cycle ["_law_plain"] (defScope s__law_cycle) := ⟨rfl, rfl, rfl, by decide +kernel, rfl, by decide +kernel, by decide +kernel⟩
abbrev N__law_place : List Str := ["_law_plain", "_law_date", "_law_lengths", "_law_number", "_law_idle", "_law_days"]
theorem sc__law_place : FnScope N__law_place ["_law_plain", "_law_date"] (defScope s__law_place) := ⟨rfl, rfl, rfl, by decide +kernel, rfl, by decide +kernel, by decide +kernel⟩
abbrev N__law_weekday : List Str := ["_law_plain", "_law_date"]
theorem sc__law_weekday : FnScope N__law_weekday ["_law_plain", "_law_date"] (defScope s__law_weekday) := ⟨rfl, rfl, rfl, by decide +kernel, rfl, by decide +kernel, by decide +kernel⟩
abbrev N__law_is_rest : List Str := ["_law_plain", "_law_date", "_law_number", "_law_day"]
theorem sc__law_is_rest : FnScope N__law_is_rest ["_law_plain", "_law_date"] (defScope s__law_is_rest) := ⟨rfl, rfl, rfl, by decide +kernel, rfl, by decide +kernel, by decide +kernel⟩
abbrev N__law_opened : List Str := ["_law_plain", "_law_idle", "_law_free"]
theorem sc__law_opened : FnScope N__law_opened ["_law_plain"] (defScope s__law_opened) := ⟨rfl, rfl, rfl, by decide +kernel, rfl, by decide +kernel, by decide +kernel⟩
abbrev N__law_nth : List Str := ["_law_pen_here"]
theorem sc__law_nth : FnScope N__law_nth ["_law_pen_here"] (defScope s__law_nth) := ⟨rfl, rfl, rfl, by decide +kernel, rfl, by decide +kernel, by decide +kernel⟩
abbrev N__law_leaf : List Str := ["_law_pen_here", "_law_plain", "_law_weekday_here", "_law_some"]
theorem sc__law_leaf : FnScope N__law_leaf ["_law_pen_here", "_law_plain"] (defScope s__law_leaf) := ⟨rfl, rfl, rfl, by decide +kernel, rfl, by decide +kernel, by decide +kernel⟩
abbrev N__law_tree : List Str := ["_law_pen_here", "_law_plain", "_law_deep", "_law_way", "_law_word", "_law_part"]
theorem sc__law_tree : FnScope N__law_tree ["_law_pen_here", "_law_plain", "_law_deep"] (defScope s__law_tree) := ⟨rfl, rfl, rfl, by decide +kernel, rfl, by decide +kernel, by decide +kernel⟩
abbrev N__law_words : List Str := ["_law_tree_here", "_law_layer", "_law_kind", "_law_told", "_law_found", "_law_inner", "_law_part", "_law_word"]
theorem sc__law_words : FnScope N__law_words ["_law_tree_here", "_law_layer"] (defScope s__law_words) := ⟨rfl, rfl, rfl, by decide +kernel, rfl, by decide +kernel, by decide +kernel⟩
abbrev N__law_plain_holds : List Str := ["_law_plain", "_law_words_here", "_law_date", "_law_number", "_law_day", "_law_word", "_law_length", "_law_before", "_law_after"]
theorem sc__law_plain_holds : FnScope N__law_plain_holds ["_law_plain", "_law_words_here", "_law_date"] (defScope s__law_plain_holds) := ⟨rfl, rfl, rfl, by decide +kernel, rfl, by decide +kernel, by decide +kernel⟩
abbrev N__law_holds : List Str := ["_law_plain", "_law_tree_here", "_law_date", "_law_kind", "_law_told", "_law_found", "_law_part"]
theorem sc__law_holds : FnScope N__law_holds ["_law_plain", "_law_tree_here", "_law_date"] (defScope s__law_holds) := ⟨rfl, rfl, rfl, by decide +kernel, rfl, by decide +kernel, by decide +kernel⟩
abbrev N__law_wide : List Str := ["_law_pen_here", "_law_week", "_law_months", "_law_found", "_law_month"]
theorem sc__law_wide : FnScope N__law_wide ["_law_pen_here"] (defScope s__law_wide) := ⟨rfl, rfl, rfl, by decide +kernel, rfl, by decide +kernel, by decide +kernel⟩
abbrev N_law : List Str := ["_law_script", "_law_pen_here", "_law_turn", "_law_plain", "_law_guide", "_law_cycle_here", "_law_again", "_law_tree_here", "_law_words_own", "_law_flags", "_law_made", "_law_far_here", "_law_day"]
theorem sc_law : FnScope N_law ["_law_script"] (defScope s_law) := ⟨rfl, rfl, rfl, by decide +kernel, rfl, by decide +kernel, by decide +kernel⟩
abbrev DS (K : Fg) : Addr := He.ga K "DaySet"
abbrev CA (K : Fg) : Addr := He.ga K "Calendar"
abbrev RD (K : Fg) : Addr := He.ga K "Reader"
def facts : List (Fg → Bool) := [(He.Fa.glo "is_nth").ok,
  (He.Fa.glo "is_day").ok,
  (He.Fa.glo "holds_plain").ok,
  (He.Fa.glo "holds").ok,
  (He.Fa.glo "is_integer").ok,
  (He.Fa.glo "is_period").ok,
  (He.Fa.glo "common_divisor").ok,
  (He.Fa.glo "common_multiple").ok,
  (He.Fa.glo "common_period").ok,
  (He.Fa.glo "least_period").ok,
  (He.Fa.glo "number_in").ok,
  (He.Fa.glo "bounded_in").ok,
  (He.Fa.glo "week_in").ok,
  (He.Fa.glo "numbers_in").ok,
  (He.Fa.glo "rest_in").ok,
  (He.Fa.glo "holiday_in").ok,
  (He.Fa.glo "year_in").ok,
  (He.Fa.glo "read_calendar").ok,
  (He.Fa.glo "is_name").ok,
  (He.Fa.glo "set_in").ok,
  (He.Fa.glo "are_days").ok,
  (He.Fa.glo "is_row").ok,
  (He.Fa.glo "is_between").ok,
  (He.Fa.glo "are_years").ok,
  (He.Fa.glo "are_weekdays").ok,
  (He.Fa.glo "are_holidays").ok,
  (He.Fa.glo "month_starts").ok,
  (He.Fa.glo "month_at").ok,
  (He.Fa.glo "_law_pen").ok,
  (He.Fa.glo "_law_draw").ok,
  (He.Fa.glo "_law_pick").ok,
  (He.Fa.glo "_law_shuffled").ok,
  (He.Fa.glo "_law_far").ok,
  (He.Fa.glo "_law_gcd").ok,
  (He.Fa.glo "_law_multiple").ok,
  (He.Fa.glo "_law_least").ok,
  (He.Fa.glo "_law_members").ok,
  (He.Fa.glo "_law_is").ok,
  (He.Fa.glo "_law_calendar").ok,
  (He.Fa.glo "_law_cycle").ok,
  (He.Fa.glo "_law_place").ok,
  (He.Fa.glo "_law_weekday").ok,
  (He.Fa.glo "_law_is_rest").ok,
  (He.Fa.glo "_law_opened").ok,
  (He.Fa.glo "_law_nth").ok,
  (He.Fa.glo "_law_leaf").ok,
  (He.Fa.glo "_law_tree").ok,
  (He.Fa.glo "_law_words").ok,
  (He.Fa.glo "_law_plain_holds").ok,
  (He.Fa.glo "_law_holds").ok,
  (He.Fa.glo "_law_wide").ok,
  (He.Fa.glo "law").ok,
  (He.Fa.glo "InvalidCalendar").ok,
  (He.Fa.glo "InvalidDate").ok,
  (He.Fa.glo "InvalidText").ok,
  (He.Fa.glo "InvalidSet").ok,
  (He.Fa.glo "InvalidCount").ok,
  (He.Fa.glo "TooLong").ok,
  (He.Fa.glo "Reader").ok,
  (He.Fa.glo "DaySet").ok,
  (He.Fa.glo "Calendar").ok,
  (He.Fa.int "MAX_PERIOD" 200000).ok,
  (He.Fa.int "MAX_YEARS" 400).ok,
  (He.Fa.int "MAX_MONTHS" 14).ok,
  (He.Fa.int "MAX_DAYS" 40).ok,
  (He.Fa.int "MAX_WEEK" 10).ok,
  (He.Fa.int "MAX_STEPS" 60).ok,
  (He.Fa.int "MAX_DEPTH" 6).ok,
  (He.Fa.int "MOST_DIGITS" 12).ok,
  (He.Fa.int "MOST" 1000000000000).ok,
  (He.Fa.int "FAR" 10000000000000000000000000000000000000000).ok,
  (He.Fa.int "SHORT_PERIOD" 2000).ok,
  (He.Fa.str "DIGITS" "0123456789").ok,
  (He.Fa.free "abs").ok,
  (He.Fa.free "all").ok,
  (He.Fa.free "any").ok,
  (He.Fa.free "bool").ok,
  (He.Fa.free "classmethod").ok,
  (He.Fa.free "enumerate").ok,
  (He.Fa.free "int").ok,
  (He.Fa.free "isinstance").ok,
  (He.Fa.free "len").ok,
  (He.Fa.free "list").ok,
  (He.Fa.free "min").ok,
  (He.Fa.free "property").ok,
  (He.Fa.free "range").ok,
  (He.Fa.free "repr").ok,
  (He.Fa.free "set").ok,
  (He.Fa.free "sorted").ok,
  (He.Fa.free "str").ok,
  (He.Fa.free "sum").ok,
  (He.Fa.free "tuple").ok,
  (He.Fa.cls "DaySet").ok,
  (He.Fa.noat "DaySet" "flags").ok,
  (He.Fa.noat "DaySet" "members").ok,
  (He.Fa.mkr "DaySet").ok,
  tyB "DaySet",
  firstB "DaySet",
  isiB "DaySet" "DaySet" true,
  neB "DaySet",
  othB "DaySet" "DaySet",
  nbB "DaySet" "__bool__",
  spB "DaySet" "__eq__",
  spB "DaySet" "__len__",
  spB "DaySet" "__contains__",
  spB "DaySet" "__sub__",
  cmB "DaySet" "read",
  crB "DaySet",
  propB "DaySet" "period",
  propB "DaySet" "days",
  (He.Fa.meth "DaySet" "has").ok,
  (He.Fa.cls "Calendar").ok,
  (He.Fa.noat "Calendar" "all_years").ok,
  (He.Fa.noat "Calendar" "days_of_week").ok,
  (He.Fa.noat "Calendar" "begins").ok,
  (He.Fa.noat "Calendar" "rests").ok,
  (He.Fa.noat "Calendar" "free_days").ok,
  (He.Fa.noat "Calendar" "lengths").ok,
  (He.Fa.noat "Calendar" "starts").ok,
  (He.Fa.noat "Calendar" "turn").ok,
  (He.Fa.noat "Calendar" "works").ok,
  (He.Fa.mkr "Calendar").ok,
  tyB "Calendar",
  firstB "Calendar",
  isiB "Calendar" "Calendar" true,
  neB "Calendar",
  othB "Calendar" "Calendar",
  spB "Calendar" "__eq__",
  cmB "Calendar" "read",
  crB "Calendar",
  (He.Fa.meth "Calendar" "facts").ok,
  (He.Fa.meth "Calendar" "first_works").ok,
  propB "Calendar" "week",
  propB "Calendar" "months",
  propB "Calendar" "period",
  (He.Fa.meth "Calendar" "month_start").ok,
  (He.Fa.meth "Calendar" "month_days").ok,
  (He.Fa.meth "Calendar" "month_number").ok,
  (He.Fa.meth "Calendar" "month_length").ok,
  (He.Fa.meth "Calendar" "parts").ok,
  (He.Fa.meth "Calendar" "weekday").ok,
  (He.Fa.meth "Calendar" "is_work").ok,
  (He.Fa.cls "Reader").ok,
  (He.Fa.noat "Reader" "guide").ok,
  (He.Fa.noat "Reader" "words").ok,
  (He.Fa.noat "Reader" "place").ok,
  (He.Fa.noat "Reader" "depth").ok,
  (He.Fa.noat "Reader" "many").ok,
  (He.Fa.noat "Reader" "with_names").ok,
  (He.Fa.noat "Reader" "cuts").ok,
  (He.Fa.mkr "Reader").ok,
  tyB "Reader",
  firstB "Reader",
  (He.Fa.meth "Reader" "fail").ok,
  (He.Fa.meth "Reader" "is_next").ok,
  (He.Fa.meth "Reader" "taken").ok,
  (He.Fa.meth "Reader" "need").ok,
  (He.Fa.meth "Reader" "read_number").ok,
  (He.Fa.meth "Reader" "bounded").ok,
  (He.Fa.meth "Reader" "read_weekday").ok,
  (He.Fa.meth "Reader" "read_name").ok,
  (He.Fa.meth "Reader" "go_in").ok,
  (He.Fa.meth "Reader" "go_out").ok,
  (He.Fa.meth "Reader" "of_month").ok,
  (He.Fa.meth "Reader" "condition").ok,
  (He.Fa.meth "Reader" "term").ok,
  (He.Fa.meth "Reader" "factor").ok,
  (He.Fa.meth "Reader" "plain_factor").ok,
  (He.Fa.meth "Reader" "finish").ok]
def defs : List He5.DefA := [⟨fun K => He.ma K (He.ga K "DaySet") "__init__", "__init__", "DaySet.__init__", defArgs s_DaySetu_initu, defBody s_DaySetu_initu, defScope s_DaySetu_initu, [], []⟩,
  ⟨fun K => He.ma K (He.ga K "DaySet") "__eq__", "__eq__", "DaySet.__eq__", defArgs s_DaySetu_equ, defBody s_DaySetu_equ, defScope s_DaySetu_equ, [], []⟩,
  ⟨fun K => He.ma K (He.ga K "DaySet") "__len__", "__len__", "DaySet.__len__", defArgs s_DaySetu_lenu, defBody s_DaySetu_lenu, defScope s_DaySetu_lenu, [], []⟩,
  ⟨fun K => He.ma K (He.ga K "DaySet") "__contains__", "__contains__", "DaySet.__contains__", defArgs s_DaySetu_containsu, defBody s_DaySetu_containsu, defScope s_DaySetu_containsu, [], []⟩,
  ⟨fun K => He.ma K (He.ga K "DaySet") "__sub__", "__sub__", "DaySet.__sub__", defArgs s_DaySetu_subu, defBody s_DaySetu_subu, defScope s_DaySetu_subu, [], []⟩,
  ⟨fun K => He5.wf K (He.ga K "DaySet") "classmethod" "read", "read", "DaySet.read", defArgs s_DaySet_read, defBody s_DaySet_read, defScope s_DaySet_read, [], []⟩,
  ⟨fun K => He5.wf K (He.ga K "DaySet") "property" "period", "period", "DaySet.period", defArgs s_DaySet_period, defBody s_DaySet_period, defScope s_DaySet_period, [], []⟩,
  ⟨fun K => He5.wf K (He.ga K "DaySet") "property" "days", "days", "DaySet.days", defArgs s_DaySet_days, defBody s_DaySet_days, defScope s_DaySet_days, [], []⟩,
  ⟨fun K => He.ma K (He.ga K "DaySet") "has", "has", "DaySet.has", defArgs s_DaySet_has, defBody s_DaySet_has, defScope s_DaySet_has, [], []⟩,
  ⟨fun K => He.ma K (He.ga K "Calendar") "__init__", "__init__", "Calendar.__init__", defArgs s_Calendaru_initu, defBody s_Calendaru_initu, defScope s_Calendaru_initu, [.int 7], [("first", .int 0)]⟩,
  ⟨fun K => He.ma K (He.ga K "Calendar") "__eq__", "__eq__", "Calendar.__eq__", defArgs s_Calendaru_equ, defBody s_Calendaru_equ, defScope s_Calendaru_equ, [], []⟩,
  ⟨fun K => He5.wf K (He.ga K "Calendar") "classmethod" "read", "read", "Calendar.read", defArgs s_Calendar_read, defBody s_Calendar_read, defScope s_Calendar_read, [], []⟩,
  ⟨fun K => He.ma K (He.ga K "Calendar") "facts", "facts", "Calendar.facts", defArgs s_Calendar_facts, defBody s_Calendar_facts, defScope s_Calendar_facts, [], []⟩,
  ⟨fun K => He.ma K (He.ga K "Calendar") "first_works", "first_works", "Calendar.first_works", defArgs s_Calendar_first_works, defBody s_Calendar_first_works, defScope s_Calendar_first_works, [], []⟩,
  ⟨fun K => He5.wf K (He.ga K "Calendar") "property" "week", "week", "Calendar.week", defArgs s_Calendar_week, defBody s_Calendar_week, defScope s_Calendar_week, [], []⟩,
  ⟨fun K => He5.wf K (He.ga K "Calendar") "property" "months", "months", "Calendar.months", defArgs s_Calendar_months, defBody s_Calendar_months, defScope s_Calendar_months, [], []⟩,
  ⟨fun K => He5.wf K (He.ga K "Calendar") "property" "period", "period", "Calendar.period", defArgs s_Calendar_period, defBody s_Calendar_period, defScope s_Calendar_period, [], []⟩,
  ⟨fun K => He.ma K (He.ga K "Calendar") "month_start", "month_start", "Calendar.month_start", defArgs s_Calendar_month_start, defBody s_Calendar_month_start, defScope s_Calendar_month_start, [], []⟩,
  ⟨fun K => He.ma K (He.ga K "Calendar") "month_days", "month_days", "Calendar.month_days", defArgs s_Calendar_month_days, defBody s_Calendar_month_days, defScope s_Calendar_month_days, [], []⟩,
  ⟨fun K => He.ma K (He.ga K "Calendar") "month_number", "month_number", "Calendar.month_number", defArgs s_Calendar_month_number, defBody s_Calendar_month_number, defScope s_Calendar_month_number, [], []⟩,
  ⟨fun K => He.ma K (He.ga K "Calendar") "month_length", "month_length", "Calendar.month_length", defArgs s_Calendar_month_length, defBody s_Calendar_month_length, defScope s_Calendar_month_length, [], []⟩,
  ⟨fun K => He.ma K (He.ga K "Calendar") "parts", "parts", "Calendar.parts", defArgs s_Calendar_parts, defBody s_Calendar_parts, defScope s_Calendar_parts, [], []⟩,
  ⟨fun K => He.ma K (He.ga K "Calendar") "weekday", "weekday", "Calendar.weekday", defArgs s_Calendar_weekday, defBody s_Calendar_weekday, defScope s_Calendar_weekday, [], []⟩,
  ⟨fun K => He.ma K (He.ga K "Calendar") "is_work", "is_work", "Calendar.is_work", defArgs s_Calendar_is_work, defBody s_Calendar_is_work, defScope s_Calendar_is_work, [], []⟩,
  ⟨fun K => He.ma K (He.ga K "Reader") "__init__", "__init__", "Reader.__init__", defArgs s_Readeru_initu, defBody s_Readeru_initu, defScope s_Readeru_initu, [], []⟩,
  ⟨fun K => He.ma K (He.ga K "Reader") "fail", "fail", "Reader.fail", defArgs s_Reader_fail, defBody s_Reader_fail, defScope s_Reader_fail, [], []⟩,
  ⟨fun K => He.ma K (He.ga K "Reader") "is_next", "is_next", "Reader.is_next", defArgs s_Reader_is_next, defBody s_Reader_is_next, defScope s_Reader_is_next, [], []⟩,
  ⟨fun K => He.ma K (He.ga K "Reader") "taken", "taken", "Reader.taken", defArgs s_Reader_taken, defBody s_Reader_taken, defScope s_Reader_taken, [], []⟩,
  ⟨fun K => He.ma K (He.ga K "Reader") "need", "need", "Reader.need", defArgs s_Reader_need, defBody s_Reader_need, defScope s_Reader_need, [], []⟩,
  ⟨fun K => He.ma K (He.ga K "Reader") "read_number", "read_number", "Reader.read_number", defArgs s_Reader_read_number, defBody s_Reader_read_number, defScope s_Reader_read_number, [], []⟩,
  ⟨fun K => He.ma K (He.ga K "Reader") "bounded", "bounded", "Reader.bounded", defArgs s_Reader_bounded, defBody s_Reader_bounded, defScope s_Reader_bounded, [], []⟩,
  ⟨fun K => He.ma K (He.ga K "Reader") "read_weekday", "read_weekday", "Reader.read_weekday", defArgs s_Reader_read_weekday, defBody s_Reader_read_weekday, defScope s_Reader_read_weekday, [], []⟩,
  ⟨fun K => He.ma K (He.ga K "Reader") "read_name", "read_name", "Reader.read_name", defArgs s_Reader_read_name, defBody s_Reader_read_name, defScope s_Reader_read_name, [], []⟩,
  ⟨fun K => He.ma K (He.ga K "Reader") "go_in", "go_in", "Reader.go_in", defArgs s_Reader_go_in, defBody s_Reader_go_in, defScope s_Reader_go_in, [], []⟩,
  ⟨fun K => He.ma K (He.ga K "Reader") "go_out", "go_out", "Reader.go_out", defArgs s_Reader_go_out, defBody s_Reader_go_out, defScope s_Reader_go_out, [], []⟩,
  ⟨fun K => He.ma K (He.ga K "Reader") "of_month", "of_month", "Reader.of_month", defArgs s_Reader_of_month, defBody s_Reader_of_month, defScope s_Reader_of_month, [], []⟩,
  ⟨fun K => He.ma K (He.ga K "Reader") "condition", "condition", "Reader.condition", defArgs s_Reader_condition, defBody s_Reader_condition, defScope s_Reader_condition, [], []⟩,
  ⟨fun K => He.ma K (He.ga K "Reader") "term", "term", "Reader.term", defArgs s_Reader_term, defBody s_Reader_term, defScope s_Reader_term, [], []⟩,
  ⟨fun K => He.ma K (He.ga K "Reader") "factor", "factor", "Reader.factor", defArgs s_Reader_factor, defBody s_Reader_factor, defScope s_Reader_factor, [], []⟩,
  ⟨fun K => He.ma K (He.ga K "Reader") "plain_factor", "plain_factor", "Reader.plain_factor", defArgs s_Reader_plain_factor, defBody s_Reader_plain_factor, defScope s_Reader_plain_factor, [], []⟩,
  ⟨fun K => He.ma K (He.ga K "Reader") "finish", "finish", "Reader.finish", defArgs s_Reader_finish, defBody s_Reader_finish, defScope s_Reader_finish, [], []⟩,
  ⟨fun K => He.ga K "is_nth", "is_nth", "is_nth", defArgs s_is_nth, defBody s_is_nth, defScope s_is_nth, [], []⟩,
  ⟨fun K => He.ga K "is_day", "is_day", "is_day", defArgs s_is_day, defBody s_is_day, defScope s_is_day, [], []⟩,
  ⟨fun K => He.ga K "holds_plain", "holds_plain", "holds_plain", defArgs s_holds_plain, defBody s_holds_plain, defScope s_holds_plain, [], []⟩,
  ⟨fun K => He.ga K "holds", "holds", "holds", defArgs s_holds, defBody s_holds, defScope s_holds, [], []⟩,
  ⟨fun K => He.ga K "is_integer", "is_integer", "is_integer", defArgs s_is_integer, defBody s_is_integer, defScope s_is_integer, [], []⟩,
  ⟨fun K => He.ga K "is_period", "is_period", "is_period", defArgs s_is_period, defBody s_is_period, defScope s_is_period, [], []⟩,
  ⟨fun K => He.ga K "common_divisor", "common_divisor", "common_divisor", defArgs s_common_divisor, defBody s_common_divisor, defScope s_common_divisor, [], []⟩,
  ⟨fun K => He.ga K "common_multiple", "common_multiple", "common_multiple", defArgs s_common_multiple, defBody s_common_multiple, defScope s_common_multiple, [], []⟩,
  ⟨fun K => He.ga K "common_period", "common_period", "common_period", defArgs s_common_period, defBody s_common_period, defScope s_common_period, [], []⟩,
  ⟨fun K => He.ga K "least_period", "least_period", "least_period", defArgs s_least_period, defBody s_least_period, defScope s_least_period, [], []⟩,
  ⟨fun K => He.ga K "number_in", "number_in", "number_in", defArgs s_number_in, defBody s_number_in, defScope s_number_in, [], []⟩,
  ⟨fun K => He.ga K "bounded_in", "bounded_in", "bounded_in", defArgs s_bounded_in, defBody s_bounded_in, defScope s_bounded_in, [], []⟩,
  ⟨fun K => He.ga K "week_in", "week_in", "week_in", defArgs s_week_in, defBody s_week_in, defScope s_week_in, [], []⟩,
  ⟨fun K => He.ga K "numbers_in", "numbers_in", "numbers_in", defArgs s_numbers_in, defBody s_numbers_in, defScope s_numbers_in, [], []⟩,
  ⟨fun K => He.ga K "rest_in", "rest_in", "rest_in", defArgs s_rest_in, defBody s_rest_in, defScope s_rest_in, [], []⟩,
  ⟨fun K => He.ga K "holiday_in", "holiday_in", "holiday_in", defArgs s_holiday_in, defBody s_holiday_in, defScope s_holiday_in, [], []⟩,
  ⟨fun K => He.ga K "year_in", "year_in", "year_in", defArgs s_year_in, defBody s_year_in, defScope s_year_in, [], []⟩,
  ⟨fun K => He.ga K "read_calendar", "read_calendar", "read_calendar", defArgs s_read_calendar, defBody s_read_calendar, defScope s_read_calendar, [], []⟩,
  ⟨fun K => He.ga K "is_name", "is_name", "is_name", defArgs s_is_name, defBody s_is_name, defScope s_is_name, [], []⟩,
  ⟨fun K => He.ga K "set_in", "set_in", "set_in", defArgs s_set_in, defBody s_set_in, defScope s_set_in, [.bl false], []⟩,
  ⟨fun K => He.ga K "are_days", "are_days", "are_days", defArgs s_are_days, defBody s_are_days, defScope s_are_days, [], []⟩,
  ⟨fun K => He.ga K "is_row", "is_row", "is_row", defArgs s_is_row, defBody s_is_row, defScope s_is_row, [], []⟩,
  ⟨fun K => He.ga K "is_between", "is_between", "is_between", defArgs s_is_between, defBody s_is_between, defScope s_is_between, [], []⟩,
  ⟨fun K => He.ga K "are_years", "are_years", "are_years", defArgs s_are_years, defBody s_are_years, defScope s_are_years, [], []⟩,
  ⟨fun K => He.ga K "are_weekdays", "are_weekdays", "are_weekdays", defArgs s_are_weekdays, defBody s_are_weekdays, defScope s_are_weekdays, [], []⟩,
  ⟨fun K => He.ga K "are_holidays", "are_holidays", "are_holidays", defArgs s_are_holidays, defBody s_are_holidays, defScope s_are_holidays, [], []⟩,
  ⟨fun K => He.ga K "month_starts", "month_starts", "month_starts", defArgs s_month_starts, defBody s_month_starts, defScope s_month_starts, [], []⟩,
  ⟨fun K => He.ga K "month_at", "month_at", "month_at", defArgs s_month_at, defBody s_month_at, defScope s_month_at, [], []⟩,
  ⟨fun K => He.ga K "_law_pen", "_law_pen", "_law_pen", defArgs s__law_pen, defBody s__law_pen, defScope s__law_pen, [], []⟩,
  ⟨fun K => He.ga K "_law_draw", "_law_draw", "_law_draw", defArgs s__law_draw, defBody s__law_draw, defScope s__law_draw, [], []⟩,
  ⟨fun K => He.ga K "_law_pick", "_law_pick", "_law_pick", defArgs s__law_pick, defBody s__law_pick, defScope s__law_pick, [], []⟩,
  ⟨fun K => He.ga K "_law_shuffled", "_law_shuffled", "_law_shuffled", defArgs s__law_shuffled, defBody s__law_shuffled, defScope s__law_shuffled, [], []⟩,
  ⟨fun K => He.ga K "_law_far", "_law_far", "_law_far", defArgs s__law_far, defBody s__law_far, defScope s__law_far, [], []⟩,
  ⟨fun K => He.ga K "_law_gcd", "_law_gcd", "_law_gcd", defArgs s__law_gcd, defBody s__law_gcd, defScope s__law_gcd, [], []⟩,
  ⟨fun K => He.ga K "_law_multiple", "_law_multiple", "_law_multiple", defArgs s__law_multiple, defBody s__law_multiple, defScope s__law_multiple, [], []⟩,
  ⟨fun K => He.ga K "_law_least", "_law_least", "_law_least", defArgs s__law_least, defBody s__law_least, defScope s__law_least, [], []⟩,
  ⟨fun K => He.ga K "_law_members", "_law_members", "_law_members", defArgs s__law_members, defBody s__law_members, defScope s__law_members, [], []⟩,
  ⟨fun K => He.ga K "_law_is", "_law_is", "_law_is", defArgs s__law_is, defBody s__law_is, defScope s__law_is, [], []⟩,
  ⟨fun K => He.ga K "_law_calendar", "_law_calendar", "_law_calendar", defArgs s__law_calendar, defBody s__law_calendar, defScope s__law_calendar, [], []⟩,
  ⟨fun K => He.ga K "_law_cycle", "_law_cycle", "_law_cycle", defArgs s__law_cycle, defBody s__law_cycle, defScope s__law_cycle, [], []⟩,
  ⟨fun K => He.ga K "_law_place", "_law_place", "_law_place", defArgs s__law_place, defBody s__law_place, defScope s__law_place, [], []⟩,
  ⟨fun K => He.ga K "_law_weekday", "_law_weekday", "_law_weekday", defArgs s__law_weekday, defBody s__law_weekday, defScope s__law_weekday, [], []⟩,
  ⟨fun K => He.ga K "_law_is_rest", "_law_is_rest", "_law_is_rest", defArgs s__law_is_rest, defBody s__law_is_rest, defScope s__law_is_rest, [], []⟩,
  ⟨fun K => He.ga K "_law_opened", "_law_opened", "_law_opened", defArgs s__law_opened, defBody s__law_opened, defScope s__law_opened, [], []⟩,
  ⟨fun K => He.ga K "_law_nth", "_law_nth", "_law_nth", defArgs s__law_nth, defBody s__law_nth, defScope s__law_nth, [], []⟩,
  ⟨fun K => He.ga K "_law_leaf", "_law_leaf", "_law_leaf", defArgs s__law_leaf, defBody s__law_leaf, defScope s__law_leaf, [], []⟩,
  ⟨fun K => He.ga K "_law_tree", "_law_tree", "_law_tree", defArgs s__law_tree, defBody s__law_tree, defScope s__law_tree, [], []⟩,
  ⟨fun K => He.ga K "_law_words", "_law_words", "_law_words", defArgs s__law_words, defBody s__law_words, defScope s__law_words, [], []⟩,
  ⟨fun K => He.ga K "_law_plain_holds", "_law_plain_holds", "_law_plain_holds", defArgs s__law_plain_holds, defBody s__law_plain_holds, defScope s__law_plain_holds, [], []⟩,
  ⟨fun K => He.ga K "_law_holds", "_law_holds", "_law_holds", defArgs s__law_holds, defBody s__law_holds, defScope s__law_holds, [], []⟩,
  ⟨fun K => He.ga K "_law_wide", "_law_wide", "_law_wide", defArgs s__law_wide, defBody s__law_wide, defScope s__law_wide, [], []⟩,
  ⟨fun K => He.ga K "law", "law", "law", defArgs s_law, defBody s_law, defScope s_law, [], []⟩]
abbrev Tx (K : Fg) (mg : Str → Option Value) : Prop := TxOf facts defs K mg
section
variable {K : Fg} {mg : Str → Option Value}
theorem Tx.g_is_nth (T : Tx K mg) : mg "is_nth" = some (.ref (He.ga K "is_nth")) := T.glo (T.fact 0)
theorem Tx.g_is_day (T : Tx K mg) : mg "is_day" = some (.ref (He.ga K "is_day")) := T.glo (T.fact 1)
theorem Tx.g_holds_plain (T : Tx K mg) : mg "holds_plain" = some (.ref (He.ga K "holds_plain")) := T.glo (T.fact 2)
theorem Tx.g_holds (T : Tx K mg) : mg "holds" = some (.ref (He.ga K "holds")) := T.glo (T.fact 3)
theorem Tx.g_is_integer (T : Tx K mg) : mg "is_integer" = some (.ref (He.ga K "is_integer")) := T.glo (T.fact 4)
theorem Tx.g_is_period (T : Tx K mg) : mg "is_period" = some (.ref (He.ga K "is_period")) := T.glo (T.fact 5)
theorem Tx.g_common_divisor (T : Tx K mg) : mg "common_divisor" = some (.ref (He.ga K "common_divisor")) := T.glo (T.fact 6)
theorem Tx.g_common_multiple (T : Tx K mg) : mg "common_multiple" = some (.ref (He.ga K "common_multiple")) := T.glo (T.fact 7)
theorem Tx.g_least_period (T : Tx K mg) : mg "least_period" = some (.ref (He.ga K "least_period")) := T.glo (T.fact 9)
theorem Tx.g_number_in (T : Tx K mg) : mg "number_in" = some (.ref (He.ga K "number_in")) := T.glo (T.fact 10)
theorem Tx.g_set_in (T : Tx K mg) : mg "set_in" = some (.ref (He.ga K "set_in")) := T.glo (T.fact 19)
theorem Tx.g_are_days (T : Tx K mg) : mg "are_days" = some (.ref (He.ga K "are_days")) := T.glo (T.fact 20)
theorem Tx.g_is_row (T : Tx K mg) : mg "is_row" = some (.ref (He.ga K "is_row")) := T.glo (T.fact 21)
theorem Tx.g_is_between (T : Tx K mg) : mg "is_between" = some (.ref (He.ga K "is_between")) := T.glo (T.fact 22)
theorem Tx.g_are_years (T : Tx K mg) : mg "are_years" = some (.ref (He.ga K "are_years")) := T.glo (T.fact 23)
theorem Tx.g_are_weekdays (T : Tx K mg) : mg "are_weekdays" = some (.ref (He.ga K "are_weekdays")) := T.glo (T.fact 24)
theorem Tx.g_are_holidays (T : Tx K mg) : mg "are_holidays" = some (.ref (He.ga K "are_holidays")) := T.glo (T.fact 25)
theorem Tx.g_month_starts (T : Tx K mg) : mg "month_starts" = some (.ref (He.ga K "month_starts")) := T.glo (T.fact 26)
theorem Tx.g_month_at (T : Tx K mg) : mg "month_at" = some (.ref (He.ga K "month_at")) := T.glo (T.fact 27)
theorem Tx.g__law_pen (T : Tx K mg) : mg "_law_pen" = some (.ref (He.ga K "_law_pen")) := T.glo (T.fact 28)
theorem Tx.g__law_draw (T : Tx K mg) : mg "_law_draw" = some (.ref (He.ga K "_law_draw")) := T.glo (T.fact 29)
theorem Tx.g__law_pick (T : Tx K mg) : mg "_law_pick" = some (.ref (He.ga K "_law_pick")) := T.glo (T.fact 30)
theorem Tx.g__law_shuffled (T : Tx K mg) : mg "_law_shuffled" = some (.ref (He.ga K "_law_shuffled")) := T.glo (T.fact 31)
theorem Tx.g__law_far (T : Tx K mg) : mg "_law_far" = some (.ref (He.ga K "_law_far")) := T.glo (T.fact 32)
theorem Tx.g__law_gcd (T : Tx K mg) : mg "_law_gcd" = some (.ref (He.ga K "_law_gcd")) := T.glo (T.fact 33)
theorem Tx.g__law_multiple (T : Tx K mg) : mg "_law_multiple" = some (.ref (He.ga K "_law_multiple")) := T.glo (T.fact 34)
theorem Tx.g__law_least (T : Tx K mg) : mg "_law_least" = some (.ref (He.ga K "_law_least")) := T.glo (T.fact 35)
theorem Tx.g__law_members (T : Tx K mg) : mg "_law_members" = some (.ref (He.ga K "_law_members")) := T.glo (T.fact 36)
theorem Tx.g__law_is (T : Tx K mg) : mg "_law_is" = some (.ref (He.ga K "_law_is")) := T.glo (T.fact 37)
theorem Tx.g__law_calendar (T : Tx K mg) : mg "_law_calendar" = some (.ref (He.ga K "_law_calendar")) := T.glo (T.fact 38)
theorem Tx.g__law_cycle (T : Tx K mg) : mg "_law_cycle" = some (.ref (He.ga K "_law_cycle")) := T.glo (T.fact 39)
theorem Tx.g__law_place (T : Tx K mg) : mg "_law_place" = some (.ref (He.ga K "_law_place")) := T.glo (T.fact 40)
theorem Tx.g__law_weekday (T : Tx K mg) : mg "_law_weekday" = some (.ref (He.ga K "_law_weekday")) := T.glo (T.fact 41)
theorem Tx.g__law_is_rest (T : Tx K mg) : mg "_law_is_rest" = some (.ref (He.ga K "_law_is_rest")) := T.glo (T.fact 42)
theorem Tx.g__law_opened (T : Tx K mg) : mg "_law_opened" = some (.ref (He.ga K "_law_opened")) := T.glo (T.fact 43)
theorem Tx.g__law_nth (T : Tx K mg) : mg "_law_nth" = some (.ref (He.ga K "_law_nth")) := T.glo (T.fact 44)
theorem Tx.g__law_leaf (T : Tx K mg) : mg "_law_leaf" = some (.ref (He.ga K "_law_leaf")) := T.glo (T.fact 45)
theorem Tx.g__law_tree (T : Tx K mg) : mg "_law_tree" = some (.ref (He.ga K "_law_tree")) := T.glo (T.fact 46)
theorem Tx.g__law_words (T : Tx K mg) : mg "_law_words" = some (.ref (He.ga K "_law_words")) := T.glo (T.fact 47)
theorem Tx.g__law_plain_holds (T : Tx K mg) : mg "_law_plain_holds" = some (.ref (He.ga K "_law_plain_holds")) := T.glo (T.fact 48)
theorem Tx.g__law_holds (T : Tx K mg) : mg "_law_holds" = some (.ref (He.ga K "_law_holds")) := T.glo (T.fact 49)
theorem Tx.g__law_wide (T : Tx K mg) : mg "_law_wide" = some (.ref (He.ga K "_law_wide")) := T.glo (T.fact 50)
theorem Tx.g_law (T : Tx K mg) : mg "law" = some (.ref (He.ga K "law")) := T.glo (T.fact 51)
theorem Tx.g_Reader (T : Tx K mg) : mg "Reader" = some (.ref (He.ga K "Reader")) := T.glo (T.fact 58)
theorem Tx.g_DaySet (T : Tx K mg) : mg "DaySet" = some (.ref (He.ga K "DaySet")) := T.glo (T.fact 59)
theorem Tx.g_Calendar (T : Tx K mg) : mg "Calendar" = some (.ref (He.ga K "Calendar")) := T.glo (T.fact 60)
theorem Tx.g_MAX_PERIOD (T : Tx K mg) : ∃ t, mg "MAX_PERIOD" = some (.int 200000 t) := T.int (T.fact 61)
theorem Tx.g_MAX_YEARS (T : Tx K mg) : ∃ t, mg "MAX_YEARS" = some (.int 400 t) := T.int (T.fact 62)
theorem Tx.g_MAX_MONTHS (T : Tx K mg) : ∃ t, mg "MAX_MONTHS" = some (.int 14 t) := T.int (T.fact 63)
theorem Tx.g_MAX_DAYS (T : Tx K mg) : ∃ t, mg "MAX_DAYS" = some (.int 40 t) := T.int (T.fact 64)
theorem Tx.g_MAX_WEEK (T : Tx K mg) : ∃ t, mg "MAX_WEEK" = some (.int 10 t) := T.int (T.fact 65)
theorem Tx.g_MAX_STEPS (T : Tx K mg) : ∃ t, mg "MAX_STEPS" = some (.int 60 t) := T.int (T.fact 66)
theorem Tx.g_MAX_DEPTH (T : Tx K mg) : ∃ t, mg "MAX_DEPTH" = some (.int 6 t) := T.int (T.fact 67)
theorem Tx.g_MOST_DIGITS (T : Tx K mg) : ∃ t, mg "MOST_DIGITS" = some (.int 12 t) := T.int (T.fact 68)
theorem Tx.g_SHORT_PERIOD (T : Tx K mg) : ∃ t, mg "SHORT_PERIOD" = some (.int 2000 t) := T.int (T.fact 71)
theorem Tx.g_DIGITS (T : Tx K mg) : ∃ t, mg "DIGITS" = some (.str "0123456789" t) := T.inn.elim fun _ q => He.str_ok q.1 q.2 (T.fact 72)
theorem Tx.n_abs (T : Tx K mg) : mg "abs" = none := T.free (T.fact 73)
theorem Tx.n_all (T : Tx K mg) : mg "all" = none := T.free (T.fact 74)
theorem Tx.n_any (T : Tx K mg) : mg "any" = none := T.free (T.fact 75)
theorem Tx.n_bool (T : Tx K mg) : mg "bool" = none := T.free (T.fact 76)
theorem Tx.n_enumerate (T : Tx K mg) : mg "enumerate" = none := T.free (T.fact 78)
theorem Tx.n_int (T : Tx K mg) : mg "int" = none := T.free (T.fact 79)
theorem Tx.n_isinstance (T : Tx K mg) : mg "isinstance" = none := T.free (T.fact 80)
theorem Tx.n_len (T : Tx K mg) : mg "len" = none := T.free (T.fact 81)
theorem Tx.n_list (T : Tx K mg) : mg "list" = none := T.free (T.fact 82)
theorem Tx.n_min (T : Tx K mg) : mg "min" = none := T.free (T.fact 83)
theorem Tx.n_range (T : Tx K mg) : mg "range" = none := T.free (T.fact 85)
theorem Tx.n_repr (T : Tx K mg) : mg "repr" = none := T.free (T.fact 86)
theorem Tx.n_set (T : Tx K mg) : mg "set" = none := T.free (T.fact 87)
theorem Tx.n_sorted (T : Tx K mg) : mg "sorted" = none := T.free (T.fact 88)
theorem Tx.n_str (T : Tx K mg) : mg "str" = none := T.free (T.fact 89)
theorem Tx.n_sum (T : Tx K mg) : mg "sum" = none := T.free (T.fact 90)
theorem Tx.n_tuple (T : Tx K mg) : mg "tuple" = none := T.free (T.fact 91)
theorem Tx.cl_DS (T : Tx K mg) : Cls K (DS K) := He.cls_ok (x := "DaySet") (T.fact 92)
theorem Tx.no_DS_flags (T : Tx K mg) : NoAttr K (DS K) "flags" := He.noat_ok (x := "DaySet") (T.fact 93)
theorem Tx.no_DS_members (T : Tx K mg) : NoAttr K (DS K) "members" := He.noat_ok (x := "DaySet") (T.fact 94)
theorem Tx.mk_DS (T : Tx K mg) : Mk K (DS K) (He.ma K (DS K) "__init__") := He.mkr_ok (x := "DaySet") (T.fact 95)
theorem Tx.ty_DS (T : Tx K mg) {H : Hp} {a dx : Addr} {fs : List (Str × V)} (e : H a = some (.ins (DS K) dx fs)) : TyX K H (.ref a) (.ref (DS K)) := tyB_ok (C := "DaySet") (T.fact 96) T.cl_DS e
theorem Tx.fst_DS (T : Tx K mg) : PySem.W.selfFirst K (DS K) = true ∧ PySem.W.notFirst K (DS K) (.ref (DS K)) = true := He.ba (T.fact 97)
theorem Tx.isi_DS_DaySet (T : Tx K mg) : PySem.W.kitOne K (.ref (DS K)) (.ref (He.ga K "DaySet")) = some true := isiB_ok (C := "DaySet") (D := "DaySet") (T.fact 98)
theorem Tx.sp_DS_eq (T : Tx K mg) : PySem.W.findIn K (.ref (DS K)) "__eq__" = some (some (.ref (He.ma K (DS K) "__eq__"))) ∧ PySem.W.isFn K (.ref (He.ma K (DS K) "__eq__")) = true := spB_ok (C := "DaySet") (T.fact 102)
theorem Tx.sp_DS_contains (T : Tx K mg) : PySem.W.findIn K (.ref (DS K)) "__contains__" = some (some (.ref (He.ma K (DS K) "__contains__"))) ∧ PySem.W.isFn K (.ref (He.ma K (DS K) "__contains__")) = true := spB_ok (C := "DaySet") (T.fact 104)
theorem Tx.cm_DS_read (T : Tx K mg) : ClX.CMet K (DS K) (.type "type") "read" (He.ma K (DS K) "read") (He5.wf K (DS K) "classmethod" "read") := cmB_ok (C := "DaySet") (T.fact 106)
theorem Tx.cr_DS (T : Tx K mg) : ClX.CRead K (DS K) (.type "type") := crB_ok (C := "DaySet") (T.fact 107)
theorem Tx.pr_DS_period (T : Tx K mg) : PropOf K (DS K) "period" (He.ma K (DS K) "period") (He5.wf K (DS K) "property" "period") := propB_ok (C := "DaySet") (T.fact 108)
theorem Tx.pr_DS_days (T : Tx K mg) : PropOf K (DS K) "days" (He.ma K (DS K) "days") (He5.wf K (DS K) "property" "days") := propB_ok (C := "DaySet") (T.fact 109)
theorem Tx.me_DS_has (T : Tx K mg) : Meth K (DS K) "has" (He.ma K (DS K) "has") := He.meth_ok (x := "DaySet") (T.fact 110)
theorem Tx.cl_CA (T : Tx K mg) : Cls K (CA K) := He.cls_ok (x := "Calendar") (T.fact 111)
theorem Tx.no_CA_all_years (T : Tx K mg) : NoAttr K (CA K) "all_years" := He.noat_ok (x := "Calendar") (T.fact 112)
theorem Tx.no_CA_days_of_week (T : Tx K mg) : NoAttr K (CA K) "days_of_week" := He.noat_ok (x := "Calendar") (T.fact 113)
theorem Tx.no_CA_begins (T : Tx K mg) : NoAttr K (CA K) "begins" := He.noat_ok (x := "Calendar") (T.fact 114)
theorem Tx.no_CA_rests (T : Tx K mg) : NoAttr K (CA K) "rests" := He.noat_ok (x := "Calendar") (T.fact 115)
theorem Tx.no_CA_free_days (T : Tx K mg) : NoAttr K (CA K) "free_days" := He.noat_ok (x := "Calendar") (T.fact 116)
theorem Tx.no_CA_lengths (T : Tx K mg) : NoAttr K (CA K) "lengths" := He.noat_ok (x := "Calendar") (T.fact 117)
theorem Tx.no_CA_starts (T : Tx K mg) : NoAttr K (CA K) "starts" := He.noat_ok (x := "Calendar") (T.fact 118)
theorem Tx.no_CA_turn (T : Tx K mg) : NoAttr K (CA K) "turn" := He.noat_ok (x := "Calendar") (T.fact 119)
theorem Tx.no_CA_works (T : Tx K mg) : NoAttr K (CA K) "works" := He.noat_ok (x := "Calendar") (T.fact 120)
theorem Tx.mk_CA (T : Tx K mg) : Mk K (CA K) (He.ma K (CA K) "__init__") := He.mkr_ok (x := "Calendar") (T.fact 121)
theorem Tx.fst_CA (T : Tx K mg) : PySem.W.selfFirst K (CA K) = true ∧ PySem.W.notFirst K (CA K) (.ref (CA K)) = true := He.ba (T.fact 123)
theorem Tx.me_CA_first_works (T : Tx K mg) : Meth K (CA K) "first_works" (He.ma K (CA K) "first_works") := He.meth_ok (x := "Calendar") (T.fact 131)
theorem Tx.pr_CA_week (T : Tx K mg) : PropOf K (CA K) "week" (He.ma K (CA K) "week") (He5.wf K (CA K) "property" "week") := propB_ok (C := "Calendar") (T.fact 132)
theorem Tx.pr_CA_months (T : Tx K mg) : PropOf K (CA K) "months" (He.ma K (CA K) "months") (He5.wf K (CA K) "property" "months") := propB_ok (C := "Calendar") (T.fact 133)
theorem Tx.pr_CA_period (T : Tx K mg) : PropOf K (CA K) "period" (He.ma K (CA K) "period") (He5.wf K (CA K) "property" "period") := propB_ok (C := "Calendar") (T.fact 134)
theorem Tx.me_CA_month_start (T : Tx K mg) : Meth K (CA K) "month_start" (He.ma K (CA K) "month_start") := He.meth_ok (x := "Calendar") (T.fact 135)
theorem Tx.me_CA_month_days (T : Tx K mg) : Meth K (CA K) "month_days" (He.ma K (CA K) "month_days") := He.meth_ok (x := "Calendar") (T.fact 136)
theorem Tx.me_CA_month_number (T : Tx K mg) : Meth K (CA K) "month_number" (He.ma K (CA K) "month_number") := He.meth_ok (x := "Calendar") (T.fact 137)
theorem Tx.me_CA_month_length (T : Tx K mg) : Meth K (CA K) "month_length" (He.ma K (CA K) "month_length") := He.meth_ok (x := "Calendar") (T.fact 138)
theorem Tx.me_CA_parts (T : Tx K mg) : Meth K (CA K) "parts" (He.ma K (CA K) "parts") := He.meth_ok (x := "Calendar") (T.fact 139)
theorem Tx.me_CA_weekday (T : Tx K mg) : Meth K (CA K) "weekday" (He.ma K (CA K) "weekday") := He.meth_ok (x := "Calendar") (T.fact 140)
theorem Tx.me_CA_is_work (T : Tx K mg) : Meth K (CA K) "is_work" (He.ma K (CA K) "is_work") := He.meth_ok (x := "Calendar") (T.fact 141)
theorem Tx.cl_RD (T : Tx K mg) : Cls K (RD K) := He.cls_ok (x := "Reader") (T.fact 142)
theorem Tx.no_RD_guide (T : Tx K mg) : NoAttr K (RD K) "guide" := He.noat_ok (x := "Reader") (T.fact 143)
theorem Tx.no_RD_words (T : Tx K mg) : NoAttr K (RD K) "words" := He.noat_ok (x := "Reader") (T.fact 144)
theorem Tx.no_RD_place (T : Tx K mg) : NoAttr K (RD K) "place" := He.noat_ok (x := "Reader") (T.fact 145)
theorem Tx.no_RD_depth (T : Tx K mg) : NoAttr K (RD K) "depth" := He.noat_ok (x := "Reader") (T.fact 146)
theorem Tx.no_RD_many (T : Tx K mg) : NoAttr K (RD K) "many" := He.noat_ok (x := "Reader") (T.fact 147)
theorem Tx.no_RD_with_names (T : Tx K mg) : NoAttr K (RD K) "with_names" := He.noat_ok (x := "Reader") (T.fact 148)
theorem Tx.no_RD_cuts (T : Tx K mg) : NoAttr K (RD K) "cuts" := He.noat_ok (x := "Reader") (T.fact 149)
theorem Tx.mk_RD (T : Tx K mg) : Mk K (RD K) (He.ma K (RD K) "__init__") := He.mkr_ok (x := "Reader") (T.fact 150)
theorem Tx.fst_RD (T : Tx K mg) : PySem.W.selfFirst K (RD K) = true ∧ PySem.W.notFirst K (RD K) (.ref (RD K)) = true := He.ba (T.fact 152)
theorem Tx.me_RD_is_next (T : Tx K mg) : Meth K (RD K) "is_next" (He.ma K (RD K) "is_next") := He.meth_ok (x := "Reader") (T.fact 154)
theorem Tx.me_RD_taken (T : Tx K mg) : Meth K (RD K) "taken" (He.ma K (RD K) "taken") := He.meth_ok (x := "Reader") (T.fact 155)
theorem Tx.me_RD_need (T : Tx K mg) : Meth K (RD K) "need" (He.ma K (RD K) "need") := He.meth_ok (x := "Reader") (T.fact 156)
theorem Tx.me_RD_read_number (T : Tx K mg) : Meth K (RD K) "read_number" (He.ma K (RD K) "read_number") := He.meth_ok (x := "Reader") (T.fact 157)
theorem Tx.me_RD_bounded (T : Tx K mg) : Meth K (RD K) "bounded" (He.ma K (RD K) "bounded") := He.meth_ok (x := "Reader") (T.fact 158)
theorem Tx.me_RD_read_weekday (T : Tx K mg) : Meth K (RD K) "read_weekday" (He.ma K (RD K) "read_weekday") := He.meth_ok (x := "Reader") (T.fact 159)
theorem Tx.me_RD_go_in (T : Tx K mg) : Meth K (RD K) "go_in" (He.ma K (RD K) "go_in") := He.meth_ok (x := "Reader") (T.fact 161)
theorem Tx.me_RD_go_out (T : Tx K mg) : Meth K (RD K) "go_out" (He.ma K (RD K) "go_out") := He.meth_ok (x := "Reader") (T.fact 162)
theorem Tx.me_RD_of_month (T : Tx K mg) : Meth K (RD K) "of_month" (He.ma K (RD K) "of_month") := He.meth_ok (x := "Reader") (T.fact 163)
theorem Tx.me_RD_condition (T : Tx K mg) : Meth K (RD K) "condition" (He.ma K (RD K) "condition") := He.meth_ok (x := "Reader") (T.fact 164)
theorem Tx.me_RD_term (T : Tx K mg) : Meth K (RD K) "term" (He.ma K (RD K) "term") := He.meth_ok (x := "Reader") (T.fact 165)
theorem Tx.me_RD_factor (T : Tx K mg) : Meth K (RD K) "factor" (He.ma K (RD K) "factor") := He.meth_ok (x := "Reader") (T.fact 166)
theorem Tx.me_RD_plain_factor (T : Tx K mg) : Meth K (RD K) "plain_factor" (He.ma K (RD K) "plain_factor") := He.meth_ok (x := "Reader") (T.fact 167)
theorem Tx.me_RD_finish (T : Tx K mg) : Meth K (RD K) "finish" (He.ma K (RD K) "finish") := He.meth_ok (x := "Reader") (T.fact 168)
theorem Tx.kp_is_nth (T : Tx K mg) : PySem.W.keepIn K (.ref ((fun K => He.ga K "is_nth") K)) = true := T.kp 41 (st := s_is_nth) rfl
theorem Tx.kp_is_day (T : Tx K mg) : PySem.W.keepIn K (.ref ((fun K => He.ga K "is_day") K)) = true := T.kp 42 (st := s_is_day) rfl
theorem Tx.kp_holds_plain (T : Tx K mg) : PySem.W.keepIn K (.ref ((fun K => He.ga K "holds_plain") K)) = true := T.kp 43 (st := s_holds_plain) rfl
theorem Tx.kp_holds (T : Tx K mg) : PySem.W.keepIn K (.ref ((fun K => He.ga K "holds") K)) = true := T.kp 44 (st := s_holds) rfl
theorem Tx.kp_is_integer (T : Tx K mg) : PySem.W.keepIn K (.ref ((fun K => He.ga K "is_integer") K)) = true := T.kp 45 (st := s_is_integer) rfl
theorem Tx.kp_is_period (T : Tx K mg) : PySem.W.keepIn K (.ref ((fun K => He.ga K "is_period") K)) = true := T.kp 46 (st := s_is_period) rfl
theorem Tx.kp_common_divisor (T : Tx K mg) : PySem.W.keepIn K (.ref ((fun K => He.ga K "common_divisor") K)) = true := T.kp 47 (st := s_common_divisor) rfl
theorem Tx.kp_common_multiple (T : Tx K mg) : PySem.W.keepIn K (.ref ((fun K => He.ga K "common_multiple") K)) = true := T.kp 48 (st := s_common_multiple) rfl
theorem Tx.kp_least_period (T : Tx K mg) : PySem.W.keepIn K (.ref ((fun K => He.ga K "least_period") K)) = true := T.kp 50 (st := s_least_period) rfl
theorem Tx.kp_number_in (T : Tx K mg) : PySem.W.keepIn K (.ref ((fun K => He.ga K "number_in") K)) = true := T.kp 51 (st := s_number_in) rfl
theorem Tx.kp_set_in (T : Tx K mg) : PySem.W.keepIn K (.ref ((fun K => He.ga K "set_in") K)) = true := (T.fund 60).elim fun _ F => F.kp
theorem Tx.kp_are_days (T : Tx K mg) : PySem.W.keepIn K (.ref ((fun K => He.ga K "are_days") K)) = true := T.kp 61 (st := s_are_days) rfl
theorem Tx.kp_is_row (T : Tx K mg) : PySem.W.keepIn K (.ref ((fun K => He.ga K "is_row") K)) = true := T.kp 62 (st := s_is_row) rfl
theorem Tx.kp_is_between (T : Tx K mg) : PySem.W.keepIn K (.ref ((fun K => He.ga K "is_between") K)) = true := T.kp 63 (st := s_is_between) rfl
theorem Tx.kp_are_years (T : Tx K mg) : PySem.W.keepIn K (.ref ((fun K => He.ga K "are_years") K)) = true := T.kp 64 (st := s_are_years) rfl
theorem Tx.kp_are_weekdays (T : Tx K mg) : PySem.W.keepIn K (.ref ((fun K => He.ga K "are_weekdays") K)) = true := T.kp 65 (st := s_are_weekdays) rfl
theorem Tx.kp_are_holidays (T : Tx K mg) : PySem.W.keepIn K (.ref ((fun K => He.ga K "are_holidays") K)) = true := T.kp 66 (st := s_are_holidays) rfl
theorem Tx.kp_month_starts (T : Tx K mg) : PySem.W.keepIn K (.ref ((fun K => He.ga K "month_starts") K)) = true := T.kp 67 (st := s_month_starts) rfl
theorem Tx.kp_month_at (T : Tx K mg) : PySem.W.keepIn K (.ref ((fun K => He.ga K "month_at") K)) = true := T.kp 68 (st := s_month_at) rfl
theorem Tx.kp__law_pen (T : Tx K mg) : PySem.W.keepIn K (.ref ((fun K => He.ga K "_law_pen") K)) = true := T.kp 69 (st := s__law_pen) rfl
theorem Tx.kp__law_draw (T : Tx K mg) : PySem.W.keepIn K (.ref ((fun K => He.ga K "_law_draw") K)) = true := T.kp 70 (st := s__law_draw) rfl
theorem Tx.kp__law_pick (T : Tx K mg) : PySem.W.keepIn K (.ref ((fun K => He.ga K "_law_pick") K)) = true := T.kp 71 (st := s__law_pick) rfl
theorem Tx.kp__law_shuffled (T : Tx K mg) : PySem.W.keepIn K (.ref ((fun K => He.ga K "_law_shuffled") K)) = true := T.kp 72 (st := s__law_shuffled) rfl
theorem Tx.kp__law_far (T : Tx K mg) : PySem.W.keepIn K (.ref ((fun K => He.ga K "_law_far") K)) = true := T.kp 73 (st := s__law_far) rfl
theorem Tx.kp__law_gcd (T : Tx K mg) : PySem.W.keepIn K (.ref ((fun K => He.ga K "_law_gcd") K)) = true := T.kp 74 (st := s__law_gcd) rfl
theorem Tx.kp__law_multiple (T : Tx K mg) : PySem.W.keepIn K (.ref ((fun K => He.ga K "_law_multiple") K)) = true := T.kp 75 (st := s__law_multiple) rfl
theorem Tx.kp__law_least (T : Tx K mg) : PySem.W.keepIn K (.ref ((fun K => He.ga K "_law_least") K)) = true := T.kp 76 (st := s__law_least) rfl
theorem Tx.kp__law_members (T : Tx K mg) : PySem.W.keepIn K (.ref ((fun K => He.ga K "_law_members") K)) = true := T.kp 77 (st := s__law_members) rfl
theorem Tx.kp__law_is (T : Tx K mg) : PySem.W.keepIn K (.ref ((fun K => He.ga K "_law_is") K)) = true := T.kp 78 (st := s__law_is) rfl
theorem Tx.kp__law_calendar (T : Tx K mg) : PySem.W.keepIn K (.ref ((fun K => He.ga K "_law_calendar") K)) = true := T.kp 79 (st := s__law_calendar) rfl
theorem Tx.kp__law_cycle (T : Tx K mg) : PySem.W.keepIn K (.ref ((fun K => He.ga K "_law_cycle") K)) = true := T.kp 80 (st := s__law_cycle) rfl
theorem Tx.kp__law_place (T : Tx K mg) : PySem.W.keepIn K (.ref ((fun K => He.ga K "_law_place") K)) = true := T.kp 81 (st := s__law_place) rfl
theorem Tx.kp__law_weekday (T : Tx K mg) : PySem.W.keepIn K (.ref ((fun K => He.ga K "_law_weekday") K)) = true := T.kp 82 (st := s__law_weekday) rfl
theorem Tx.kp__law_is_rest (T : Tx K mg) : PySem.W.keepIn K (.ref ((fun K => He.ga K "_law_is_rest") K)) = true := T.kp 83 (st := s__law_is_rest) rfl
theorem Tx.kp__law_opened (T : Tx K mg) : PySem.W.keepIn K (.ref ((fun K => He.ga K "_law_opened") K)) = true := T.kp 84 (st := s__law_opened) rfl
theorem Tx.kp__law_nth (T : Tx K mg) : PySem.W.keepIn K (.ref ((fun K => He.ga K "_law_nth") K)) = true := T.kp 85 (st := s__law_nth) rfl
theorem Tx.kp__law_leaf (T : Tx K mg) : PySem.W.keepIn K (.ref ((fun K => He.ga K "_law_leaf") K)) = true := T.kp 86 (st := s__law_leaf) rfl
theorem Tx.kp__law_tree (T : Tx K mg) : PySem.W.keepIn K (.ref ((fun K => He.ga K "_law_tree") K)) = true := T.kp 87 (st := s__law_tree) rfl
theorem Tx.kp__law_words (T : Tx K mg) : PySem.W.keepIn K (.ref ((fun K => He.ga K "_law_words") K)) = true := T.kp 88 (st := s__law_words) rfl
theorem Tx.kp__law_plain_holds (T : Tx K mg) : PySem.W.keepIn K (.ref ((fun K => He.ga K "_law_plain_holds") K)) = true := T.kp 89 (st := s__law_plain_holds) rfl
theorem Tx.kp__law_holds (T : Tx K mg) : PySem.W.keepIn K (.ref ((fun K => He.ga K "_law_holds") K)) = true := T.kp 90 (st := s__law_holds) rfl
theorem Tx.kp__law_wide (T : Tx K mg) : PySem.W.keepIn K (.ref ((fun K => He.ga K "_law_wide") K)) = true := T.kp 91 (st := s__law_wide) rfl
end
end Lw
section
set_option maxHeartbeats 0
namespace My
open PySem PySem.Spec PyProof.Rows L2
theorem seeG_split {ns : List Str} {n : Nat} {fa : List (Fg → Bool)} {fn : List He5.DefA} {g : Addr → Option Obj} (a b : Nat) (h1 : seeG ns n (fa.take a) (fn.take b) g = dueX (fn.take b)) (h2 : seeG ns n (fa.drop a) (fn.drop b) g = dueX (fn.drop b)) : seeG ns n fa fn g = dueX fn := by
  apply My.two; (focus intro zzI; simp only [↓ My.mkB zzI (by
  clear zzI
  have ea : ∀ f : (Fg → Bool) → Bool, fa.all f = ((fa.take a).all f && (fa.drop a).all f) := fun f => by rw [← List.all_append, List.take_append_drop]
  have en : ∀ f : He5.DefA → Bool, fn.all f = ((fn.take b).all f && (fn.drop b).all f) := fun f => by rw [← List.all_append, List.take_append_drop]
  have em : ∀ {β : Type} (f : He5.DefA → β), fn.map f = (fn.take b).map f ++ (fn.drop b).map f := fun f => by rw [← List.map_append, List.take_append_drop]
  obtain ⟨p1, q1⟩ := Prod.ext_iff.mp h1
  obtain ⟨p2, q2⟩ := Prod.ext_iff.mp h2
  refine Prod.ext ?_ ?_
  · obtain ⟨u1, u2⟩ := Bool.and_eq_true_iff.mp p1
    obtain ⟨v1, v2⟩ := Bool.and_eq_true_iff.mp p2
    exact Bool.and_eq_true_iff.mpr ⟨(ea _).trans (Bool.and_eq_true_iff.mpr ⟨u1, v1⟩), (en _).trans (Bool.and_eq_true_iff.mpr ⟨u2, v2⟩)⟩
  · exact (em _).trans ((congr (congrArg HAppend.hAppend q1) q2).trans (em _).symm)
  )]); intro f; simpa using My.gz f 5 true
theorem pair3 {α β γ : Type} {a a' : α} {b b' : β} {c c' : γ} (h : (a, b) = (a', b')) (k : c = c') : (a, b, c) = (a', b', c') := by
  apply My.two; (focus intro zzI; simp only [↓ My.mkB zzI (by
  clear zzI
  cases h
  cases k
  rfl
  )]); intro f; simpa using My.gz f 5 true
end My
namespace Hd
open PySem PySem.W PySem.Calls PyProof.Rows HandSHeadRun
abbrev R : OpenRow := OpenLaw.row PySem.Challenge.rw_dayrecipes_k52_whole_sets_of_texts
def loose : List PySem.Str := (["_wall", "is_nth", "is_day", "holds_plain", "holds", "InvalidCalendar", "InvalidDate", "InvalidText", "InvalidSet", "InvalidCount", "TooLong", "MAX_PERIOD", "MAX_YEARS", "MAX_MONTHS", "MAX_DAYS", "MAX_WEEK", "MAX_STEPS", "MAX_DEPTH", "is_integer", "is_period"] : List PySem.Str) ++ (["common_divisor", "common_multiple", "common_period", "least_period", "DIGITS", "number_in", "bounded_in", "calendar_text", "week_in", "numbers_in", "rest_in", "holiday_in", "year_in", "read_calendar", "MOST_DIGITS", "MOST", "UNITS", "TO_WEEKDAY", "WORDS", "is_name"] : List PySem.Str) ++ (["Reader", "set_in", "FAR", "are_days", "number_below", "DaySet", "SHORT_PERIOD", "is_row", "is_between", "are_years", "are_weekdays", "are_holidays", "month_starts", "month_at", "Calendar", "_law_pen", "_law_draw", "_law_pick", "_law_shuffled", "_law_far"] : List PySem.Str) ++ (["_law_gcd", "_law_multiple", "_law_least", "_law_members", "_law_is", "_law_calendar", "_law_cycle", "_law_place", "_law_weekday", "_law_is_rest", "_law_opened", "_law_nth", "_law_leaf", "_law_tree", "_law_words", "_law_plain_holds", "_law_holds", "_law_wide"] : List PySem.Str)
def names : List PySem.Str := (["is_nth", "is_day", "holds_plain", "holds", "is_integer", "is_period", "common_divisor", "common_multiple", "common_period", "least_period", "number_in", "bounded_in", "week_in", "numbers_in", "rest_in", "holiday_in", "year_in", "read_calendar", "is_name", "set_in"] : List PySem.Str) ++ (["are_days", "is_row", "is_between", "are_years", "are_weekdays", "are_holidays", "month_starts", "month_at", "_law_pen", "_law_draw", "_law_pick", "_law_shuffled", "_law_far", "_law_gcd", "_law_multiple", "_law_least", "_law_members", "_law_is", "_law_calendar", "_law_cycle"] : List PySem.Str) ++ (["_law_place", "_law_weekday", "_law_is_rest", "_law_opened", "_law_nth", "_law_leaf", "_law_tree", "_law_words", "_law_plain_holds", "_law_holds", "_law_wide", "law", "InvalidCalendar", "InvalidDate", "InvalidText", "InvalidSet", "TooLong", "Reader", "DaySet", "Calendar"] : List PySem.Str)
abbrev hk : Hook := My.hookX names 4 Lw.facts Lw.defs
def ob (s : SharedT) : He.AlD := My.seeG names 4 Lw.facts Lw.defs (HandSHeadRun.getT s)
theorem ob_eq (s : SharedT) : ob s = hk.obs s.abs := My.seeG_eq (HandSHeadRun.getT_eq s)
theorem runL (w : World) : ∀ os : OsState, (endF (stepQ (denQ tabQ) R.prog w) 20000 R.prog w os).map (fun s => (looksF R.prog (boot_heap w.params) s.abs, seenQ (view R.prog [86]) loose (importedModules R.prog.main.body) (fun s => xlAt (view R.prog [86]) [] s && recOk R.toRowW.records s) s.abs)) = some (true, openGood (view R.prog [86]) loose) := by
  intro os
  kernel_rfl
theorem run0 (w : World) : ∀ os : OsState, (endF (stepQ (denQ tabQ) R.prog w) 20000 R.prog w os).map (fun s => My.seeG names 4 (Lw.facts.take (Lw.facts.length / 4)) (Lw.defs.take (Lw.defs.length / 4)) (getT s)) = some (My.dueX (Lw.defs.take (Lw.defs.length / 4))) := by
  intro os
  kernel_rfl
theorem run1 (w : World) : ∀ os : OsState, (endF (stepQ (denQ tabQ) R.prog w) 20000 R.prog w os).map (fun s => My.seeG names 4 ((Lw.facts.drop (Lw.facts.length / 4)).take (Lw.facts.length / 4)) ((Lw.defs.drop (Lw.defs.length / 4)).take (Lw.defs.length / 4)) (getT s)) = some (My.dueX ((Lw.defs.drop (Lw.defs.length / 4)).take (Lw.defs.length / 4))) := by
  intro os
  kernel_rfl
theorem run2 (w : World) : ∀ os : OsState, (endF (stepQ (denQ tabQ) R.prog w) 20000 R.prog w os).map (fun s => My.seeG names 4 (((Lw.facts.drop (Lw.facts.length / 4)).drop (Lw.facts.length / 4)).take (Lw.facts.length / 4)) (((Lw.defs.drop (Lw.defs.length / 4)).drop (Lw.defs.length / 4)).take (Lw.defs.length / 4)) (getT s)) = some (My.dueX (((Lw.defs.drop (Lw.defs.length / 4)).drop (Lw.defs.length / 4)).take (Lw.defs.length / 4))) := by
  intro os
  kernel_rfl
theorem run3 (w : World) : ∀ os : OsState, (endF (stepQ (denQ tabQ) R.prog w) 20000 R.prog w os).map (fun s => My.seeG names 4 (((Lw.facts.drop (Lw.facts.length / 4)).drop (Lw.facts.length / 4)).drop (Lw.facts.length / 4)) (((Lw.defs.drop (Lw.defs.length / 4)).drop (Lw.defs.length / 4)).drop (Lw.defs.length / 4)) (getT s)) = some (My.dueX (((Lw.defs.drop (Lw.defs.length / 4)).drop (Lw.defs.length / 4)).drop (Lw.defs.length / 4))) := by
  intro os
  kernel_rfl
theorem run (w : World) : HandSHeadRun.RunEq R (view R.prog [86]) hk ob 20000 loose w := by
  apply My.two; (focus intro zzI; simp only [↓ My.mkB zzI (by
  clear zzI
  intro os
  obtain ⟨s, e, hL⟩ := Option.map_eq_some_iff.mp (runL w os)
  obtain ⟨s0, e0, h0⟩ := Option.map_eq_some_iff.mp (run0 w os)
  obtain rfl : s = s0 := Option.some.inj (e.symm.trans e0)
  obtain ⟨s1, e1, h1⟩ := Option.map_eq_some_iff.mp (run1 w os)
  obtain rfl : s = s1 := Option.some.inj (e.symm.trans e1)
  obtain ⟨s2, e2, h2⟩ := Option.map_eq_some_iff.mp (run2 w os)
  obtain rfl : s = s2 := Option.some.inj (e.symm.trans e2)
  obtain ⟨s3, e3, h3⟩ := Option.map_eq_some_iff.mp (run3 w os)
  obtain rfl : s = s3 := Option.some.inj (e.symm.trans e3)
  exact Option.map_eq_some_iff.mpr ⟨s, e, My.pair3 hL (My.seeG_split (Lw.facts.length / 4) (Lw.defs.length / 4) h0 (My.seeG_split (Lw.facts.length / 4) (Lw.defs.length / 4) h1 (My.seeG_split (Lw.facts.length / 4) (Lw.defs.length / 4) h2 (h3))))⟩
  )]); intro f; simpa using My.gz f 5 true
end Hd
end
set_option maxHeartbeats 40000000
namespace My
open PySem PySem.Spec PyProof.Rows L2
mutual
/-- v stands in H as d tells -/
inductive DV (H : Hp) : V → PyData → Prop
  | non : DV H .non .none
  | bl (b : Bool) : DV H (.bl b) (.bool b)
  | int (i : Int) : DV H (.int i) (.int i)
  | str (x : Str) : DV H (.str x) (.str x)
  | lst {a : Addr} {xs : List V} {ds : List PyData} : H a = some (.lst xs) → DVs H xs ds → DV H (.ref a) (.list ds)
  | tup {a : Addr} {xs : List V} {ds : List PyData} : H a = some (.tup xs) → DVs H xs ds → DV H (.ref a) (.tuple ds)
  | dct {a : Addr} {kvs : List (Key × V)} {ds : List (PyData × PyData)} : H a = some (.dK kvs) → DVk H kvs ds → DV H (.ref a) (.dict ds)
inductive DVs (H : Hp) : List V → List PyData → Prop
  | nil : DVs H [] []
  | cons {v : V} {vs : List V} {d : PyData} {ds : List PyData} : DV H v d → DVs H vs ds → DVs H (v :: vs) (d :: ds)
inductive DVk (H : Hp) : List (Key × V) → List (PyData × PyData) → Prop
  | nil : DVk H [] []
  | cons {k : Key} {v : V} {vs : List (Key × V)} {d : PyData} {ds : List (PyData × PyData)} : DV H v d → DVk H vs ds → DVk H ((k, v) :: vs) ((kD k, d) :: ds)
end
section
variable {K : Fg} {H H' : Hp}
mutual
theorem DV.same (s : Same H H') : ∀ {v : V} {d : PyData}, DV H v d → DV H' v d
  | _, _, .non => .non
  | _, _, .bl b => .bl b
  | _, _, .int i => .int i
  | _, _, .str x => .str x
  | _, _, .lst h hs => .lst (s _ _ h) (DVs.same s hs)
  | _, _, .tup h hs => .tup (s _ _ h) (DVs.same s hs)
  | _, _, .dct h hs => .dct (s _ _ h) (DVk.same s hs)
theorem DVs.same (s : Same H H') : ∀ {vs : List V} {ds : List PyData}, DVs H vs ds → DVs H' vs ds
  | _, _, .nil => .nil
  | _, _, .cons h hs => .cons (DV.same s h) (DVs.same s hs)
theorem DVk.same (s : Same H H') : ∀ {vs : List (Key × V)} {ds : List (PyData × PyData)}, DVk H vs ds → DVk H' vs ds
  | _, _, .nil => .nil
  | _, _, .cons h hs => .cons (DV.same s h) (DVk.same s hs)
end
/-- the name of the type -/
def tyD : PyData → String
  | .none => "NoneType"
  | .bool _ => "bool"
  | .int _ => "int"
  | .str _ => "str"
  | .list _ => "list"
  | .tuple _ => "tuple"
  | .dict _ => "dict"
theorem DV.ty {v : V} {d : PyData} (h : DV H v d) : TyX K H v (.type (tyD d)) := by
  apply My.two; (focus intro zzI; simp only [↓ My.mkB zzI (by
  clear zzI
  cases h with
  | non => exact .base .non
  | bl b => exact .base (.bl b)
  | int i => exact .base (.int i)
  | str x => exact .base (.str x)
  | lst h _ => exact .base (.lst h)
  | tup h _ => exact .base (.tup h)
  | dct h _ => exact .base (.dK h)
  )]); intro f; simpa using My.gz f 5 true
theorem DVs.len : ∀ {vs : List V} {ds : List PyData}, DVs H vs ds → vs.length = ds.length
  | _, _, .nil => rfl
  | _, _, .cons _ hs => congrArg (· + 1) hs.len
theorem DVs.at : ∀ {vs : List V} {ds : List PyData} {i : Nat} {v : V}, DVs H vs ds → vs[i]? = some v → ∃ d, ds[i]? = some d ∧ DV H v d
  | _, _, 0, _, .cons h _, e => ⟨_, rfl, Option.some.inj e ▸ h⟩
  | _, _, _ + 1, _, .cons _ hs, e => hs.at e
  | _, _, _, _, .nil, e => nomatch e
theorem DVs.ints {is : List Int} : DVs H (is.map V.int) (is.map PyData.int) := by
  apply My.two; (focus intro zzI; simp only [↓ My.mkB zzI (by
  clear zzI
  induction is with
  | nil => exact .nil
  | cons i is ih => exact .cons (.int i) ih
  )]); intro f; simpa using My.gz f 5 true
/-- an atom: nothing stands within -/
def atomD : PyData → Bool
  | .none => true
  | .bool _ => true
  | .int _ => true
  | .str x => SeqAt.shaped (.str x)
  | _ => false
theorem atom_shape {d : PyData} (h : atomD d = true) : d.canLay0 = true ∧ d.depth ≤ 0 := by
  apply My.two; (focus intro zzI; simp only [↓ My.mkB zzI (by
  clear zzI
  cases d with
  | none => exact ⟨by simp [PyData.canLay0], by simp [PyData.depth]⟩
  | bool b => exact ⟨by simp [PyData.canLay0], by simp [PyData.depth]⟩
  | int i => exact ⟨by simp [PyData.canLay0], by simp [PyData.depth]⟩
  | str x => exact ⟨SeqAt.canLay_of_shaped h, by simp [PyData.depth]⟩
  | _ => cases h
  )]); intro f; simpa using My.gz f 5 true
theorem DV.dp {v : V} {d : PyData} (h : DV H v d) (z : atomD d = true) : Dp K H v d := by
  apply My.two; (focus intro zzI; simp only [↓ My.mkB zzI (by
  clear zzI
  cases h with
  | non => exact .non
  | bl b => exact .bl b
  | int i => exact .int i
  | str x => exact .str x
  | _ => cases z
  )]); intro f; simpa using My.gz f 5 true
theorem DVs.dp : ∀ {vs : List V} {ds : List PyData}, DVs H vs ds → ds.all atomD = true → DpAll K H vs ds
  | _, _, .nil, _ => .nil
  | _, _, .cons h hs, z => by
    rw [List.all_cons, Bool.and_eq_true] at z
    exact .cons (h.dp z.1) (hs.dp z.2)
theorem atoms_lay : ∀ {ds : List PyData}, ds.all atomD = true → PyData.canLayAll0 ds = true ∧ PyData.depthAll ds ≤ 1
  | [], _ => ⟨by simp [PyData.canLayAll0], by simp [PyData.depthAll]⟩
  | d :: ds, z => by
    apply My.two; (focus intro zzI; simp only [↓ My.mkB zzI (by
    clear zzI
    rw [List.all_cons, Bool.and_eq_true] at z
    obtain ⟨h1, h2⟩ := atoms_lay z.2
    obtain ⟨h3, h4⟩ := atom_shape z.1
    refine ⟨by simp [PyData.canLayAll0, h1, h3], ?_⟩
    rw [PyData.depthAll]
    omega
    )]); intro f; simpa using My.gz f 5 true
theorem atoms_shaped {ds : List PyData} (z : ds.all atomD = true) : SeqAt.shaped (.list ds) = true := by
  apply My.two; (focus intro zzI; simp only [↓ My.mkB zzI (by
  clear zzI
  obtain ⟨h1, h2⟩ := atoms_lay z
  unfold SeqAt.shaped
  rw [PyData.canLay0, h1, PyData.depth]
  exact decide_eq_true (by omega)
  )]); intro f; simpa using My.gz f 5 true
theorem eqv_none {ds : List PyData} : PyData.eqv (.list ds) (.list []) = ds.isEmpty := by
  cases ds <;> simp [PyData.eqv, PyData.eqvAll]
theorem int_text {i : Int} {B : Nat} (hB : B ≤ 500) (h : i.natAbs < 10 ^ B) : SeqAt.shaped (.str (toString i)) = true ∧ (reprText (toString i)).length ≤ 10 * (B + 1) + 2 := by
  apply My.two; (focus intro zzI; simp only [↓ My.mkB zzI (by
  clear zzI
  have hs := PySem.PyData.shown_int i
  have f : ∀ c ∈ ((toString i : Str)).cps.toList, c < 256 := fun c hc => by
    have := sg_int_fig i c (by unfold sg; rw [hs]; exact hc)
    rcases this with rfl | h
    · decide
    · omega
  have ln := (Fit.ok hB (Fit.int h)).1
  rw [hs] at ln
  refine ⟨?_, ?_⟩
  · unfold SeqAt.shaped
    rw [PyData.canLay0, PyData.depth]
    have z : PyData.strOk (toString i : Str) = true := by
      unfold PyData.strOk
      rw [Array.all_eq_true_iff_forall_mem]
      intro c hc
      have := f c (Array.mem_toList_iff.mpr hc)
      exact decide_eq_true (by omega)
    rw [z]
    rfl
  · exact Nat.le_trans (StrLaws.reprText_len _ fun c hc => Nat.lt_trans (f c hc) (by decide)) (by omega)
  )]); intro f; simpa using My.gz f 5 true
end
end My
namespace My
open PySem PySem.Spec PyProof.Rows L2
end My
namespace My
open PySem PySem.Spec PyProof.Rows L2
section
variable {K : Fg} {H H' : Hp}
theorem DVs.get : ∀ {xs : List V} {ds : List PyData} {i : Nat} {v : V}, DVs H xs ds → xs[i]? = some v → DV H v (ds.getD i .none)
  | _, _, 0, _, .cons h _, e => by
    rw [← Option.some.inj e]
    exact h
  | _, _, i + 1, _, .cons _ hs, e => hs.get (i := i) e
  | _, _, _, _, .nil, e => nomatch e
def PrAt (H : Hp) (ps : List Addr) (kvs : List (Key × V)) : Prop := Paired (fun p kv => H p = some (.tup [kV kv.1, kv.2])) ps kvs
theorem paired_imp {α β : Type} {F G : α → β → Prop} (f : ∀ a b, F a b → G a b) : ∀ {as : List α} {bs : List β}, Paired F as bs → Paired G as bs
  | _, _, .nil => .nil
  | _, _, .cons h t => .cons (f _ _ h) (paired_imp f t)
theorem PrAt.same {ps : List Addr} {kvs : List (Key × V)} (s : Same H H') (h : PrAt H ps kvs) : PrAt H' ps kvs := paired_imp (fun _ _ e => s _ _ e) h
theorem PrAt.upd {ps : List Addr} {kvs : List (Key × V)} {D : Addr} {xs : List V} {o : HO} (hD : H D = some (.lst xs)) (h : PrAt H ps kvs) : PrAt (L2.upd H D o) ps kvs := paired_imp (fun p _ e => by
  rw [upd_ne fun z : p = D => by rw [z, hD] at e; cases e]
  exact e) h
theorem PrAt.sq {ps : List Addr} {kvs : List (Key × V)} (h : PrAt H ps kvs) : Paired (fun p kv => SqT K H p [kV kv.1, kv.2]) ps kvs := paired_imp (fun _ _ e => SqT.of e) h
def KVg (kvs : List (Key × V)) : Prop := ∀ kv ∈ kvs, ∃ i : Int, i.natAbs ≤ 100 ∧ kv = ((Sum.inl i : Key), V.int 1)
theorem KVg.put {kvs : List (Key × V)} {i : Int} (h : KVg kvs) (hi : i.natAbs ≤ 100) : KVg (putK kvs (Sum.inl i) (.int 1)) := by
  apply My.two; (focus intro zzI; simp only [↓ My.mkB zzI (by
  clear zzI
  unfold putK
  split
  · intro kv hk
    obtain ⟨kv', h1, rfl⟩ := List.mem_map.mp hk
    obtain ⟨j, hj, rfl⟩ := h kv' h1
    dsimp only
    split
    · exact ⟨j, hj, rfl⟩
    · exact ⟨j, hj, rfl⟩
  · intro kv hk
    rcases List.mem_append.mp hk with hk | hk
    · exact h kv hk
    · exact ⟨i, hi, List.mem_singleton.mp hk⟩
  )]); intro f; simpa using My.gz f 5 true
end
end My
namespace My
open PySem PySem.Spec PyProof.Rows L2
end My
namespace My
open PySem PySem.Spec PyProof.Rows L2
section
variable {H H' : Hp}
mutual
theorem DV.ext (e : LamX.ExtN H H') : ∀ {v : V} {d : PyData}, DV H v d → DV H' v d
  | _, _, .non => .non
  | _, _, .bl b => .bl b
  | _, _, .int i => .int i
  | _, _, .str x => .str x
  | _, _, .lst h hs => .lst (e _ _ h (fun _ z => by cases z)) (DVs.ext e hs)
  | _, _, .tup h hs => .tup (e _ _ h (fun _ z => by cases z)) (DVs.ext e hs)
  | _, _, .dct h hs => .dct (e _ _ h (fun _ z => by cases z)) (DVk.ext e hs)
theorem DVs.ext (e : LamX.ExtN H H') : ∀ {vs : List V} {ds : List PyData}, DVs H vs ds → DVs H' vs ds
  | _, _, .nil => .nil
  | _, _, .cons h hs => .cons (DV.ext e h) (DVs.ext e hs)
theorem DVk.ext (e : LamX.ExtN H H') : ∀ {vs : List (Key × V)} {ds : List (PyData × PyData)}, DVk H vs ds → DVk H' vs ds
  | _, _, .nil => .nil
  | _, _, .cons h hs => .cons (DV.ext e h) (DVk.ext e hs)
end
end
end My
namespace My
open PySem PySem.Spec PyProof.Rows L2
end My
namespace My
open PySem PySem.Spec PyProof.Rows L2
end My
namespace My
/-- the days of the first k months -/
def pre (ls : List Nat) (k : Nat) : Nat := (ls.take k).sum
section
variable {ls : List Nat}
theorem pre_zero : pre ls 0 = 0 := rfl
theorem pre_cons {l k : Nat} : pre (l :: ls) (k + 1) = l + pre ls k := by
  unfold pre
  rw [List.take_succ_cons, List.sum_cons]
theorem pre_succ : ∀ {ls : List Nat} {k : Nat}, k < ls.length → pre ls (k + 1) = pre ls k + ls.getD k 0
  | [], _, h => absurd h (Nat.not_lt_zero _)
  | l :: ls, 0, _ => by
    apply My.two; (focus intro zzI; simp only [↓ My.mkB zzI (by
    clear zzI
    rw [pre_cons, pre_zero, pre_zero]
    show l + 0 = 0 + l
    omega
    )]); intro f; simpa using My.gz f 5 true
  | l :: ls, k + 1, h => by
    rw [pre_cons, pre_cons, pre_succ (Nat.lt_of_succ_lt_succ h), List.getD_cons_succ, Nat.add_assoc]
theorem pre_all : pre ls ls.length = ls.sum := by
  unfold pre
  rw [List.take_length]
theorem getD_mem {k : Nat} (h : k < ls.length) : ls.getD k 0 ∈ ls := by
  rw [List.getD_eq_getElem?_getD, List.getElem?_eq_getElem h]
  exact List.getElem_mem h
theorem pre_step (pos : ∀ l ∈ ls, 0 < l) {k : Nat} (h : k < ls.length) : pre ls k < pre ls (k + 1) := by
  apply My.two; (focus intro zzI; simp only [↓ My.mkB zzI (by
  clear zzI
  rw [pre_succ h]
  have := pos _ (getD_mem h)
  omega
  )]); intro f; simpa using My.gz f 5 true
theorem pre_lt (pos : ∀ l ∈ ls, 0 < l) {i : Nat} : ∀ {j : Nat}, i < j → j ≤ ls.length → pre ls i < pre ls j
  | 0, h, _ => absurd h (Nat.not_lt_zero _)
  | j + 1, h, hj => by
    apply My.two; (focus intro zzI; simp only [↓ My.mkB zzI (by
    clear zzI
    have := pre_step pos (k := j) hj
    rcases Nat.lt_or_ge i j with c | c
    · exact Nat.lt_trans (pre_lt pos c (by omega)) this
    · obtain rfl : i = j := by omega
      exact this
    )]); intro f; simpa using My.gz f 5 true
theorem pre_le (pos : ∀ l ∈ ls, 0 < l) {i j : Nat} (h : i ≤ j) (hj : j ≤ ls.length) : pre ls i ≤ pre ls j := by
  apply My.two; (focus intro zzI; simp only [↓ My.mkB zzI (by
  clear zzI
  rcases Nat.lt_or_ge i j with c | c
  · exact Nat.le_of_lt (pre_lt pos c hj)
  · obtain rfl : i = j := by omega
    exact Nat.le_refl _
  )]); intro f; simpa using My.gz f 5 true
/-- the place of the month with a day of the cycle -/
def loc : List Nat → Nat → Nat
  | [], _ => 0
  | l :: ls, d => if d < l then 0 else loc ls (d - l) + 1
theorem loc_lt : ∀ {ls : List Nat} {d : Nat}, d < ls.sum → loc ls d < ls.length
  | [], _, h => absurd h (Nat.not_lt_zero _)
  | l :: ls, d, h => by
    apply My.two; (focus intro zzI; simp only [↓ My.mkB zzI (by
    clear zzI
    unfold loc
    rw [List.sum_cons] at h
    split
    · exact Nat.succ_pos _
    · exact Nat.succ_lt_succ (loc_lt (by omega))
    )]); intro f; simpa using My.gz f 5 true
theorem loc_lo : ∀ {ls : List Nat} {d : Nat}, pre ls (loc ls d) ≤ d
  | [], _ => Nat.zero_le _
  | l :: ls, d => by
    apply My.two; (focus intro zzI; simp only [↓ My.mkB zzI (by
    clear zzI
    unfold loc
    split
    · exact Nat.zero_le _
    · rw [pre_cons]
      have := loc_lo (ls := ls) (d := d - l)
      omega
    )]); intro f; simpa using My.gz f 5 true
theorem loc_hi : ∀ {ls : List Nat} {d : Nat}, d < ls.sum → d < pre ls (loc ls d + 1)
  | [], _, h => absurd h (Nat.not_lt_zero _)
  | l :: ls, d, h => by
    apply My.two; (focus intro zzI; simp only [↓ My.mkB zzI (by
    clear zzI
    unfold loc
    rw [List.sum_cons] at h
    rw [pre_cons]
    split
    · omega
    · have := loc_hi (ls := ls) (d := d - l) (by omega)
      omega
    )]); intro f; simpa using My.gz f 5 true
theorem loc_uniq (pos : ∀ l ∈ ls, 0 < l) {d k : Nat} (hk : k < ls.length) (h1 : pre ls k ≤ d) (h2 : d < pre ls (k + 1)) : k = loc ls d := by
  apply My.two; (focus intro zzI; simp only [↓ My.mkB zzI (by
  clear zzI
  have hd : d < ls.sum := by
    have := pre_le pos (show k + 1 ≤ ls.length from hk) (Nat.le_refl _)
    rw [pre_all] at this
    omega
  have a := loc_lt hd
  have b := loc_lo (ls := ls) (d := d)
  have c := loc_hi hd
  rcases Nat.lt_trichotomy k (loc ls d) with z | z | z
  · have := pre_le pos (show k + 1 ≤ loc ls d from z) (Nat.le_of_lt a)
    omega
  · exact z
  · have := pre_le pos (show loc ls d + 1 ≤ k from z) (Nat.le_of_lt hk)
    omega
  )]); intro f; simpa using My.gz f 5 true
/-- the first day of a month, by its number -/
def ms (ls : List Nat) (m : Int) : Int := m / (ls.length : Int) * (ls.sum : Int) + (pre ls (m % (ls.length : Int)).toNat : Int)
/-- the length of a month, by its number -/
def ml (ls : List Nat) (m : Int) : Int := ((ls.getD (m % (ls.length : Int)).toNat 0 : Nat) : Int)
/-- the number of the month of a date -/
def mn (ls : List Nat) (d : Int) : Int := d / (ls.sum : Int) * (ls.length : Int) + (loc ls (d % (ls.sum : Int)).toNat : Int)
theorem idiv_at {n q r : Int} (h0 : 0 ≤ r) (h1 : r < n) : (q * n + r) / n = q ∧ (q * n + r) % n = r := by
  apply My.two; (focus intro zzI; simp only [↓ My.mkB zzI (by
  clear zzI
  constructor
  · rw [Int.add_comm, Int.add_mul_ediv_right _ _ (by omega), Int.ediv_eq_zero_of_lt h0 h1, Int.zero_add]
  · rw [Int.add_comm, Int.add_mul_emod_self_right, Int.emod_eq_of_lt h0 h1]
  )]); intro f; simpa using My.gz f 5 true
theorem ms_at {q : Int} {k : Nat} (hk : k < ls.length) : ms ls (q * (ls.length : Int) + (k : Int)) = q * (ls.sum : Int) + (pre ls k : Int) := by
  apply My.two; (focus intro zzI; simp only [↓ My.mkB zzI (by
  clear zzI
  unfold ms
  obtain ⟨e1, e2⟩ := idiv_at (n := (ls.length : Int)) (q := q) (r := (k : Int)) (by omega) (by omega)
  rw [e1, e2, Int.toNat_natCast]
  )]); intro f; simpa using My.gz f 5 true
theorem ml_at {q : Int} {k : Nat} (hk : k < ls.length) : ml ls (q * (ls.length : Int) + (k : Int)) = ((ls.getD k 0 : Nat) : Int) := by
  apply My.two; (focus intro zzI; simp only [↓ My.mkB zzI (by
  clear zzI
  unfold ml
  obtain ⟨e1, e2⟩ := idiv_at (n := (ls.length : Int)) (q := q) (r := (k : Int)) (by omega) (by omega)
  rw [e2, Int.toNat_natCast]
  )]); intro f; simpa using My.gz f 5 true
theorem m_split (ne : 0 < ls.length) (m : Int) : ∃ (q : Int) (k : Nat), k < ls.length ∧ m = q * (ls.length : Int) + (k : Int) := by
  apply My.two; (focus intro zzI; simp only [↓ My.mkB zzI (by
  clear zzI
  refine ⟨m / (ls.length : Int), (m % (ls.length : Int)).toNat, ?_, ?_⟩
  · have := Int.emod_lt_of_pos m (show (0 : Int) < ls.length by omega)
    have := Int.emod_nonneg m (show (ls.length : Int) ≠ 0 by omega)
    omega
  · have := Int.emod_nonneg m (show (ls.length : Int) ≠ 0 by omega)
    rw [Int.toNat_of_nonneg this]
    have := Int.mul_ediv_add_emod m (ls.length : Int)
    rw [Int.mul_comm] at this
    omega
  )]); intro f; simpa using My.gz f 5 true
theorem ms_succ (ne : 0 < ls.length) (m : Int) : ms ls (m + 1) = ms ls m + ml ls m := by
  apply My.two; (focus intro zzI; simp only [↓ My.mkB zzI (by
  clear zzI
  obtain ⟨q, k, hk, rfl⟩ := m_split ne m
  rw [ms_at hk, ml_at hk]
  rcases Nat.lt_or_ge (k + 1) ls.length with c | c
  · rw [show q * (ls.length : Int) + (k : Int) + 1 = q * (ls.length : Int) + ((k + 1 : Nat) : Int) by omega, ms_at c, pre_succ hk]
    omega
  · have e : k + 1 = ls.length := by omega
    have h := pre_succ hk
    rw [e, pre_all] at h
    rw [show q * (ls.length : Int) + (k : Int) + 1 = (q + 1) * (ls.length : Int) + ((0 : Nat) : Int) by rw [Int.add_mul]; omega, ms_at ne, pre_zero, h, Int.add_mul]
    omega
  )]); intro f; simpa using My.gz f 5 true
theorem ml_pos (ne : 0 < ls.length) (pos : ∀ l ∈ ls, 0 < l) (m : Int) : 0 < ml ls m := by
  apply My.two; (focus intro zzI; simp only [↓ My.mkB zzI (by
  clear zzI
  obtain ⟨q, k, hk, rfl⟩ := m_split ne m
  rw [ml_at hk]
  have := pos _ (getD_mem hk)
  omega
  )]); intro f; simpa using My.gz f 5 true
theorem ml_le (ne : 0 < ls.length) {B : Nat} (top : ∀ l ∈ ls, l ≤ B) (m : Int) : ml ls m ≤ (B : Int) := by
  apply My.two; (focus intro zzI; simp only [↓ My.mkB zzI (by
  clear zzI
  obtain ⟨q, k, hk, rfl⟩ := m_split ne m
  rw [ml_at hk]
  have := top _ (getD_mem hk)
  omega
  )]); intro f; simpa using My.gz f 5 true
theorem ms_lt (ne : 0 < ls.length) (pos : ∀ l ∈ ls, 0 < l) {a b : Int} (h : a < b) : ms ls a < ms ls b := by
  apply My.two; (focus intro zzI; simp only [↓ My.mkB zzI (by
  clear zzI
  have step : ∀ n : Nat, ms ls a < ms ls (a + (n : Int) + 1) := fun n => by
    induction n with
    | zero =>
      have := ml_pos ne pos a
      rw [show a + ((0 : Nat) : Int) + 1 = a + 1 by omega, ms_succ ne]
      omega
    | succ n ih =>
      have := ml_pos ne pos (a + (n : Int) + 1)
      rw [show a + ((n + 1 : Nat) : Int) + 1 = a + (n : Int) + 1 + 1 by omega, ms_succ ne]
      omega
  have := step (b - a - 1).toNat
  rw [show a + ((b - a - 1).toNat : Int) + 1 = b by omega] at this
  exact this
  )]); intro f; simpa using My.gz f 5 true
theorem ms_le (ne : 0 < ls.length) (pos : ∀ l ∈ ls, 0 < l) {a b : Int} (h : a ≤ b) : ms ls a ≤ ms ls b := by
  apply My.two; (focus intro zzI; simp only [↓ My.mkB zzI (by
  clear zzI
  rcases Int.lt_or_eq_of_le h with c | rfl
  · exact Int.le_of_lt (ms_lt ne pos c)
  · exact Int.le_refl _
  )]); intro f; simpa using My.gz f 5 true
theorem ms_uniq (ne : 0 < ls.length) (pos : ∀ l ∈ ls, 0 < l) {a b d : Int} (a1 : ms ls a ≤ d) (a2 : d < ms ls (a + 1)) (b1 : ms ls b ≤ d) (b2 : d < ms ls (b + 1)) : a = b := by
  apply My.two; (focus intro zzI; simp only [↓ My.mkB zzI (by
  clear zzI
  rcases Int.lt_trichotomy a b with z | z | z
  · have := ms_le ne pos (show a + 1 ≤ b by omega)
    omega
  · exact z
  · have := ms_le ne pos (show b + 1 ≤ a by omega)
    omega
  )]); intro f; simpa using My.gz f 5 true
theorem sum_pos (ne : 0 < ls.length) (pos : ∀ l ∈ ls, 0 < l) : 0 < ls.sum := by
  apply My.two; (focus intro zzI; simp only [↓ My.mkB zzI (by
  clear zzI
  have := pre_lt pos ne (Nat.le_refl _)
  rw [pre_all, pre_zero] at this
  exact this
  )]); intro f; simpa using My.gz f 5 true
theorem sum_le {B : Nat} (top : ∀ l ∈ ls, l ≤ B) : ls.sum ≤ ls.length * B := by
  apply My.two; (focus intro zzI; simp only [↓ My.mkB zzI (by
  clear zzI
  induction ls with
  | nil => simp
  | cons l ls ih =>
    have h1 := top l (List.mem_cons_self ..)
    have h2 := ih fun x hx => top x (List.mem_cons_of_mem _ hx)
    rw [List.sum_cons, List.length_cons, Nat.add_mul]
    omega
  )]); intro f; simpa using My.gz f 5 true
theorem d_split (s0 : 0 < ls.sum) (d : Int) : ∃ (q : Int) (r : Nat), r < ls.sum ∧ d = q * (ls.sum : Int) + (r : Int) := by
  apply My.two; (focus intro zzI; simp only [↓ My.mkB zzI (by
  clear zzI
  refine ⟨d / (ls.sum : Int), (d % (ls.sum : Int)).toNat, ?_, ?_⟩
  · have := Int.emod_lt_of_pos d (show (0 : Int) < ls.sum by omega)
    have := Int.emod_nonneg d (show (ls.sum : Int) ≠ 0 by omega)
    omega
  · have := Int.emod_nonneg d (show (ls.sum : Int) ≠ 0 by omega)
    rw [Int.toNat_of_nonneg this]
    have := Int.mul_ediv_add_emod d (ls.sum : Int)
    rw [Int.mul_comm] at this
    omega
  )]); intro f; simpa using My.gz f 5 true
theorem mn_at {q : Int} {r : Nat} (hr : r < ls.sum) : mn ls (q * (ls.sum : Int) + (r : Int)) = q * (ls.length : Int) + (loc ls r : Int) := by
  apply My.two; (focus intro zzI; simp only [↓ My.mkB zzI (by
  clear zzI
  unfold mn
  obtain ⟨e1, e2⟩ := idiv_at (n := (ls.sum : Int)) (q := q) (r := (r : Int)) (by omega) (by omega)
  rw [e1, e2, Int.toNat_natCast]
  )]); intro f; simpa using My.gz f 5 true
theorem mn_lo (ne : 0 < ls.length) (pos : ∀ l ∈ ls, 0 < l) (d : Int) : ms ls (mn ls d) ≤ d := by
  apply My.two; (focus intro zzI; simp only [↓ My.mkB zzI (by
  clear zzI
  obtain ⟨q, r, hr, rfl⟩ := d_split (sum_pos ne pos) d
  rw [mn_at hr, ms_at (loc_lt hr)]
  have := loc_lo (ls := ls) (d := r)
  omega
  )]); intro f; simpa using My.gz f 5 true
theorem mn_hi (ne : 0 < ls.length) (pos : ∀ l ∈ ls, 0 < l) (d : Int) : d < ms ls (mn ls d + 1) := by
  apply My.two; (focus intro zzI; simp only [↓ My.mkB zzI (by
  clear zzI
  obtain ⟨q, r, hr, rfl⟩ := d_split (sum_pos ne pos) d
  have a := loc_lt hr
  rw [ms_succ ne, mn_at hr, ms_at a, ml_at a]
  have := loc_hi hr
  rw [pre_succ a] at this
  omega
  )]); intro f; simpa using My.gz f 5 true
theorem mn_of (ne : 0 < ls.length) (pos : ∀ l ∈ ls, 0 < l) {m d : Int} (h1 : ms ls m ≤ d) (h2 : d < ms ls (m + 1)) : mn ls d = m :=
  ms_uniq ne pos (mn_lo ne pos d) (mn_hi ne pos d) h1 h2
theorem ms_add (ne : 0 < ls.length) (m t : Int) : ms ls (m + (ls.length : Int) * t) = ms ls m + (ls.sum : Int) * t := by
  apply My.two; (focus intro zzI; simp only [↓ My.mkB zzI (by
  clear zzI
  obtain ⟨q, k, hk, rfl⟩ := m_split ne m
  rw [show q * (ls.length : Int) + (k : Int) + (ls.length : Int) * t = (q + t) * (ls.length : Int) + (k : Int) by rw [Int.add_mul, Int.mul_comm t]; omega, ms_at hk, ms_at hk, Int.add_mul, Int.mul_comm t]
  omega
  )]); intro f; simpa using My.gz f 5 true
theorem ml_add (ne : 0 < ls.length) (m t : Int) : ml ls (m + (ls.length : Int) * t) = ml ls m := by
  unfold ml
  rw [Int.add_mul_emod_self_left]
theorem mn_add (ne : 0 < ls.length) (pos : ∀ l ∈ ls, 0 < l) (d t : Int) : mn ls (d + (ls.sum : Int) * t) = mn ls d + (ls.length : Int) * t := by
  apply My.two; (focus intro zzI; simp only [↓ My.mkB zzI (by
  clear zzI
  refine mn_of ne pos ?_ ?_
  · rw [ms_add ne]
    have := mn_lo ne pos d
    omega
  · rw [show mn ls d + (ls.length : Int) * t + 1 = mn ls d + 1 + (ls.length : Int) * t by omega, ms_add ne]
    have := mn_hi ne pos d
    omega
  )]); intro f; simpa using My.gz f 5 true
end
end My
namespace My
open PySem PySem.Spec PyProof.Rows L2
def prP (z : Int × Int) : PyData := .tuple [.int z.1, .int z.2]
theorem prP_eqv (z w : Int × Int) : PyData.eqv (prP z) (prP w) = decide (z = w) := by
  apply My.two; (focus intro zzI; simp only [↓ My.mkB zzI (by
  clear zzI
  obtain ⟨a, b⟩ := z
  obtain ⟨c, d⟩ := w
  unfold prP
  by_cases h1 : a = c
  · by_cases h2 : b = d
    · subst h1 h2
      simp [PyData.eqv, PyData.eqvAll]
    · simp [PyData.eqv, PyData.eqvAll, h2]
  · simp [PyData.eqv, PyData.eqvAll, h1]
  )]); intro f; simpa using My.gz f 5 true
theorem prP_any (z : Int × Int) (zs : List (Int × Int)) : ((zs.map prP).any fun y => PyData.eqv y (prP z)) = decide (z ∈ zs) := by
  apply My.two; (focus intro zzI; simp only [↓ My.mkB zzI (by
  clear zzI
  rw [Bool.eq_iff_iff, List.any_eq_true, decide_eq_true_iff]
  constructor
  · rintro ⟨y, hy, e⟩
    obtain ⟨x, hx, rfl⟩ := List.mem_map.mp hy
    rw [prP_eqv, decide_eq_true_iff] at e
    exact e ▸ hx
  · intro h
    exact ⟨prP z, List.mem_map_of_mem h, by rw [prP_eqv]; exact decide_eq_true rfl⟩
  )]); intro f; simpa using My.gz f 5 true
theorem prP_lay (z : Int × Int) : (prP z).canLay0 = true := by simp [prP, PyData.canLay0, PyData.canLayAll0]
theorem prPs_lay : ∀ zs : List (Int × Int), PyData.canLayAll0 (zs.map prP) = true
  | [] => rfl
  | z :: zs => by
    rw [List.map_cons, PyData.canLayAll0, prP_lay, prPs_lay zs]
    rfl
/-- pairs at the addresses -/
def Prs (K : Fg) (H : Hp) (ts : List Addr) (ps : List (Int × Int)) : Prop := Paired (fun t p => SqT K H t [.int p.1, .int p.2]) ts ps
theorem Prs.dp {K : Fg} {H : Hp} : ∀ {ts : List Addr} {ps : List (Int × Int)}, Prs K H ts ps → DpAll K H (ts.map V.ref) (ps.map prP)
  | _, _, .nil => .nil
  | _, _, .cons h t => .cons (Dp.tup h (.cons (.int _) (.cons (.int _) .nil))) (Prs.dp t)
theorem Prs.len {K : Fg} {H : Hp} {ts : List Addr} {ps : List (Int × Int)} (h : Prs K H ts ps) : ts.length = ps.length := Paired.length h
theorem Prs.get {K : Fg} {H : Hp} : ∀ {ts : List Addr} {ps : List (Int × Int)}, Prs K H ts ps → ∀ {i : Nat} {t : Addr} {p : Int × Int}, ts[i]? = some t → ps[i]? = some p → SqT K H t [.int p.1, .int p.2]
  | _, _, .nil, _, _, _, h, _ => by cases h
  | _, _, .cons h _, 0, _, _, e1, e2 => by
    apply My.two; (focus intro zzI; simp only [↓ My.mkB zzI (by
    clear zzI
    cases e1
    cases e2
    exact h
    )]); intro f; simpa using My.gz f 5 true
  | _, _, .cons _ r, i + 1, _, _, e1, e2 => Prs.get r e1 e2
/-- (i, j) in xs, not in xs -/
def rInP (K : Fg) (neg : Bool) : R2 := fun x y H Q => ∃ (t a : Addr) (z : Int × Int) (ts : List Addr) (ps : List (Int × Int)), x = .ref t ∧ y = .ref a ∧ SqT K H t [.int z.1, .int z.2] ∧ (SqL K H a (ts.map V.ref) ∨ SqT K H a (ts.map V.ref)) ∧ Prs K H ts ps ∧
  Q (.bl (if neg then !decide (z ∈ ps) else decide (z ∈ ps))) H
theorem op_inP {X : Cx} (hu : X.A.units + 64 < cLine) : OpR X (compareOp .In) (rInP X.K false) := by
  apply My.two; (focus intro zzI; simp only [↓ My.mkB zzI (by
  clear zzI
  intro pins s σ H x y v u Q I rx ry h
  obtain ⟨t, a, z, ts, ps, rfl, rfl, ht, ha, hp, q⟩ := h
  obtain ⟨as, r1⟩ := Dp.reads I (prP z) _ v (.tup ht (.cons (.int _) (.cons (.int _) .nil))) rx
  have hr : X.A.units + 1 + min (PyData.depthAll (ps.map prP)) (prP z).depth < cLine := by
    have : (prP z).depth = 1 := by simp [prP, PyData.depth, PyData.depthAll]
    omega
  rcases ha with ha | ha
  · obtain ⟨bs, r2⟩ := Dp.reads I (.list (ps.map prP)) _ u (.lst ha hp.dp) ry
    refine SeqAt.in_list_reads r2 r1 (prPs_lay ps) (prP_lay z) hr ⟨.bl _, H, I, rfl, ?_⟩
    rw [prP_any]
    exact q
  · obtain ⟨bs, r2⟩ := Dp.reads I (.tuple (ps.map prP)) _ u (.tup ha hp.dp) ry
    refine SeqAt.in_tuple_reads r2 r1 (prPs_lay ps) (prP_lay z) hr ⟨.bl _, H, I, rfl, ?_⟩
    rw [prP_any]
    exact q
  )]); intro f; simpa using My.gz f 5 true
theorem op_notInP {X : Cx} (hu : X.A.units + 64 < cLine) : OpR X (compareOp .NotIn) (rInP X.K true) := by
  apply My.two; (focus intro zzI; simp only [↓ My.mkB zzI (by
  clear zzI
  intro pins s σ H x y v u Q I rx ry h
  obtain ⟨t, a, z, ts, ps, rfl, rfl, ht, ha, hp, q⟩ := h
  obtain ⟨as, r1⟩ := Dp.reads I (prP z) _ v (.tup ht (.cons (.int _) (.cons (.int _) .nil))) rx
  have hr : X.A.units + 1 + min (PyData.depthAll (ps.map prP)) (prP z).depth < cLine := by
    have : (prP z).depth = 1 := by simp [prP, PyData.depth, PyData.depthAll]
    omega
  rcases ha with ha | ha
  · obtain ⟨bs, r2⟩ := Dp.reads I (.list (ps.map prP)) _ u (.lst ha hp.dp) ry
    refine SeqAt.notIn_list_reads r2 r1 (prPs_lay ps) (prP_lay z) hr ⟨.bl _, H, I, rfl, ?_⟩
    rw [prP_any]
    exact q
  · obtain ⟨bs, r2⟩ := Dp.reads I (.tuple (ps.map prP)) _ u (.tup ha hp.dp) ry
    refine SeqAt.notIn_tuple_reads r2 r1 (prPs_lay ps) (prP_lay z) hr ⟨.bl _, H, I, rfl, ?_⟩
    rw [prP_any]
    exact q
  )]); intro f; simpa using My.gz f 5 true
section
variable {P : Program} {w : World} {A : Around} {E : Value → Shared → Prop} {s : Shared}
/-- sorted of a list or tuple: its items into a new list, sorted there -/
theorem sorted_seq {l : Addr} {T : String} {o : Obj} {vs : List Value} {n : Nat} {Q : Value → Shared → Prop} (hT : T = "list" ∨ T = "tuple") (ho : s.heap.get? l = some o) (hc : o.cls = .type T) (hd : o.data = .seq vs.toArray n) (hz : vs.length < 64)
    (k : ∀ g : Heap, (∀ b u, s.heap.get? b = some u → g.get? b = some u) → ∀ (B : Around),
      wpAny (model P w) B (Builtin.«list.sort» ⟨[.ref g.objs.size], []⟩) (fun f s' => f = .done (.ret .none) ∧ Q (.ref g.objs.size) s') E { s with heap := g.push (seqObj "list" vs.toArray 0) }) :
    wpAny (model P w) A (call (.builtin "sorted") [.ref l]) Q E s := by
  apply My.two; (focus intro zzI; simp only [↓ My.mkB zzI (by
  clear zzI
  refine Calls.call_function_entry kind_sorted plain_sorted entry_sorted (args_sorted1 _) ?_
  unfold Builtin.«sorted»
  refine wpAny_bind (m := checkCount "sorted" 1 1 _) (wpAny_pure ?_)
  refine wpAny_bind (wpAny_collect_seq l hT ho hc hd (fun g k1 => ?_) (by rw [List.size_toArray, sizeLine_eq]; omega))
  refine wpAny_bind (wpAny_newList ?_ (by rw [show vs.toArray.toList = vs from rfl, sizeLine_eq]; omega))
  show wpAny _ _ _ _ _ { s with heap := g.push (seqObj "list" vs.toArray 0) }
  have hoL : (g.push (seqObj "list" vs.toArray 0)).get? g.objs.size = some (seqObj "list" vs.toArray 0) := Heap.get?_push_size _ rfl
  refine wpAny_bind (wpAny_holding (wpAny_call_entry slot_list_sort ⟨_, hoL, rfl⟩ entry_list_sort (wpAny_mono (k g k1 _) (fun f s' h => ?_) fun _ _ h => h) (args_list_sort _)))
  obtain ⟨rfl, q⟩ := h
  exact ⟨_, rfl, wpAny_pure ⟨_, rfl, q⟩⟩
  )]); intro f; simpa using My.gz f 5 true
end
theorem sortedHeap_kept {g g' : Heap} {vs : List Value} {out : Array Value} (k : ∀ b u, g.get? b = some u → g'.get? b = some u) {b : Addr} {u : Obj} (e : g.get? b = some u) :
    (sortedHeap (g'.push (seqObj "list" vs.toArray 0)) g'.objs.size vs out).get? b = some u := by
  apply My.two; (focus intro zzI; simp only [↓ My.mkB zzI (by
  clear zzI
  have hlt := Heap.lt_size (k b u e)
  rw [sortedHeap_old (Nat.ne_of_lt hlt) (by rw [size_push']; exact Nat.lt_succ_of_lt hlt)]
  exact Heap.get?_push_of_some _ (k b u e)
  )]); intro f; simpa using My.gz f 5 true
/-- sorted(xs) of ints -/
def rSortQ (K : Fg) : List V → Hp → VK → Prop := fun vs H Q => ∃ (a : Addr) (ns : List Int), vs = [.ref a] ∧ (SqL K H a (ns.map V.int) ∨ SqT K H a (ns.map V.int)) ∧ ns.length < 64 ∧
  ∀ (ns' : List Int) (p : Addr), ns'.Perm ns → ns'.Pairwise (· ≤ ·) → H p = none → Q (.ref p) (upd H p (.lst (ns'.map V.int)))
theorem seq_raw {X : Cx} {pins : List (Addr × Obj)} {σ : L2.St} {H : Hp} {s : Shared} {a : Addr} {xs : List V} (I : Inv X pins σ H s) (h : SqL X.K H a xs ∨ SqT X.K H a xs) :
    ∃ (T : String) (o : Obj) (vs : List Value) (n : Nat), (T = "list" ∨ T = "tuple") ∧ s.heap.get? a = some o ∧ o.cls = .type T ∧ o.data = .seq vs.toArray n ∧ Vals xs vs := by
  apply My.two; (focus intro zzI; simp only [↓ My.mkB zzI (by
  clear zzI
  rcases h with h | h
  · obtain ⟨its, rv, pl, hz⟩ := I.list h
    obtain ⟨o, ho, hc, n, hd⟩ := pl.isList
    exact ⟨"list", o, its, n, .inl rfl, ho, hc, hd, rv⟩
  · obtain ⟨its, rv, pl, hz⟩ := I.tuple h
    obtain ⟨o, ho, hc, n, hd⟩ := pl
    exact ⟨"tuple", o, its, n, .inr rfl, ho, hc, hd, rv⟩
  )]); intro f; simpa using My.gz f 5 true
theorem none_at {s : Heap} {g : Heap} (k : ∀ b u, s.get? b = some u → g.get? b = some u) : s.get? g.objs.size = none := by
  apply My.two; (focus intro zzI; simp only [↓ My.mkB zzI (by
  clear zzI
  cases q : s.get? g.objs.size with
  | none => rfl
  | some u => exact absurd (Heap.lt_size (k _ _ q)) (Nat.lt_irrefl _)
  )]); intro f; simpa using My.gz f 5 true
theorem vals_ints {vs : List Value} {ns : List Int} (h : IntsAre vs ns) : Vals (ns.map V.int) vs := by
  apply My.two; (focus intro zzI; simp only [↓ My.mkB zzI (by
  clear zzI
  induction h with
  | nil => exact .nil
  | cons k t _ ih => exact .cons ⟨t, rfl⟩ ih
  )]); intro f; simpa using My.gz f 5 true
theorem cr_sortQ {X : Cx} : CallR X (.builtin "sorted") (rSortQ X.K) := by
  apply My.two; (focus intro zzI; simp only [↓ My.mkB zzI (by
  clear zzI
  intro pins s σ H vs us Q I r h
  obtain ⟨a, ns, rfl, hs, hl, q⟩ := h
  rw [Vals.ref1 r]
  obtain ⟨T, o, its, n, hT, ho, hc, hd, rv⟩ := seq_raw I hs
  have il : its.length = ns.length := by rw [← rv.length, List.length_map]
  refine sorted_seq hT ho hc hd (by omega) fun g kg B => ?_
  refine list_sort_tree (Heap.get?_push_size _ rfl) rv.ints (by omega) fun out ns' h1 h2 h3 => ⟨rfl, ?_⟩
  have nn : H g.objs.size = none := (I.hok.kept kg).fresh (Nat.le_refl _)
  obtain ⟨ep, he⟩ := sortedHeap_at (h := g.push (seqObj "list" its.toArray 0)) (a := g.objs.size) (out := out) (Heap.get?_push_size _ rfl)
  exact ⟨.ref _, upd H g.objs.size (.lst (ns'.map V.int)), I.laidN (t' := s.toks) (fun b u e => sortedHeap_kept kg e) (none_at kg) nn ⟨by rw [List.length_map, h2.length_eq, sizeLine_eq]; omega, out.toList, ep, vals_ints h1, he⟩, rfl, q _ _ h2 h3 nn⟩
  )]); intro f; simpa using My.gz f 5 true
/-- sorted(xs) of pairs -/
def rSortPQ (K : Fg) : List V → Hp → VK → Prop := fun vs H Q => ∃ (a : Addr) (ts : List Addr) (ps : List (Int × Int)), vs = [.ref a] ∧ (SqL K H a (ts.map V.ref) ∨ SqT K H a (ts.map V.ref)) ∧ Prs K H ts ps ∧ ps.length < 64 ∧ (∀ p ∈ ps, 0 ≤ p.1 ∧ p.1 < 64 ∧ 0 ≤ p.2 ∧ p.2 < 64) ∧
  ∀ (ts' : List Addr) (f : Addr → Int × Int) (p : Addr), ps = ts.map f → ts'.Perm ts → (ts'.map f).Pairwise (fun x y => x.1 * 64 + x.2 ≤ y.1 * 64 + y.2) → H p = none → Q (.ref p) (upd H p (.lst (ts'.map V.ref)))
theorem Prs.of {K : Fg} {H : Hp} {f : Addr → Int × Int} : ∀ {ts : List Addr}, (∀ t ∈ ts, SqT K H t [.int (f t).1, .int (f t).2]) → Prs K H ts (ts.map f)
  | [], _ => .nil
  | t :: ts, h => .cons (h t (List.mem_cons_self ..)) (Prs.of fun x hx => h x (List.mem_cons_of_mem _ hx))
theorem Prs.eq {K : Fg} {H : Hp} {f : Addr → Int × Int} (hf : ∀ t p, SqT K H t [.int p.1, .int p.2] → f t = p) : ∀ {ts : List Addr} {ps : List (Int × Int)}, Prs K H ts ps → ps = ts.map f
  | _, _, .nil => rfl
  | _, _, .cons h t => by rw [List.map_cons, hf _ _ h, ← Prs.eq hf t]
theorem Prs.mem {K : Fg} {H : Hp} : ∀ {ts : List Addr} {ps : List (Int × Int)}, Prs K H ts ps → ∀ t ∈ ts, ∃ p ∈ ps, SqT K H t [.int p.1, .int p.2]
  | _, _, .nil, t, h => by cases h
  | _, _, .cons h r, t, ht => by
    apply My.two; (focus intro zzI; simp only [↓ My.mkB zzI (by
    clear zzI
    rcases List.mem_cons.mp ht with rfl | ht
    · exact ⟨_, List.mem_cons_self .., h⟩
    · obtain ⟨p, hp, e⟩ := Prs.mem r t ht
      exact ⟨p, List.mem_cons_of_mem _ hp, e⟩
    )]); intro f; simpa using My.gz f 5 true
def twoOf : List Int → Int × Int
  | [i, j] => (i, j)
  | _ => (0, 0)
theorem cr_sortPQ {X : Cx} : CallR X (.builtin "sorted") (rSortPQ X.K) := by
  apply My.two; (focus intro zzI; simp only [↓ My.mkB zzI (by
  clear zzI
  intro pins s σ H vs us Q I r h
  obtain ⟨a, ts, ps, rfl, hs, hps, hl, hb, q⟩ := h
  rw [Vals.ref1 r]
  obtain ⟨T, o, its, n, hT, ho, hc, hd, rv⟩ := seq_raw I hs
  have il : its.length = ps.length := by rw [← rv.length, List.length_map, hps.len]
  have ei : its = ts.map Value.ref := nts_of rv
  have raw : ∀ {t : Addr} {p : Int × Int}, SqT X.K H t [.int p.1, .int p.2] → TS.TupInts s.heap (.ref t) [p.1, p.2] := fun {t p} h => by
    exact tupI_raw I (show SqT X.K H t ([p.1, p.2].map V.int) from h)
  have hf : ∀ t p, SqT X.K H t [.int p.1, .int p.2] → twoOf (TS.intsOf s.heap (.ref t)) = p := fun t p h => by
    rw [(raw h).ints]
    rfl
  refine sorted_seq hT ho hc hd (by omega) fun g kg B => ?_
  have kg2 : ∀ b u, s.heap.get? b = some u → (g.push (seqObj "list" its.toArray 0)).get? b = some u := fun b u e => Heap.get?_push_of_some _ (kg b u e)
  refine TS.sort_tups (d := 2) (B := 64) (Heap.get?_push_size _ rfl) (by omega) (by decide) (fun v hv => ?_) (fun v => TS.code 64 (TS.intsOf s.heap v)) (fun v hv ns hn => ?_) fun out h1 h2 => ⟨rfl, ?_⟩
  · rw [ei] at hv
    obtain ⟨t, ht, rfl⟩ := List.mem_map.mp hv
    obtain ⟨p, hp, e⟩ := hps.mem t ht
    obtain ⟨b1, b2, b3, b4⟩ := hb p hp
    refine ⟨[p.1, p.2], (raw e).keeps fun b u e _ => kg2 b u e, rfl, fun x hx => ?_⟩
    rcases List.mem_cons.mp hx with rfl | hx
    · exact ⟨b1, b2⟩
    · rw [List.mem_singleton.mp hx]
      exact ⟨b3, b4⟩
  · rw [ei] at hv
    obtain ⟨t, ht, rfl⟩ := List.mem_map.mp hv
    obtain ⟨p, hp, e⟩ := hps.mem t ht
    have e1 := hn.ints
    have e2 := ((raw e).keeps fun b u e _ => kg2 b u e).ints
    rw [← e1, e2, (raw e).ints]
  · have nn : H g.objs.size = none := (I.hok.kept kg).fresh (Nat.le_refl _)
    obtain ⟨ep, he⟩ := sortedHeap_at (h := g.push (seqObj "list" its.toArray 0)) (a := g.objs.size) (out := out) (Heap.get?_push_size _ rfl)
    have eo : out.toList = (out.toList.map adO).map Value.ref := ref_map fun u hm => by
      have hm' := h1.mem_iff.mp hm
      rw [ei] at hm'
      obtain ⟨t, _, e⟩ := List.mem_map.mp hm'
      exact ⟨t, e.symm⟩
    have hp : (out.toList.map adO).Perm ts := by
      have p1 := h1.map adO
      rw [ei, ad_map] at p1
      exact p1
    have rvo : Vals ((out.toList.map adO).map V.ref) out.toList := by
      have z := of_nts (out.toList.map adO)
      rw [← eo] at z
      exact z
    have pe : ps = ts.map fun t => twoOf (TS.intsOf s.heap (.ref t)) := hps.eq hf
    refine ⟨.ref _, upd H g.objs.size (.lst ((out.toList.map adO).map V.ref)), I.laidN (t' := s.toks) (fun b u e => sortedHeap_kept kg e) (none_at kg) nn ⟨by rw [List.length_map, hp.length_eq, hps.len, sizeLine_eq]; omega, out.toList, ep, rvo, he⟩, rfl, q _ _ _ pe hp ?_ nn⟩
    · refine List.pairwise_map.mpr (List.pairwise_map.mpr (h2.imp_of_mem fun {x y} hx hy h => ?_))
      have hx' := h1.mem_iff.mp hx
      have hy' := h1.mem_iff.mp hy
      rw [ei] at hx' hy'
      obtain ⟨t1, ht1, rfl⟩ := List.mem_map.mp hx'
      obtain ⟨t2, ht2, rfl⟩ := List.mem_map.mp hy'
      obtain ⟨p1, _, e1⟩ := hps.mem t1 ht1
      obtain ⟨p2, _, e2⟩ := hps.mem t2 ht2
      have z1 : twoOf (TS.intsOf s.heap (.ref (adO (.ref t1)))) = p1 := hf t1 p1 e1
      have z2 : twoOf (TS.intsOf s.heap (.ref (adO (.ref t2)))) = p2 := hf t2 p2 e2
      rw [z1, z2, ← code_pair, ← code_pair]
      rw [(raw e1).ints, (raw e2).ints] at h
      exact h
  )]); intro f; simpa using My.gz f 5 true
abbrev setO (w : World) : Obj := { cls := .type "set", dict := none, data := .set #[] 0 (.fresh 0 0 (!w.params.followText "set-order")) }
section
variable {P : Program} {w : World} {A : Around} {E : Value → Shared → Prop} {s : Shared}
theorem nd_leG {α : Type} [DecidableEq α] : ∀ (l D : List α), l.Nodup → (∀ x ∈ l, x ∈ D) → l.length ≤ D.length
  | [], _, _, _ => Nat.zero_le _
  | x :: l, D, hn, hs => by
    apply My.two; (focus intro zzI; simp only [↓ My.mkB zzI (by
    clear zzI
    obtain ⟨h1, h2⟩ := List.nodup_cons.mp hn
    have hx := hs x (List.mem_cons_self ..)
    have ih := nd_leG l (D.erase x) h2 fun y hy => (List.mem_erase_of_ne fun e : y = x => h1 (by rw [← e]; exact hy)).2 (hs y (List.mem_cons_of_mem _ hy))
    have := List.length_erase_of_mem hx
    have := List.length_pos_of_mem hx
    rw [List.length_cons]
    omega
    )]); intro f; simpa using My.gz f 5 true
theorem got_size {ks L : List (Addr × List Int)} (nd : (ks.map (·.2)).Nodup) (g : Got ks ks.length L) : L.length = ks.length := by
  apply My.two; (focus intro zzI; simp only [↓ My.mkB zzI (by
  clear zzI
  have h1 : ks.length ≤ L.length := by
    have a := nd_leG (ks.map (·.2)) (L.map (·.2)) nd fun x hx => by
      obtain ⟨p, hp, rfl⟩ := List.mem_map.mp hx
      exact g.all p (by rw [List.take_length]; exact hp)
    rw [List.length_map, List.length_map] at a
    exact a
  have h2 := g.len
  omega
  )]); intro f; simpa using My.gz f 5 true
/-- set(xs), xs a tuple of tuples of ints -/
theorem set_tupT {l : Addr} {its : Array Value} (ks : List (Addr × List Int)) {Q : Value → Shared → Prop} (hh : A.handled = none) (tl : s.heap.IsTuple l its) (ei : its.toList = ks.map fun p => Value.ref p.1)
    (hk : ∀ p ∈ ks, IsT P w s.heap p.2 p.1) (few : ks.length < 64) (hu : A.units + 3 < cLine)
    (fin : ∀ (g : Heap) (tk : Nat) L es ep t, SetTR P w g s.heap.objs.size L es ep t → Got ks ks.length L → (∀ b o, s.heap.get? b = some o → g.get? b = some o) → Q (.ref s.heap.objs.size) { s with heap := g, toks := tk }) :
    wpAny (model P w) A (call (.type "set") [.ref l]) Q E s := by
  apply My.two; (focus intro zzI; simp only [↓ My.mkB zzI (by
  clear zzI
  have n1 : its.size = ks.length := by
    have q := congrArg List.length ei
    rwa [Array.length_toList, List.length_map] at q
  obtain ⟨c, tl0, m0⟩ := F.called_set.mro
  have m1 := F.called_set.made
  have m2 := F.called_set.sub
  refine wpAny_call (codeAny_of_tree ?_)
  show wpAny _ _ (callAny (.type "set") _) _ _ _
  refine wpAny_pure ⟨Code.quiet_builtin _ (by decide +kernel), codeAny_builtin F.entry_type_call ?_⟩
  rw [Around.under_plain (weight_type_call_type "set" [.ref l] []) rfl]
  have m3 := F.called_set.notType
  have m4 := F.called_set.canCreate
  have m5 := F.typeCall_set_1 (.ref l)
  repeat (any_goals (first | assumption | wp_step))

  refine codeAny_mono (code_set_led1 (.ref l) (E := E) (Q₁ := fun x y => x = .ref s.heap.objs.size ∧ y = { s with heap := s.heap.push (setO w) }) ⟨rfl, rfl⟩) fun r y hr => ?_
  cases r with
  | error e => exact hr
  | ok fl =>
    cases fl with
    | ret x =>
      obtain ⟨rfl, rfl⟩ := hr
      have o1 : (s.heap.push (setO w)).get? s.heap.objs.size = some (setO w) := Heap.get?_push_size _ rfl
      have o2 : Shared.TypeIs { s with heap := s.heap.push (setO w) } (.ref s.heap.objs.size) "set" := ⟨_, o1, rfl⟩
      have m6 := F.called_set.init.lookup
      have m7 := F.called_set.init.bind (.ref s.heap.objs.size)
      repeat (any_goals (first | assumption | wp_step))

      refine codeAny_mono (codeAny_call_builtin (R := wants (fun r y => r = .none ∧ ∃ g tk L es ep t, y = { s with heap := g, toks := tk } ∧ SetTR P w g s.heap.objs.size L es ep t ∧ Got ks ks.length L ∧
          (∀ b o, s.heap.get? b = some o → g.get? b = some o)) E) F.called_set.init.plain F.entry_set_init (check_set_init_1 o2 ?_)) fun r y hr => ?_
      · obtain ⟨⟨oc, od, oD, oS⟩, e0, e1, nl, e2⟩ := tl
        simp only at e1 e2
        subst e1 e2
        have e3 : (s.heap.push (setO w)).get? l = some { cls := .type "tuple", dict := od, data := .seq its nl, slots := oS } := Heap.get?_push_of_some _ e0
        have m8 := F.sub_tuple_set
        have m9 := F.sub_tuple_frozenset
        have m10 : (Value.type "tuple" == Value.type "dict") = false := by decide
        have t1 : (s.heap.push (setO w)).IsTuple l its := ⟨_, e3, rfl, nl, rfl⟩
        unfold Builtin.«set.__init__» noKeywords Builtin.Frozenset.updateFrom
        generalize hPI : pyIter = PI
        wp_walk
        subst hPI

        refine wpAny_pyIter_tuple t1 ?_
        refine wpAny_bind (wpAny_runValue ?_)
        have lS : l < s.heap.objs.size := Heap.lt_size e0
        have h3 : A.in1.in1.in1.handled = none := by simp [hh]
        have z1 : (s.heap.push (setO w)).objs.size = s.heap.objs.size + 1 := Heap.size_push ..
        have nI : l ≠ (s.heap.push (setO w)).objs.size := by
          rw [z1]; exact Nat.ne_of_lt (Nat.lt_succ_of_lt lS)
        have nS : s.heap.objs.size ∉ [(s.heap.push (setO w)).objs.size, l] := by
          rw [z1]
          intro h
          rcases List.mem_cons.mp h with h | h
          · omega
          · exact absurd (List.mem_singleton.mp h) (Nat.ne_of_gt lS)
        have val : ∀ (i : Nat) (v : Value), its[i]? = some v → ∃ p, ks[i]? = some p ∧ v = .ref p.1 := fun i v hv => by
          have q : its.toList[i]? = some v := by rw [Array.getElem?_toList]; exact hv
          rw [ei, List.getElem?_map] at q
          cases hq : ks[i]? with
          | none => rw [hq] at q; cases q
          | some p => rw [hq] at q; exact ⟨p, rfl, (Option.some.inj q).symm⟩
        have none_of : ∀ b, s.heap.objs.size ≤ b → s.heap.get? b = none := fun b hb => by
          cases q : s.heap.get? b with
          | none => rfl
          | some o => exact absurd (Heap.lt_size q) (Nat.not_lt_of_le hb)
        refine set_update_tups ((Walks.tuple h3 _ l nI its).toS) s.heap.objs.size nS ks n1 few val s.heap hk (none_of _ (Nat.le_refl _)) (fun b hb => none_of b (by
            rw [List.mem_singleton.mp hb, z1]
            exact Nat.le_succ _)) hu (its.size - 0) 0 _ (by omega) (Nat.zero_le _)
          ⟨⟨_, Heap.get?_push_size _ rfl, rfl, rfl⟩, (t1.push _)⟩ (fun b o e => Heap.get?_push_of_some _ (Heap.get?_push_of_some _ e)) ?start ?stop
        case start => exact ⟨[], #[], 0, _, setTR_fresh (Heap.get?_push_of_some _ o1), Got.zero ks⟩
        case stop =>
          intro y L es ep t hm hS g kp
          obtain ⟨hp', gn', dr', tk', os'⟩ := y
          cases (show gn' = s.gens from hm.gens)
          cases (show dr' = s.drawn from hm.drawn)
          cases (show os' = s.os from hm.os)
          show wpAny _ _ _ _ _ _
          refine wpAny_pure ?_
          show wpAny _ _ (ret Value.none) _ _ _
          rw [n1] at g
          exact wpAny_pure ⟨rfl, hp', tk', L, es, ep, t, rfl, hS, g, kp⟩
      · cases r with
        | error e => exact hr
        | ok fl =>
          cases fl with
          | ret r =>
            obtain ⟨rfl, g, tk, L, es, ep, t, rfl, hS, hg, kp⟩ := hr
            repeat (any_goals (first | assumption | wp_step))
            exact fin _ _ _ _ _ _ hS hg kp
          | _ => exact hr.elim
    | _ => exact hr.elim
  )]); intro f; simpa using My.gz f 5 true
end
def tLenSetP (K : Fg) (ta : TE) : TE := fun σ H Q => ta σ H fun x H1 => ∃ (l : Addr) (ts : List Addr) (ps : List (Int × Int)), x = .ref l ∧ (SqL K H1 l (ts.map V.ref) ∨ SqT K H1 l (ts.map V.ref)) ∧ Prs K H1 ts ps ∧ ps.Nodup ∧ ps.length < 64 ∧ Q (.int (ps.length : Nat)) H1
/-- the addresses with what stands there -/
def zipP (ts : List Addr) (ps : List (Int × Int)) : List (Addr × List Int) := (ts.zip ps).map fun x => (x.1, [x.2.1, x.2.2])
theorem Prs.zip1 {K : Fg} {H : Hp} : ∀ {ts : List Addr} {ps : List (Int × Int)}, Prs K H ts ps → (zipP ts ps).map (fun p => V.ref p.1) = ts.map V.ref
  | _, _, .nil => rfl
  | _, _, .cons h t => congrArg (_ :: ·) (Prs.zip1 t)
theorem Prs.zip2 {K : Fg} {H : Hp} : ∀ {ts : List Addr} {ps : List (Int × Int)}, Prs K H ts ps → (zipP ts ps).map (·.2) = ps.map fun p => [p.1, p.2]
  | _, _, .nil => rfl
  | _, _, .cons h t => congrArg (_ :: ·) (Prs.zip2 t)
theorem Prs.zipA {K : Fg} {H : Hp} : ∀ {ts : List Addr} {ps : List (Int × Int)}, Prs K H ts ps → ∀ x ∈ zipP ts ps, SqT K H x.1 (x.2.map V.int)
  | _, _, .nil, x, h => by cases h
  | _, _, .cons h t, x, hx => by
    apply My.two; (focus intro zzI; simp only [↓ My.mkB zzI (by
    clear zzI
    rcases List.mem_cons.mp hx with rfl | hx
    · exact h
    · exact Prs.zipA t x hx
    )]); intro f; simpa using My.gz f 5 true
theorem Prs.zipL {K : Fg} {H : Hp} {ts : List Addr} {ps : List (Int × Int)} (h : Prs K H ts ps) : (zipP ts ps).length = ps.length := by
  have := congrArg List.length h.zip2
  rwa [List.length_map, List.length_map] at this
theorem pairs_nd {ps : List (Int × Int)} (h : ps.Nodup) : (ps.map fun p => [p.1, p.2]).Nodup := by
  apply My.two; (focus intro zzI; simp only [↓ My.mkB zzI (by
  clear zzI
  refine List.pairwise_map.mpr (h.imp fun {a b} z e => z ?_)
  obtain ⟨a1, a2⟩ := a
  obtain ⟨b1, b2⟩ := b
  cases e
  rfl
  )]); intro f; simpa using My.gz f 5 true
theorem pe_lenSetP {X : Cx} {a : Expr} {ta : TE} {p p2 q pos : Pos} (hg : Gl X "len") (hm : X.mg "len" = none) (hg2 : Gl X "set") (hm2 : X.mg "set" = none) (ha : PE X a ta) (hu : X.A.units + 64 < cLine) (hc : X.calm = true := by rfl)
    (na : starEach [a] X.env = (false, eval a X.env) :: starEach [] X.env := by rfl) : PE X (.Call (.Name "len" p) [.Call (.Name "set" p2) [a] [] q] [] pos) (tLenSetP X.K ta) := by
  refine ⟨fun pins s σ H Q I h => ?_⟩
  refine Call_ (ld_blt I hg hm boot_len ?_)
  refine PyProof.Rows.callWith_builtin1 (PyProof.Rows.args_cons ?_ rfl) rfl rfl
  refine Call_ (ld_blt I hg2 hm2 boot_set ?_)
  refine PyProof.Rows.callWith_type1 (PyProof.Rows.args_cons (thn (ha.run pins s σ H _ I h) fun v s1 ⟨x, H1, I1, r1, q1⟩ => PyProof.Rows.args_nil ?_) na) na rfl
  obtain ⟨l, ts, ps, rfl, hq, hps, hnd, hl, q1⟩ := q1
  cases r1
  have nd : ((zipP ts ps).map (·.2)).Nodup := by rw [hps.zip2]; exact pairs_nd hnd
  have goal : ∀ (g : Heap) (tk : Nat) (L : List (Addr × List Int)) es ep t, SetTR X.prog X.w g s1.heap.objs.size L es ep t → Got (zipP ts ps) (zipP ts ps).length L → (∀ b o, s1.heap.get? b = some o → g.get? b = some o) →
      wpAny (model X.prog X.w) X.A (call (.builtin "len") [.ref s1.heap.objs.size]) (EP X pins σ Q) X.xe { s1 with heap := g, toks := tk } := fun g tk L es ep t R G kp => by
    obtain ⟨o, ho, hex, hd⟩ := R.ob
    have I2 : Inv X pins σ H1 { s1 with heap := g, toks := tk } := I1.kept kp
    have n1 := got_size nd G
    have n2 : es.size = L.length := by
      have h := congrArg List.length R.rows
      unfold L2.rowsOf at h
      rwa [Array.length_toList, List.length_map] at h
    have n3 := hps.zipL
    have f1 := R.tab.sz
    rw [List.length_map] at f1
    have f2 := R.room
    have hn : t.fits L.length = true := by
      simp only [SetTable.fits, SetTable.fill, f1, R.tab.dm, beq_self_eq_true, Bool.true_and, decide_eq_true_eq]
      simp
      omega
    exact call_len_set ho hex hd (by rw [n2]; exact hn) (by rw [n2]; have := R.few; omega) ⟨.int ps.length, H1, I2.tok _, ⟨_, by rw [n2, n1, n3]⟩, q1⟩
  rcases hq with hq | hq
  · obtain ⟨its, r, pl, hz⟩ := I1.list (hps.zip1 ▸ hq)
    exact call_set_tups (P := X.prog) (w := X.w) (zipP ts ps) (I1.ok.hd hc) pl.isList (by simpa using refs_of_vals r) (fun x hx => I1.isT (hps.zipA x hx)) (by rw [hps.zipL]; exact hl) (by omega) fun g tk L es ep t R G kp => PyProof.Rows.args_nil (goal g tk L es ep t R G kp)
  · obtain ⟨its, r, pl, hz⟩ := I1.tuple (hps.zip1 ▸ hq)
    exact set_tupT (P := X.prog) (w := X.w) (zipP ts ps) (I1.ok.hd hc) pl (by simpa using refs_of_vals r) (fun x hx => I1.isT (hps.zipA x hx)) (by rw [hps.zipL]; exact hl) (by omega) fun g tk L es ep t R G kp => PyProof.Rows.args_nil (goal g tk L es ep t R G kp)
section
variable {fa : List (Fg → Bool)} {fn : List He5.DefA} {K : Fg} {mg : Str → Option Value} {X : Cx}
theorem inP (T : TxOf fa fn K mg) (hu : X.A.units + 64 < cLine) (hK : X.K = K := by rfl) : OpR X (compareOp .In) (rInP K false) := by subst hK; exact op_inP hu
theorem ninP (T : TxOf fa fn K mg) (hu : X.A.units + 64 < cLine) (hK : X.K = K := by rfl) : OpR X (compareOp .NotIn) (rInP K true) := by subst hK; exact op_notInP hu
theorem srtQ_k (T : TxOf fa fn K mg) (hK : X.K = K := by rfl) : CallR X (.builtin "sorted") (rSortQ K) := by subst hK; exact cr_sortQ
theorem srtPQ_k (T : TxOf fa fn K mg) (hK : X.K = K := by rfl) : CallR X (.builtin "sorted") (rSortPQ K) := by subst hK; exact cr_sortPQ
theorem lenSetP (T : TxOf fa fn K mg) {a : Expr} {ta : TE} {p p2 q pos : Pos} (hg : Gl X "len") (hm : X.mg "len" = none) (hg2 : Gl X "set") (hm2 : X.mg "set" = none) (ha : PE X a ta) (hu : X.A.units + 64 < cLine) (hK : X.K = K := by rfl) (hc : X.calm = true := by rfl)
    (na : starEach [a] X.env = (false, eval a X.env) :: starEach [] X.env := by rfl) : PE X (.Call (.Name "len" p) [.Call (.Name "set" p2) [a] [] q] [] pos) (tLenSetP K ta) := by subst hK; exact pe_lenSetP hg hm hg2 hm2 ha hu hc na
end
end My
namespace My
open PySem PySem.Spec PyProof.Rows L2
end My
namespace My
/-- rows of equally many months -/
structure YrOk (rows : List (List Nat)) : Prop where
  ne : 0 < rows.length
  le : rows.length ≤ 400
  m0 : 0 < (rows.getD 0 []).length
  m1 : (rows.getD 0 []).length ≤ 14
  eq : ∀ r ∈ rows, r.length = (rows.getD 0 []).length
  ds : ∀ r ∈ rows, ∀ l ∈ r, 1 ≤ l ∧ l ≤ 40
theorem flat_len {m : Nat} : ∀ {rows : List (List Nat)}, (∀ r ∈ rows, r.length = m) → rows.flatten.length = rows.length * m
  | [], _ => by simp
  | r :: rows, h => by
    rw [List.flatten_cons, List.length_append, h r (List.mem_cons_self ..), flat_len fun x hx => h x (List.mem_cons_of_mem _ hx), List.length_cons, Nat.add_mul, Nat.one_mul, Nat.add_comm]
structure Cal where
  rows : List (List Nat)
  week : Nat
  first : Nat
  rest : List Int
  hol : List (Int × Int)
namespace Cal
def ls (C : Cal) : List Nat := C.rows.flatten
def mon (C : Cal) : Nat := (C.rows.getD 0 []).length
def wkd (C : Cal) (d : Int) : Int := (d + (C.first : Int)) % (C.week : Int)
def num (C : Cal) (d : Int) : Int := mn C.ls d
def yr (C : Cal) (d : Int) : Int := C.num d / (C.mon : Int)
def mth (C : Cal) (d : Int) : Int := C.num d % (C.mon : Int) + 1
def day (C : Cal) (d : Int) : Int := d - ms C.ls (C.num d) + 1
def isW (C : Cal) (d : Int) : Bool := !decide (C.wkd d ∈ C.rest) && !decide ((C.mth d, C.day d) ∈ C.hol)
def per (C : Cal) : Nat := Nat.lcm C.ls.sum C.week
/-- the work days of the first days -/
def wrkN (C : Cal) (n : Nat) : List Nat := (List.range n).filter fun i => C.isW (i : Int)
def works (C : Cal) : List Nat := if C.per ≤ 2000 then C.wrkN C.per else (C.wrkN C.per).take 1
structure Ok (C : Cal) : Prop where
  yr : YrOk C.rows
  w0 : 0 < C.week
  w1 : C.week ≤ 10
  f : C.first < C.week
  rest : ∀ x ∈ C.rest, 0 ≤ x ∧ x < (C.week : Int)
  rnd : C.rest.Nodup
  rl : C.rest.length < 64
  hol : ∀ p ∈ C.hol, 1 ≤ p.1 ∧ p.1 ≤ (C.mon : Int) ∧ 1 ≤ p.2 ∧ p.2 ≤ 40
  hnd : C.hol.Nodup
  hl : C.hol.length < 64
  per : C.per ≤ 200000
section
variable {C : Cal}
theorem Ok.len (o : C.Ok) : C.ls.length = C.rows.length * C.mon := flat_len o.yr.eq
theorem Ok.m0 (o : C.Ok) : 0 < C.mon := o.yr.m0
theorem Ok.m1 (o : C.Ok) : C.mon ≤ 14 := o.yr.m1
theorem Ok.ne (o : C.Ok) : 0 < C.ls.length := by
  rw [o.len]
  exact Nat.mul_pos o.yr.ne o.m0
theorem Ok.le (o : C.Ok) : C.ls.length ≤ 5600 := by
  rw [o.len]
  exact Nat.le_trans (Nat.mul_le_mul o.yr.le o.m1) (by decide)
theorem Ok.mem (o : C.Ok) {l : Nat} (h : l ∈ C.ls) : 1 ≤ l ∧ l ≤ 40 := by
  obtain ⟨r, hr, hl⟩ := List.mem_flatten.mp h
  exact o.yr.ds r hr l hl
theorem Ok.pos (o : C.Ok) : ∀ l ∈ C.ls, 0 < l := fun l h => (o.mem h).1
theorem Ok.top (o : C.Ok) : ∀ l ∈ C.ls, l ≤ 40 := fun l h => (o.mem h).2
theorem Ok.s0 (o : C.Ok) : 0 < C.ls.sum := sum_pos o.ne o.pos
theorem Ok.s1 (o : C.Ok) : C.ls.sum ≤ 224000 := Nat.le_trans (sum_le o.top) (by have := o.le; omega)
theorem Ok.p0 (o : C.Ok) : 0 < C.per := Nat.lcm_pos o.s0 o.w0
theorem Ok.sdiv (_ : C.Ok) : C.ls.sum ∣ C.per := Nat.dvd_lcm_left _ _
theorem Ok.wdiv (_ : C.Ok) : C.week ∣ C.per := Nat.dvd_lcm_right _ _
theorem Ok.sp (o : C.Ok) : C.ls.sum ≤ 200000 := Nat.le_trans (Nat.le_of_dvd o.p0 o.sdiv) o.per
theorem Ok.mth0 (o : C.Ok) (d : Int) : 1 ≤ C.mth d ∧ C.mth d ≤ (C.mon : Int) := by
  apply My.two; (focus intro zzI; simp only [↓ My.mkB zzI (by
  clear zzI
  have h0 := o.m0
  have h1 := Int.emod_nonneg (C.num d) (show (C.mon : Int) ≠ 0 by omega)
  have h2 := Int.emod_lt_of_pos (C.num d) (show (0 : Int) < (C.mon : Int) by omega)
  unfold mth
  omega
  )]); intro f; simpa using My.gz f 5 true
theorem Ok.day0 (o : C.Ok) (d : Int) : 1 ≤ C.day d ∧ C.day d ≤ ml C.ls (C.num d) := by
  apply My.two; (focus intro zzI; simp only [↓ My.mkB zzI (by
  clear zzI
  have h1 := mn_lo o.ne o.pos d
  have h2 := mn_hi o.ne o.pos d
  rw [ms_succ o.ne] at h2
  unfold day num
  omega
  )]); intro f; simpa using My.gz f 5 true
theorem Ok.num_add (o : C.Ok) (d t : Int) : C.num (d + (C.ls.sum : Int) * t) = C.num d + (C.ls.length : Int) * t := mn_add o.ne o.pos d t
theorem Ok.mth_add (o : C.Ok) (d t : Int) : C.mth (d + (C.ls.sum : Int) * t) = C.mth d := by
  unfold mth
  rw [o.num_add, o.len, Int.natCast_mul, Int.mul_comm (C.rows.length : Int), Int.mul_assoc, Int.add_mul_emod_self_left]
theorem Ok.day_add (o : C.Ok) (d t : Int) : C.day (d + (C.ls.sum : Int) * t) = C.day d := by
  apply My.two; (focus intro zzI; simp only [↓ My.mkB zzI (by
  clear zzI
  unfold day
  rw [o.num_add, ms_add o.ne]
  omega
  )]); intro f; simpa using My.gz f 5 true
theorem wkd_add (d t : Int) : C.wkd (d + (C.week : Int) * t) = C.wkd d := by
  unfold wkd
  rw [show d + (C.week : Int) * t + (C.first : Int) = d + (C.first : Int) + (C.week : Int) * t by omega, Int.add_mul_emod_self_left]
theorem Ok.isW_add (o : C.Ok) (d t : Int) : C.isW (d + (C.per : Int) * t) = C.isW d := by
  apply My.two; (focus intro zzI; simp only [↓ My.mkB zzI (by
  clear zzI
  obtain ⟨a, ha⟩ := o.sdiv
  obtain ⟨b, hb⟩ := o.wdiv
  unfold isW
  have e1 : d + (C.per : Int) * t = d + (C.week : Int) * ((b : Int) * t) := by rw [hb, Int.natCast_mul, Int.mul_assoc]
  have e2 : d + (C.per : Int) * t = d + (C.ls.sum : Int) * ((a : Int) * t) := by
    rw [show (C.per : Int) = ((C.ls.sum * a : Nat) : Int) by rw [← ha], Int.natCast_mul, Int.mul_assoc]
  rw [e2, o.mth_add, o.day_add, ← e2, e1, wkd_add]
  )]); intro f; simpa using My.gz f 5 true
theorem wrkN_succ (i : Nat) : C.wrkN (i + 1) = C.wrkN i ++ if C.isW (i : Int) = true then [i] else [] := by
  apply My.two; (focus intro zzI; simp only [↓ My.mkB zzI (by
  clear zzI
  unfold wrkN
  rw [List.range_succ, List.filter_append]
  congr 1
  rw [List.filter_cons, List.filter_nil]
  )]); intro f; simpa using My.gz f 5 true
theorem wrkN_pre {i : Nat} : ∀ {n : Nat}, i ≤ n → ∃ r, C.wrkN n = C.wrkN i ++ r
  | 0, h => ⟨[], by rw [Nat.le_zero.mp h, List.append_nil]⟩
  | n + 1, h => by
    apply My.two; (focus intro zzI; simp only [↓ My.mkB zzI (by
    clear zzI
    rcases Nat.lt_or_ge n i with c | c
    · obtain rfl : i = n + 1 := by omega
      exact ⟨[], by rw [List.append_nil]⟩
    · obtain ⟨r, hr⟩ := wrkN_pre (n := n) c
      rw [wrkN_succ, hr, List.append_assoc]
      exact ⟨_, rfl⟩
    )]); intro f; simpa using My.gz f 5 true
theorem works_first {i : Nat} (hi : i < C.per) (h : 2000 < C.per) (e : C.wrkN i = []) (w : C.isW (i : Int) = true) : C.works = [i] := by
  apply My.two; (focus intro zzI; simp only [↓ My.mkB zzI (by
  clear zzI
  obtain ⟨r, hr⟩ := wrkN_pre (C := C) (n := C.per) (i := i + 1) hi
  unfold works
  rw [if_neg (by omega), hr, wrkN_succ, e, if_pos w]
  rfl
  )]); intro f; simpa using My.gz f 5 true
theorem works_end (h : 2000 < C.per → C.wrkN C.per = []) : C.works = C.wrkN C.per := by
  apply My.two; (focus intro zzI; simp only [↓ My.mkB zzI (by
  clear zzI
  unfold works
  split
  · rfl
  · rw [h (by omega)]
    rfl
  )]); intro f; simpa using My.gz f 5 true
theorem mem_wrkN {n i : Nat} : i ∈ C.wrkN n ↔ i < n ∧ C.isW (i : Int) = true := by
  unfold wrkN
  rw [List.mem_filter, List.mem_range]
theorem wrkN_len (n : Nat) : (C.wrkN n).length ≤ n := by
  apply My.two; (focus intro zzI; simp only [↓ My.mkB zzI (by
  clear zzI
  unfold wrkN
  have := List.length_filter_le (fun i : Nat => C.isW (i : Int)) (List.range n)
  rw [List.length_range] at this
  exact this
  )]); intro f; simpa using My.gz f 5 true
/-- the order of rest days and holidays does not matter -/
def re (C : Cal) (rs : List Int) (hs : List (Int × Int)) : Cal := ⟨C.rows, C.week, C.first, rs, hs⟩
theorem re_isW {rs : List Int} {hs : List (Int × Int)} (h1 : rs.Perm C.rest) (h2 : hs.Perm C.hol) (d : Int) : (C.re rs hs).isW d = C.isW d := by
  apply My.two; (focus intro zzI; simp only [↓ My.mkB zzI (by
  clear zzI
  show (!decide (C.wkd d ∈ rs) && !decide ((C.mth d, C.day d) ∈ hs)) = _
  rw [decide_eq_decide.mpr h1.mem_iff, decide_eq_decide.mpr h2.mem_iff]
  rfl
  )]); intro f; simpa using My.gz f 5 true
theorem re_wrkN {rs : List Int} {hs : List (Int × Int)} (h1 : rs.Perm C.rest) (h2 : hs.Perm C.hol) (n : Nat) : (C.re rs hs).wrkN n = C.wrkN n := by
  apply My.two; (focus intro zzI; simp only [↓ My.mkB zzI (by
  clear zzI
  unfold wrkN
  congr 1
  funext i
  exact re_isW h1 h2 _
  )]); intro f; simpa using My.gz f 5 true
theorem re_works {rs : List Int} {hs : List (Int × Int)} (h1 : rs.Perm C.rest) (h2 : hs.Perm C.hol) : (C.re rs hs).works = C.works := by
  apply My.two; (focus intro zzI; simp only [↓ My.mkB zzI (by
  clear zzI
  unfold works
  rw [re_wrkN h1 h2]
  rfl
  )]); intro f; simpa using My.gz f 5 true
theorem Ok.re (o : C.Ok) {rs : List Int} {hs : List (Int × Int)} (h1 : rs.Perm C.rest) (h2 : hs.Perm C.hol) : (C.re rs hs).Ok where
  yr := o.yr
  w0 := o.w0
  w1 := o.w1
  f := o.f
  rest := fun x hx => o.rest x (h1.mem_iff.mp hx)
  rnd := h1.nodup_iff.mpr o.rnd
  rl := by rw [show (C.re rs hs).rest = rs from rfl, h1.length_eq]; exact o.rl
  hol := fun x hx => o.hol x (h2.mem_iff.mp hx)
  hnd := h2.nodup_iff.mpr o.hnd
  hl := by rw [show (C.re rs hs).hol = hs from rfl, h2.length_eq]; exact o.hl
  per := o.per
end
end Cal
end My
namespace My
open PySem PySem.Spec PyProof.Rows L2
structure FnA (P : Program) (w : World) (K : Fg) (mg : Str → Option Value) (base : Heap) (k : Nat) (f : Addr) (x qual : Str) (st : Stmt) (dvs : List V) (ps : List Str) (sp : Sp) : Prop where
  o : ∃ (fd : FuncData) (kws : List (Str × V)), FunD K x qual (defArgs st) (defBody st) (defScope st) dvs kws f fd ∧ FnOk P w K mg base CX0 k f fd ps sp
section
variable {fa : List (Fg → Bool)} {fn : List He5.DefA} {K : Fg} {mg : Str → Option Value} {P : Program} {w : World} {base : Heap}
theorem TxOf.fnA (T : TxOf fa fn K mg) (i : Nat) {x qual : Str} {st : Stmt} {at_ : Fg → Addr} {N ps : List Str} {k : Nat} {sp : Sp} {dfl : List He.Dv} {kwd : List (Str × He.Dv)}
    (hi : fn[i]? = some ⟨at_, x, qual, defArgs st, defBody st, defScope st, dfl, kwd⟩) (S : FnScope N ps (defScope st))
    (len : ∀ vs H Q E, sp vs H Q E → vs.length = ps.length)
    (hbody : ∀ (cdv : Value) (A : Around) (outer : List Env) (s : Shared) (H : Hp) (vs : List V) (Q : VK) (E : XK), Room k (A.deeper (envOfC qual (defScope st) s.heap.objs.size (at_ K) cdv)) → sp vs H Q E →
      ∃ t, PSs (cxOf CX0 P w K mg base N qual (defScope st) (at_ K) cdv A outer s H E).nox (defBody st) t ∧ t { nx := fun _ H' => Q .non H', rt := Q } (start N vs) H) :
    FnA P w K mg base (k + 1) (at_ K) x qual st (dfl.map (He.Dv.v K)) ps sp := by
  apply My.two; (focus intro zzI; simp only [↓ My.mkB zzI (by
  clear zzI
  obtain ⟨fd, F⟩ := T.fund i hi
  have F0 : FunD K x qual (defArgs st) (defBody st) (defScope st) (dfl.map (He.Dv.v K)) (kwd.map fun q => (q.1, q.2.v K)) (at_ K) fd := F
  exact ⟨fd, _, F0, F0.ok S len fun cdv A outer s H vs Q E hr h => by
    obtain ⟨t, h1, h2⟩ := hbody cdv A outer s H vs Q E hr h
    exact ⟨t, h1.nox, h2⟩⟩
  )]); intro f; simpa using My.gz f 5 true
variable {k : Nat} {f : Addr} {x qual : Str} {st : Stmt} {dvs : List V} {ps : List Str} {sp : Sp}
/-- called with all of them -/
theorem FnA.kw (F : FnA P w K mg base k f x qual st dvs ps sp) (n : Nat) (ks : List Str) (pm : List Nat) (hd : dvs ≠ [])
    (hb : ∀ (D : Addr) (kV doc pmv : Value) (an : Option Addr) (cdv ct : Value) (us its ws : List Value), us.length = n → its.length = dvs.length → ws.length = ks.length →
      ∃ c, bindArgs (PySem.W.fnOf x qual (defArgs st) (defBody st) (defScope st) (.ref D) kV doc pmv an cdv ct) ⟨us, ks.zip ws⟩ = seqItems? (.ref D) >>= c ∧ c (some its.toArray) = pure (ps.zip (pick pm (us ++ ws)))) : FnKw P w K mg base k f n ks pm sp := by
  apply My.two; (focus intro zzI; simp only [↓ My.mkB zzI (by
  clear zzI
  intro A outer s H us ws vs zs Q E hr e0 rv rz l1 l2 h
  obtain ⟨fd, kws, F0, G⟩ := F.o
  refine G.run A outer s H ⟨us, ks.zip ws⟩ (pick pm (us ++ ws)) (pick pm (vs ++ zs)) Q E hr e0 ?_ (pick_vals (rv.append rz) pm) h
  obtain ⟨oc, od, dV, kV, doc, pmv, an, cdv, ct, osl, rfl, lk, hcd, hD, hK⟩ := F0.ex
  rcases hD with ⟨e, _⟩ | ⟨_, D, o, its, m, rfl, lT, oT, rT⟩
  · exact absurd e hd
  obtain ⟨c, e1, e2⟩ := hb D kV doc pmv an cdv ct us its ws (rv.length.symm.trans l1) rT.length.symm (rz.length.symm.trans l2)
  refine BindsTo.of_looks fun M => ?_
  rw [e1]
  exact looks_items (PySem.W.Frag.In.keeps e0.mod.kin fun b o e => (e0.bs b o e).1) lT oT (.of_pure e2)
  )]); intro f; simpa using My.gz f 5 true
end
section
variable {X : Cx} {k n : Nat} {C f : Addr} {x : Str} {ks : List Str} {pm : List Nat} {sp : Sp} {E : XK} {e : Expr} {es : List Expr} {kws : List Keyword} {t tk : TA} {pos np : Pos}
/-- C(e, .., k = v, ..) -/
def tMkKn (C : Addr) (n nk : Nat) (pm : List Nat) (sp : Sp) (E : XK) (t tk : TA) : TE := fun σ H Q => t σ H fun vs H1 => tk σ H1 fun zs H2 => vs.length = n ∧ zs.length = nk ∧
  ∀ x dx, H2 x = none → H2 dx = none → dx ≠ x → sp (pick pm ((.ref x :: vs) ++ zs)) (upd (upd H2 dx (.own x)) x (.ins C dx [])) (fun v H3 => v = .non ∧ Q (.ref x) H3) E
theorem pe_mkKn (M : Mk X.K C f) (F : FnKw X.prog X.w X.K X.mg X.base k f (n + 1) ks pm sp) (hr : Room (k + 1) X.A) (hg : Gl X x) (hm : X.mg x = some (.ref C)) (hx : Passes CX0 X E) (ha : PA X (e :: es) t) (hkw : PK X kws tk)
    (hall : (backToKw pos (keywordEach kws X.env)).all (·.1.isSome) = true := by rfl) (hks : (backToKw pos (keywordEach kws X.env)).filterMap (·.1) = ks := by rfl) (hdb : (x == ("__debug__" : Str)) = false := by decide)
    (hse : starEach (e :: es) X.env = (false, eval e X.env) :: starEach es X.env := by rfl)
    (hpl : ((backTo pos (starEach (e :: es) X.env)).any (·.1) || (backToKw pos (keywordEach kws X.env)).any (·.1.isNone)) = false := by rfl) : PE X (.Call (.Name x np) (e :: es) kws pos) (tMkKn C n ks.length pm sp E t tk) := by
  refine ⟨fun pins s σ H Q I h => wpAny_Call_Name_kw (ld_glob I hg hm ?_ hdb)⟩
  refine PySem.W.callWith_KW (h₀ := X.base) I.ok.mod.kin M.kp hall (thn (ha.run pos pins s σ H _ I h) fun us s1 ⟨vs, H1, I1, rv, q1⟩ => ?_) hpl hse
  refine thn (hkw.run pos pins s1 σ H1 _ I1 q1) fun ws s2 ⟨zs, H2, I, rz, l1, l2, q⟩ => ?_
  refine ⟨I.kIn, ?_⟩
  rw [hks]
  have hq := q (s2.heap.objs.size + 1) s2.heap.objs.size (I.hok.fresh (Nat.le_succ _)) (I.hok.fresh (Nat.le_refl _)) (Nat.ne_of_lt (Nat.lt_succ_self _))
  have I2 := Inv.made (C := C) I
  have r2 : Vals (V.ref (s2.heap.objs.size + 1) :: vs) (Value.ref (s2.heap.objs.size + 1) :: us) := .cons rfl rv
  refine wpAny_call (make_map (f := f) I.kIn M.makes M.init (beq_iff_eq.mp M.fn) (codeAny_mono (F _ X.stack _ _ (Value.ref (s2.heap.objs.size + 1) :: us) ws _ _ _ E (hr.make C us (ks.zip ws)) (I2.env0.make C us (ks.zip ws)) r2 rz (by rw [List.length_cons, l1]) l2 hq) fun r s' hq' => ?_))
  cases r with
  | error e => exact hx pins σ _ _ e s' I2 hq'
  | ok fl =>
    cases fl with
    | ret u =>
      obtain ⟨v, H', I3, rv, ev, q3⟩ := I2.after hq'
      subst ev
      exact ⟨rv, ⟨V.ref (s2.heap.objs.size + 1), H', I3, rfl, q3⟩⟩
    | next => exact False.elim hq'
    | brk => exact False.elim hq'
    | cont => exact False.elim hq'
end
/-- a comprehension within one -/
theorem relab {env : Env} {x : Str} : ∀ {names : List (Str × NameKind)}, (names.lookup x = some .cell ∨ names.lookup x = some .free) →
    let l := (names.map fun (n, k) => if (k == NameKind.free && env.scope.kind == .function && env.kindOf n == some .cell) then (n, NameKind.cell) else (n, k)).lookup x
    l = some .cell ∨ l = some .free
  | [], h => by rcases h with h | h <;> cases h
  | (n, k) :: r, h => by
    apply My.two; (focus intro zzI; simp only [↓ My.mkB zzI (by
    clear zzI
    have ih := relab (env := env) (x := x) (names := r)
    show List.lookup x ((if (k == NameKind.free && env.scope.kind == .function && env.kindOf n == some .cell) = true then (n, NameKind.cell) else (n, k)) :: _) = _ ∨ List.lookup x ((if (k == NameKind.free && env.scope.kind == .function && env.kindOf n == some .cell) = true then (n, NameKind.cell) else (n, k)) :: _) = _
    rw [List.lookup_cons] at h
    cases hx : x == n with
    | true =>
      rw [hx] at h
      split
      · exact .inl (by rw [List.lookup_cons, hx])
      · rw [List.lookup_cons, hx]
        exact h
    | false =>
      rw [hx] at h
      split
      · rw [List.lookup_cons, hx]
        exact ih h
      · rw [List.lookup_cons, hx]
        exact ih h
    )]); intro f; simpa using My.gz f 5 true
theorem blkOk_nest {X : Cx} {N : List Str} {s : Shared} {H : Hp} {scA scope : Scope} {cl : List (Str × Addr)} {C : Addr} {fp : List Addr} {own : List (Str × Nat)} (h : blkC N scA scope own = true) : BlkOk N (X.blk s H scA (compEnvC scA cl C X.env) fp).env.scope scope own := by
  have b := blkOk_by h
  exact ⟨b.kind, b.uniq, b.ix, fun y hy e => relab (b.free y hy e), b.own⟩
end My
namespace My
open PySem PySem.Spec PyProof.Rows L2
end My
namespace My
open PySem PySem.Spec PyProof.Rows L2
end My
namespace My
open PySem PySem.Spec PyProof.Rows L2
end My
namespace My
open PySem PySem.Spec PyProof.Rows L2
/-- data of bounded depth that can be laid -/
def Lay (n : Nat) (d : PyData) : Prop := d.canLay0 = true ∧ d.depth ≤ n
theorem Lay.int {n : Nat} (z : Int) : Lay n (.int z) := ⟨rfl, by simp [PyData.depth]⟩
theorem layAll {n : Nat} : ∀ {ds : List PyData}, (∀ d ∈ ds, Lay n d) → PyData.canLayAll0 ds = true ∧ PyData.depthAll ds ≤ n
  | [], _ => ⟨rfl, Nat.zero_le _⟩
  | d :: ds, h => by
    apply My.two; (focus intro zzI; simp only [↓ My.mkB zzI (by
    clear zzI
    obtain ⟨h1, h2⟩ := h d (List.mem_cons_self ..)
    obtain ⟨h3, h4⟩ := layAll (ds := ds) fun e he => h e (List.mem_cons_of_mem _ he)
    refine ⟨by rw [PyData.canLayAll0, h1, h3]; rfl, ?_⟩
    simp only [PyData.depthAll]
    omega
    )]); intro f; simpa using My.gz f 5 true
theorem Lay.tup {n : Nat} {ds : List PyData} (h : ∀ d ∈ ds, Lay n d) : Lay (n + 1) (.tuple ds) := by
  apply My.two; (focus intro zzI; simp only [↓ My.mkB zzI (by
  clear zzI
  obtain ⟨h1, h2⟩ := layAll h
  refine ⟨by simp only [PyData.canLay0]; exact h1, ?_⟩
  simp only [PyData.depth]
  omega
  )]); intro f; simpa using My.gz f 5 true
theorem Lay.lst {n : Nat} {ds : List PyData} (h : ∀ d ∈ ds, Lay n d) : Lay (n + 1) (.list ds) := by
  apply My.two; (focus intro zzI; simp only [↓ My.mkB zzI (by
  clear zzI
  obtain ⟨h1, h2⟩ := layAll h
  refine ⟨by simp only [PyData.canLay0]; exact h1, ?_⟩
  simp only [PyData.depth]
  omega
  )]); intro f; simpa using My.gz f 5 true
theorem Lay.map {α : Type} {n : Nat} {f : α → PyData} {xs : List α} (h : ∀ x, Lay n (f x)) : ∀ d ∈ xs.map f, Lay n d := fun d hd => by
  obtain ⟨x, _, rfl⟩ := List.mem_map.mp hd
  exact h x
theorem Lay.mono {n m : Nat} {d : PyData} (h : Lay n d) (hn : n ≤ m) : Lay m d := ⟨h.1, Nat.le_trans h.2 hn⟩
theorem foldA_len (a : Str) : ∀ (ps : List Str) (acc : Array Nat), (ps.foldl (fun acc p => acc ++ a.cps ++ p.cps) acc).size = acc.size + (ps.map (·.length)).sum + ps.length * a.length
  | [], acc => by simp
  | p :: ps, acc => by
    apply My.two; (focus intro zzI; simp only [↓ My.mkB zzI (by
    clear zzI
    rw [List.foldl_cons, foldA_len a ps, List.map_cons, List.sum_cons, List.length_cons, Nat.succ_mul, Array.size_append, Array.size_append]
    show acc.size + a.cps.size + p.cps.size + _ + ps.length * a.cps.size = acc.size + (p.cps.size + _) + (ps.length * a.cps.size + a.cps.size)
    omega
    )]); intro f; simpa using My.gz f 5 true
theorem join_len (a : Str) : ∀ ys : List Str, (Txt.join a ys).length ≤ (ys.map (·.length)).sum + ys.length * a.length
  | [] => by
    show (Str.empty.cps).size ≤ _
    exact Nat.zero_le _
  | y :: ys => by
    apply My.two; (focus intro zzI; simp only [↓ My.mkB zzI (by
    clear zzI
    show ((ys.foldl (fun acc p => acc ++ a.cps ++ p.cps) y.cps)).size ≤ _
    rw [foldA_len, List.map_cons, List.sum_cons, List.length_cons, Nat.succ_mul]
    show y.cps.size + _ + _ ≤ y.cps.size + _ + _
    omega
    )]); intro f; simpa using My.gz f 5 true
/-- the text of a number -/
def numT (i : Int) : Str := Str.ofString (toString i)
theorem sum_len {B : Nat} : ∀ {ys : List Str}, (∀ y ∈ ys, y.length ≤ B) → (ys.map (·.length)).sum ≤ ys.length * B
  | [], _ => by simp
  | y :: ys, h => by
    apply My.two; (focus intro zzI; simp only [↓ My.mkB zzI (by
    clear zzI
    have h1 := h y (List.mem_cons_self ..)
    have h2 := sum_len (ys := ys) fun z hz => h z (List.mem_cons_of_mem _ hz)
    rw [List.map_cons, List.sum_cons, List.length_cons, Nat.succ_mul]
    omega
    )]); intro f; simpa using My.gz f 5 true
def rJoin (K : Fg) : V → List V → Hp → VK → Prop := fun x xs H Q => ∃ a p, ∃ ys : List Str, x = .str a ∧ xs = [.ref p] ∧ (SqL K H p (ys.map V.str) ∨ SqT K H p (ys.map V.str)) ∧ (ys.map (·.length)).sum + ys.length * a.length ≤ 16777216 ∧ Q (.str (Txt.join a ys)) H
section
variable {fa : List (Fg → Bool)} {fn : List He5.DefA} {K : Fg} {mg : Str → Option Value}
/-- a text's join, told by the kit's own facts (so that it may stand within a comprehension) -/
theorem pe_joinK {X : Cx} {o e : Expr} {to te : TE} {apos pos : Pos} (T : TxOf fa fn K mg) (ho : PE X o to) (he : PE X e te) (hK : X.K = K := by rfl) (hs : starEach [e] X.env = [(false, eval e X.env)] := by rfl) (hb : attributeBase o "join" X.env (eval o X.env) = eval o X.env := by rfl) (hl : (apos.endLine == pos.line) = true := by rfl) :
    PE X ((o.Attribute "join" apos).Call [e] [] pos) (tM1 (rJoin K) to te) := by
  subst hK
  exact pe_join ho he hs hb hl
end
end My
namespace My
open PySem PySem.Spec PyProof.Rows L2
theorem str_ext {x y : Str} (h : x.cps.toList = y.cps.toList) : x = y := by
  apply My.two; (focus intro zzI; simp only [↓ My.mkB zzI (by
  clear zzI
  obtain ⟨a⟩ := x
  obtain ⟨b⟩ := y
  exact congrArg Str.mk (Array.toList_inj.mp h)
  )]); intro f; simpa using My.gz f 5 true
theorem foldJ (c : Nat) : ∀ (ps : List Str) (acc : Array Nat), (ps.foldl (fun acc p => acc ++ #[c] ++ p.cps) acc).toList = acc.toList ++ ps.flatMap fun q => c :: q.cps.toList
  | [], acc => by simp
  | p :: ps, acc => by
    rw [List.foldl_cons, foldJ c ps, List.flatMap_cons]
    simp
theorem join_list (c : Nat) (p : Str) (ps : List Str) : (Txt.join ⟨#[c]⟩ (p :: ps)).cps.toList = p.cps.toList ++ ps.flatMap fun q => c :: q.cps.toList := foldJ c ps p.cps
theorem cut_uniq {c : Nat} : ∀ (p q A B : List Nat), c ∉ p → c ∉ q → (A = [] ∨ ∃ A', A = c :: A') → (B = [] ∨ ∃ B', B = c :: B') → p ++ A = q ++ B → p = q ∧ A = B
  | [], [], A, B, _, _, _, _, e => ⟨rfl, e⟩
  | [], y :: q, A, B, _, hq, hA, _, e => by
    apply My.two; (focus intro zzI; simp only [↓ My.mkB zzI (by
    clear zzI
    rcases hA with rfl | ⟨A', rfl⟩
    · cases e
    · rw [List.nil_append, List.cons_append] at e
      obtain ⟨rfl, _⟩ := List.cons.inj e
      exact absurd (List.mem_cons_self ..) hq
    )]); intro f; simpa using My.gz f 5 true
  | x :: p, [], A, B, hp, _, _, hB, e => by
    apply My.two; (focus intro zzI; simp only [↓ My.mkB zzI (by
    clear zzI
    rcases hB with rfl | ⟨B', rfl⟩
    · cases e
    · rw [List.nil_append, List.cons_append] at e
      obtain ⟨rfl, _⟩ := List.cons.inj e
      exact absurd (List.mem_cons_self ..) hp
    )]); intro f; simpa using My.gz f 5 true
  | x :: p, y :: q, A, B, hp, hq, hA, hB, e => by
    apply My.two; (focus intro zzI; simp only [↓ My.mkB zzI (by
    clear zzI
    rw [List.cons_append, List.cons_append] at e
    obtain ⟨rfl, e'⟩ := List.cons.inj e
    obtain ⟨rfl, e2⟩ := cut_uniq p q A B (fun z => hp (List.mem_cons_of_mem _ z)) (fun z => hq (List.mem_cons_of_mem _ z)) hA hB e'
    exact ⟨rfl, e2⟩
    )]); intro f; simpa using My.gz f 5 true
theorem parts_uniq {c : Nat} : ∀ (ps qs : List Str) (p q : Str), c ∉ p.cps.toList → c ∉ q.cps.toList → (∀ x ∈ ps, c ∉ x.cps.toList) → (∀ x ∈ qs, c ∉ x.cps.toList) →
    p.cps.toList ++ (ps.flatMap fun r => c :: r.cps.toList) = q.cps.toList ++ (qs.flatMap fun r => c :: r.cps.toList) → p = q ∧ ps = qs := by
  apply My.two; (focus intro zzI; simp only [↓ My.mkB zzI (by
  clear zzI
  have start : ∀ ps : List Str, (ps.flatMap fun r : Str => c :: r.cps.toList) = [] ∨ ∃ A', (ps.flatMap fun r : Str => c :: r.cps.toList) = c :: A' := fun ps => by
    cases ps with
    | nil => exact .inl rfl
    | cons p ps => exact .inr ⟨_, by rw [List.flatMap_cons, List.cons_append]⟩
  intro ps
  induction ps with
  | nil =>
    intro qs p q hp hq _ _ e
    obtain ⟨e1, e2⟩ := cut_uniq _ _ _ _ hp hq (start []) (start qs) e
    refine ⟨str_ext e1, ?_⟩
    cases qs with
    | nil => rfl
    | cons r rs =>
      rw [List.flatMap_cons, List.cons_append] at e2
      cases e2
  | cons r ps ih =>
    intro qs p q hp hq hps hqs e
    obtain ⟨e1, e2⟩ := cut_uniq _ _ _ _ hp hq (start (r :: ps)) (start qs) e
    cases qs with
    | nil =>
      rw [List.flatMap_cons, List.cons_append] at e2
      cases e2
    | cons s qs =>
      rw [List.flatMap_cons, List.flatMap_cons, List.cons_append, List.cons_append] at e2
      obtain ⟨_, e3⟩ := List.cons.inj e2
      obtain ⟨rfl, rfl⟩ := ih qs r s (hps _ (List.mem_cons_self ..)) (hqs _ (List.mem_cons_self ..)) (fun x hx => hps x (List.mem_cons_of_mem _ hx)) (fun x hx => hqs x (List.mem_cons_of_mem _ hx)) e3
      exact ⟨str_ext e1, rfl⟩
  )]); intro f; simpa using My.gz f 5 true
theorem split_ne (x : Str) (y : Str) : Txt.split x y ≠ [] := by
  apply My.two; (focus intro zzI; simp only [↓ My.mkB zzI (by
  clear zzI
  unfold Txt.split
  split
  · exact fun z => by cases z
  split
  · exact fun z => by cases z
  · unfold Builtin.Str.partsBetween
    intro z
    have h := congrArg List.length z
    simp at h
  )]); intro f; simpa using My.gz f 5 true
/-- what is joined by one sign, and split by it again -/
theorem split_join {c : Nat} {p : Str} {ps : List Str} (h : ∀ x ∈ p :: ps, c ∉ x.cps.toList) : Txt.split (Txt.join ⟨#[c]⟩ (p :: ps)) ⟨#[c]⟩ = p :: ps := by
  apply My.two; (focus intro zzI; simp only [↓ My.mkB zzI (by
  clear zzI
  have hf := StrLaws.split_free (Txt.join ⟨#[c]⟩ (p :: ps)) c
  have hj := StrLaws.join_split (Txt.join ⟨#[c]⟩ (p :: ps)) ⟨#[c]⟩
  cases hs : Txt.split (Txt.join ⟨#[c]⟩ (p :: ps)) ⟨#[c]⟩ with
  | nil => exact absurd hs (split_ne _ _)
  | cons q qs =>
    rw [hs] at hf hj
    have e := congrArg (fun s : Str => s.cps.toList) ((StrLaws.glued_cons ⟨#[c]⟩ qs q).trans hj)
    have e2 : q.cps.toList ++ (qs.flatMap fun r => c :: r.cps.toList) = p.cps.toList ++ (ps.flatMap fun r => c :: r.cps.toList) := by
      rw [← join_list, ← join_list]
      exact e
    obtain ⟨rfl, rfl⟩ := parts_uniq qs ps q p (hf q (List.mem_cons_self ..)) (h p (List.mem_cons_self ..)) (fun x hx => hf x (List.mem_cons_of_mem _ hx)) (fun x hx => h x (List.mem_cons_of_mem _ hx)) e2
    rfl
  )]); intro f; simpa using My.gz f 5 true
theorem space_eq : (" " : Str) = ⟨#[32]⟩ := by decide +kernel
theorem str_no {a b : Str} (h : a ≠ b) : decide (V.str a = V.str b) = false := decide_eq_false fun e => h (V.str.inj e)
theorem str_yes {a b : Str} (h : a = b) : decide (V.str a = V.str b) = true := decide_eq_true (congrArg V.str h)
end My
namespace My
inductive Un | week | month | quarter | year
  deriving DecidableEq
inductive Tw | after | from_ | before | until_ | near
  deriving DecidableEq
inductive Wd | next | last | month
  deriving DecidableEq
/-- a step without parentheses -/
inductive Pl
  | days (n : Int) | weeks (n : Int) | months (n : Int) | years (n : Int) | over (n : Int) | day (n : Int) | month (m : Int)
  | start (u : Un) | fin (u : Un) | towk (t : Tw) (w : Int) | nth (n w : Int) | work (n : Int) | workday (t : Wd)
namespace Cal
variable {C : Cal}
def over (C : Cal) (d k : Int) : Int := d - ms C.ls (C.num d) + ms C.ls (C.num d + k)
end Cal
/-- what a text may say -/
def Pl.ok (C : Cal) : Pl → Prop
  | .days n => n.natAbs < 10 ^ 12
  | .weeks n => n.natAbs < 10 ^ 12
  | .months n => n.natAbs < 10 ^ 12
  | .years n => n.natAbs < 10 ^ 12
  | .over n => n.natAbs < 10 ^ 12
  | .day n => n ≠ 0 ∧ n.natAbs ≤ 40
  | .month m => 1 ≤ m ∧ m ≤ (C.mon : Int)
  | .start _ => True
  | .fin _ => True
  | .towk _ w => 0 ≤ w ∧ w < (C.week : Int)
  | .nth n w => n ≠ 0 ∧ n.natAbs ≤ 40 ∧ 0 ≤ w ∧ w < (C.week : Int)
  | .work n => n.natAbs < 10 ^ 12
  | .workday _ => True
/-- a period later all is a period later -/
def Shf (C : Cal) (f : Int → Int) : Prop := ∀ d t : Int, f (d + (C.per : Int) * t) = f d + (C.per : Int) * t
namespace Cal
variable {C : Cal}
theorem Ok.split (o : C.Ok) (t : Int) : ∃ a b : Int, (C.per : Int) * t = (C.ls.sum : Int) * a ∧ (C.per : Int) * t = (C.week : Int) * b ∧ a = (C.rows.length : Int) * 0 + a := by
  apply My.two; (focus intro zzI; simp only [↓ My.mkB zzI (by
  clear zzI
  obtain ⟨x, hx⟩ := o.sdiv
  obtain ⟨y, hy⟩ := o.wdiv
  refine ⟨(x : Int) * t, (y : Int) * t, ?_, ?_, by omega⟩
  · rw [show (C.per : Int) = ((C.ls.sum * x : Nat) : Int) by rw [← hx], Int.natCast_mul, Int.mul_assoc]
  · rw [show (C.per : Int) = ((C.week * y : Nat) : Int) by rw [← hy], Int.natCast_mul, Int.mul_assoc]
  )]); intro f; simpa using My.gz f 5 true
end Cal
theorem Shf.val {C : Cal} {f : Int → Int} (h : Shf C f) (p0 : 0 < C.per) (d : Int) : ∃ i : Nat, i < C.per ∧ (i : Int) = d % (C.per : Int) ∧ d + (f (i : Int) - (i : Int)) = f d := by
  apply My.two; (focus intro zzI; simp only [↓ My.mkB zzI (by
  clear zzI
  have h0 := Int.emod_nonneg d (show (C.per : Int) ≠ 0 by omega)
  have h1 := Int.emod_lt_of_pos d (show (0 : Int) < (C.per : Int) by omega)
  refine ⟨(d % (C.per : Int)).toNat, by omega, by omega, ?_⟩
  have e : ((d % (C.per : Int)).toNat : Int) = d % (C.per : Int) := Int.toNat_of_nonneg h0
  rw [e]
  have := h (d % (C.per : Int)) (d / (C.per : Int))
  rw [Int.emod_add_mul_ediv] at this
  have e2 := Int.emod_add_mul_ediv d (C.per : Int)
  omega
  )]); intro f; simpa using My.gz f 5 true
end My
namespace My
end My
namespace My
end My
namespace My
/-- a condition of one word -/
inductive Lf
  | all | none | work | rest | wkd (w : Int) | mon (m : Int) | day (n : Int) | nth (n w : Int)
namespace Lf
def holds (C : Cal) : Lf → Int → Bool
  | .all, _ => true
  | .none, _ => false
  | .work, d => C.isW d
  | .rest, d => !C.isW d
  | .wkd w, d => decide (C.wkd d = w)
  | .mon m, d => decide (C.mth d = m)
  | .day n, d => decide (C.day d = if 0 < n then n else ml C.ls (C.num d) + 1 + n)
  | .nth n w, d => decide (C.wkd d = w) && decide ((if 0 < n then C.day d - 1 else ml C.ls (C.num d) - C.day d) / (C.week : Int) + 1 = (n.natAbs : Int))
def ok (C : Cal) : Lf → Prop
  | .wkd w => 0 ≤ w ∧ w < (C.week : Int)
  | .mon m => 1 ≤ m ∧ m ≤ (C.mon : Int)
  | .day n => n ≠ 0 ∧ n.natAbs ≤ 40
  | .nth n w => n ≠ 0 ∧ n.natAbs ≤ 40 ∧ 0 ≤ w ∧ w < (C.week : Int)
  | _ => True
theorem holds_add {C : Cal} (o : C.Ok) (l : Lf) (d t : Int) : l.holds C (d + (C.per : Int) * t) = l.holds C d := by
  apply My.two; (focus intro zzI; simp only [↓ My.mkB zzI (by
  clear zzI
  obtain ⟨a, b, e1, e2, _⟩ := o.split t
  have hn : ml C.ls (C.num (d + (C.per : Int) * t)) = ml C.ls (C.num d) := by rw [e1, o.num_add, ml_add o.ne]
  have hd : C.day (d + (C.per : Int) * t) = C.day d := by rw [e1, o.day_add]
  have hm : C.mth (d + (C.per : Int) * t) = C.mth d := by rw [e1, o.mth_add]
  have hw : C.wkd (d + (C.per : Int) * t) = C.wkd d := by rw [e2, Cal.wkd_add]
  have hi := o.isW_add d t
  cases l <;> simp only [holds, hn, hd, hm, hw, hi]
  )]); intro f; simpa using My.gz f 5 true
end Lf
/-- what may stand behind the nots: a word, or, n deep, a condition in parentheses -/
def Pn : Nat → Type
  | 0 => Lf
  | n + 1 => Lf ⊕ List (List (Nat × Pn n))
/-- a condition: terms of factors, each with its number of nots -/
abbrev Cd (n : Nat) : Type := List (List (Nat × Pn n))
def Pn.holds (C : Cal) : (n : Nat) → Pn n → Int → Bool
  | 0, l, d => Lf.holds C l d
  | _ + 1, .inl l, d => Lf.holds C l d
  | n + 1, .inr ts, d => ts.any fun t => t.all fun f => (f.1 % 2 == 1) ^^ Pn.holds C n f.2 d
def Cd.holds (C : Cal) {n : Nat} (c : Cd n) (d : Int) : Bool := c.any fun t => t.all fun f => (f.1 % 2 == 1) ^^ Pn.holds C n f.2 d
def Pn.ok (C : Cal) : (n : Nat) → Pn n → Prop
  | 0, l => Lf.ok C l
  | _ + 1, .inl l => Lf.ok C l
  | n + 1, .inr ts => (ts ≠ [] ∧ ts.length ≤ 100) ∧ ∀ t ∈ ts, (t ≠ [] ∧ t.length ≤ 100) ∧ ∀ f ∈ t, Pn.ok C n f.2
def Cd.ok (C : Cal) {n : Nat} (c : Cd n) : Prop := (c ≠ [] ∧ c.length ≤ 100) ∧ ∀ t ∈ c, (t ≠ [] ∧ t.length ≤ 100) ∧ ∀ f ∈ t, Pn.ok C n f.2
theorem Pn.holds_add {C : Cal} (o : C.Ok) (d t : Int) : ∀ (n : Nat) (p : Pn n), Pn.holds C n p (d + (C.per : Int) * t) = Pn.holds C n p d
  | 0, l => Lf.holds_add o l d t
  | _ + 1, .inl l => Lf.holds_add o l d t
  | n + 1, .inr ts => by
    apply My.two; (focus intro zzI; simp only [↓ My.mkB zzI (by
    clear zzI
    have ih := Pn.holds_add o d t n
    show (ts.any fun t' => t'.all fun f => (f.1 % 2 == 1) ^^ Pn.holds C n f.2 (d + (C.per : Int) * t)) = (ts.any fun t' => t'.all fun f => (f.1 % 2 == 1) ^^ Pn.holds C n f.2 d)
    simp only [ih]
    )]); intro f; simpa using My.gz f 5 true
theorem Cd.holds_add {C : Cal} (o : C.Ok) {n : Nat} (c : Cd n) (d t : Int) : c.holds C (d + (C.per : Int) * t) = c.holds C d := Pn.holds_add o d t (n + 1) (.inr c)
/-- steps, n deep, with conditions m deep -/
def Stq (m : Nat) : Nat → Type
  | 0 => Pl
  | n + 1 => Pl ⊕ (Nat × List (Stq m n)) ⊕ (Cd m × List (Stq m n) × List (Stq m n))
def Stq.ok (C : Cal) (m : Nat) : (n : Nat) → Stq m n → Prop
  | 0, p => Pl.ok C p
  | _ + 1, .inl p => Pl.ok C p
  | n + 1, .inr (.inl (k, ss)) => k < 10 ^ 12 ∧ (ss ≠ [] ∧ ss.length ≤ 100) ∧ ∀ s ∈ ss, Stq.ok C m n s
  | n + 1, .inr (.inr (c, as, bs)) => c.ok C ∧ (as ≠ [] ∧ as.length ≤ 100) ∧ (∀ s ∈ as, Stq.ok C m n s) ∧ (bs ≠ [] ∧ bs.length ≤ 100) ∧ ∀ s ∈ bs, Stq.ok C m n s
theorem Shf.per {C : Cal} {g : Int → Int} (h : Shf C g) : Per (fun x => g x - x) C.per := fun x => by
  have := h x 1
  rw [Int.mul_one] at this
  show g (x + (C.per : Int)) - (x + (C.per : Int)) = g x - x
  rw [this]
  omega
end My
namespace My
end My
namespace My
open PySem PySem.Spec PyProof.Rows L2
theorem num_tl (m : Nat) : (numT (m : Int)).cps.toList = TL.numL m := TL.tl_num m
theorem numL_head {m : Nat} (h : 0 < m) : ∃ c cs, TL.numL m = c :: cs ∧ c ≠ 48 := by
  apply My.two; (focus intro zzI; simp only [↓ My.mkB zzI (by
  clear zzI
  induction m using Nat.strongRecOn with
  | ind m ih =>
    by_cases h10 : m < 10
    · exact ⟨48 + m, [], TL.numL_lt h10, by omega⟩
    · obtain ⟨c, cs, e, n⟩ := ih (m / 10) (by omega) (by omega)
      exact ⟨c, cs ++ [48 + m % 10], by rw [TL.numL_step (by omega), e]; rfl, n⟩
  )]); intro f; simpa using My.gz f 5 true
/-- the text of a number without a sign -/
structure NumD (W : Str) (m : Nat) (c0 : Nat) (cs : List Nat) : Prop where
  e : W.cps.toList = c0 :: cs
  dg : ∀ c ∈ c0 :: cs, 48 ≤ c ∧ c ≤ 57 ∧ (!(Builtin.Str.occurrences ("0123456789" : Str) ⟨#[c]⟩ 0 ("0123456789" : Str).length 1).isEmpty) = true
  l : W.length = cs.length + 1
  l2 : cs.length ≤ 11
  mi : cutS W none (some 1) ≠ "-"
  it : intText? W = some (m : Int)
  fz : W = "0" ∨ (⟨#[c0]⟩ : Str) ≠ "0"
theorem dig_in {c : Nat} (h1 : 48 ≤ c) (h2 : c ≤ 57) : (!(Builtin.Str.occurrences ("0123456789" : Str) ⟨#[c]⟩ 0 ("0123456789" : Str).length 1).isEmpty) = true := by
  apply My.two; (focus intro zzI; simp only [↓ My.mkB zzI (by
  clear zzI
  have key : (List.range 10).all (fun i => !(Builtin.Str.occurrences ("0123456789" : Str) ⟨#[48 + i]⟩ 0 ("0123456789" : Str).length 1).isEmpty) = true := by decide +kernel
  have h := List.all_eq_true.mp key (c - 48) (List.mem_range.mpr (by omega))
  rw [show 48 + (c - 48) = c by omega] at h
  exact h
  )]); intro f; simpa using My.gz f 5 true
theorem len_cps (W : Str) : W.length = W.cps.toList.length := by rw [Array.length_toList]; rfl
theorem cut_first {W : Str} {c : Nat} {cs : List Nat} (e : W.cps.toList = c :: cs) : cutS W none (some 1) = ⟨#[c]⟩ := by
  apply My.two; (focus intro zzI; simp only [↓ My.mkB zzI (by
  clear zzI
  have l : W.length = cs.length + 1 := by rw [len_cps, e]; rfl
  apply TL.ext_tl
  show (W.cps.toList.drop (HT.sIx W.length 0 none)).take (HT.sIx W.length W.length (some 1) - HT.sIx W.length 0 none) = [c]
  have a1 : HT.sIx W.length 0 none = 0 := rfl
  have a2 : HT.sIx W.length W.length (some 1) = 1 := by
    unfold HT.sIx
    simp
    omega
  rw [a1, a2, e]
  rfl
  )]); intro f; simpa using My.gz f 5 true
theorem cut_rest {W : Str} {c : Nat} {cs : List Nat} (e : W.cps.toList = c :: cs) : (cutS W (some 1) none).cps.toList = cs := by
  apply My.two; (focus intro zzI; simp only [↓ My.mkB zzI (by
  clear zzI
  have l : W.length = cs.length + 1 := by rw [len_cps, e]; rfl
  show (W.cps.toList.drop (HT.sIx W.length 0 (some 1))).take (HT.sIx W.length W.length none - HT.sIx W.length 0 (some 1)) = cs
  have a1 : HT.sIx W.length W.length none = W.length := rfl
  have a2 : HT.sIx W.length 0 (some 1) = 1 := by
    unfold HT.sIx
    simp
    omega
  rw [a1, a2, e, l]
  simp
  )]); intro f; simpa using My.gz f 5 true
theorem one_inj {a b : Nat} (h : (⟨#[a]⟩ : Str) = ⟨#[b]⟩) : a = b := by
  have := congrArg (fun s : Str => s.cps.toList) h
  exact (List.cons.inj this).1
theorem minus_eq : ("-" : Str) = ⟨#[45]⟩ := by decide +kernel
theorem zero_eq : ("0" : Str) = ⟨#[48]⟩ := by decide +kernel
theorem num_d (m : Nat) (h : m < 10 ^ 12) : ∃ c0 cs, NumD (numT (m : Int)) m c0 cs := by
  apply My.two; (focus intro zzI; simp only [↓ My.mkB zzI (by
  clear zzI
  have e := num_tl m
  have dg := TL.numL_digits m
  have ln := TL.numL_len (n := m) (k := 12) (by decide) h
  have it := TL.int_num (n := m) (by omega)
  cases z : TL.numL m with
  | nil => exact absurd z (TL.numL_ne m)
  | cons c0 cs =>
    rw [z] at e dg ln
    have d0 := dg c0 (List.mem_cons_self ..)
    refine ⟨c0, cs, e, fun c hc => ?_, by rw [len_cps, e]; rfl, by rw [List.length_cons] at ln; omega, ?_, it, ?_⟩
    · have d := dg c hc
      exact ⟨d.1, d.2, dig_in d.1 d.2⟩
    · rw [cut_first e, minus_eq]
      intro q
      have := one_inj q
      omega
    · by_cases m0 : m = 0
      · subst m0
        exact .inl rfl
      · obtain ⟨c, cs', e', n⟩ := numL_head (m := m) (by omega)
        rw [z] at e'
        obtain ⟨rfl, rfl⟩ := List.cons.inj e'
        refine .inr fun q => n ?_
        rw [zero_eq] at q
        exact one_inj q
  )]); intro f; simpa using My.gz f 5 true
theorem neg_tl {m : Nat} (h : 0 < m) : (numT (-(m : Int))).cps.toList = 45 :: TL.numL m := by
  apply My.two; (focus intro zzI; simp only [↓ My.mkB zzI (by
  clear zzI
  have e : TL.tl (numT (-(m : Int))) = 45 :: TL.numL m := by
    unfold numT
    rw [PyProof.Rows.toString_neg (by omega), show (0 : Int) - -(m : Int) = (m : Int) by omega, TL.tl_ofString, String.toList_append, List.map_append, ← TL.tl_ofString (toString (m : Int)), TL.tl_num]
    rfl
  exact e
  )]); intro f; simpa using My.gz f 5 true
/-- the text of a number below 0 -/
structure NumN (W : Str) (m : Nat) : Prop where
  l : W.length ≤ 13
  mi : cutS W none (some 1) = "-"
  re : cutS W (some 1) none = numT (m : Int)
  it : intText? W = some (-(m : Int))
  nz : W ≠ "0"
theorem num_n (m : Nat) (h0 : 0 < m) (h : m < 10 ^ 12) : NumN (numT (-(m : Int))) m := by
  apply My.two; (focus intro zzI; simp only [↓ My.mkB zzI (by
  clear zzI
  have e := neg_tl h0
  have dg := TL.numL_digits m
  have ln := TL.numL_len (n := m) (k := 12) (by decide) h
  have l : (numT (-(m : Int))).length = (TL.numL m).length + 1 := by rw [len_cps, e]; rfl
  refine ⟨by omega, by rw [cut_first e, minus_eq], TL.ext_tl ?_, ?_, fun q => ?_⟩
  · show (cutS (numT (-(m : Int))) (some 1) none).cps.toList = (numT (m : Int)).cps.toList
    rw [cut_rest e, num_tl]
  · have := PySem.intText_neg e dg (TL.numL_ne m) (by omega)
    rw [TL.numL_val] at this
    exact this
  · rw [q, zero_eq] at e
    cases e
  )]); intro f; simpa using My.gz f 5 true
/-- what holds of the text of every number of at most twelve digits -/
theorem numT_len {n : Int} (h : n.natAbs < 10 ^ 12) : 1 ≤ (numT n).length ∧ (numT n).length ≤ 13 := by
  apply My.two; (focus intro zzI; simp only [↓ My.mkB zzI (by
  clear zzI
  rcases Int.lt_or_le n 0 with c | c
  · obtain ⟨m, rfl⟩ : ∃ m : Nat, n = -(m : Int) := ⟨n.natAbs, by omega⟩
    have e := neg_tl (m := m) (by omega)
    have ln := TL.numL_len (n := m) (k := 12) (by decide) (by omega)
    rw [len_cps, e, List.length_cons]
    omega
  · obtain ⟨m, rfl⟩ : ∃ m : Nat, n = (m : Int) := ⟨n.natAbs, by omega⟩
    obtain ⟨c0, cs, d⟩ := num_d m (by omega)
    have := d.l
    have := d.l2
    omega
  )]); intro f; simpa using My.gz f 5 true
theorem numT_free {n : Int} : 32 ∉ (numT n).cps.toList := int_text_free' 32 ⟨by decide, by decide⟩ n
end My
namespace My
open PySem PySem.Spec PyProof.Rows L2
section
variable {P : Program} {w : World} {K : Fg} {mg : Str → Option Value} {base : Heap} {k : Nat} {f : Addr} {x qual : Str} {st : Stmt} {dvs : List V} {kws : List (Str × V)} {ps : List Str} {sp : Sp}
theorem FnA.dfl1 {fd1 : FuncData} (F : FnA P w K mg base k f x qual st dvs ps sp) (F1 : FunD K x qual (defArgs st) (defBody st) (defScope st) dvs kws f fd1) (n : Nat) (hd : dvs ≠ []) (hn : n + dvs.length = ps.length)
    (h : ∀ (T : Addr) (kV doc pm : Value) (an : Option Addr) (cdv ct : Value) (us its : List Value), us.length = n → its.length = dvs.length →
      ∃ k, bindArgs (PySem.W.fnOf x qual (defArgs st) (defBody st) (defScope st) (.ref T) kV doc pm an cdv ct) ⟨us, []⟩ = seqItems? (.ref T) >>= k ∧ k (some its.toArray) = pure (ps.zip (us ++ its))) :
    FnR P w K mg base CX0 k f (fun vs H Q E => sp (vs ++ dvs) H Q E) := by
  apply My.two; (focus intro zzI; simp only [↓ My.mkB zzI (by
  clear zzI
  obtain ⟨fd, kws0, F0, G⟩ := F.o
  have e : fd = fd1 := by
    obtain ⟨_, _, _, _, _, _, _, _, _, _, _, lk, _⟩ := F0.ex
    obtain ⟨_, _, _, _, _, _, _, _, _, _, _, lk1, _⟩ := F1.ex
    rw [lk] at lk1
    injection lk1 with lk1
    injection lk1 with _ _ lk1 _
    injection lk1
  subst e
  obtain ⟨ds, d1, d2⟩ := F1.binds1 (ps := ps) n 0 hd (by rw [Nat.sub_zero]; exact hn) h
  exact G.raw d2 d1
  )]); intro f; simpa using My.gz f 5 true
end
end My
namespace My
open PySem PySem.Spec PyProof.Rows L2
theorem call_str_any {X : Cx} : CallR X (.type "str") (fun xs H Q => (∃ i : Int, xs = [.int i] ∧ i.natAbs.log2 < 1920 ∧ Q (.str (toString i)) H) ∨ ∃ a : Str, xs = [.str a] ∧ Q (.str a) H) := by
  apply My.two; (focus intro zzI; simp only [↓ My.mkB zzI (by
  clear zzI
  intro pins s σ H vs us Q I r h
  rcases h with h | h
  · exact call_str_int pins s σ H vs us Q I r h
  · exact SkE.call_str_str pins s σ H vs us Q I r h
  )]); intro f; simpa using My.gz f 5 true
end My
namespace PySem
open PyProof.Rows
theorem sub_list_str' : isSubtype (.type "list") (.type "str") = pure false := by rw [isSubtype_type]; kernel_rfl
theorem sub_list_bytes' : isSubtype (.type "list") (.type "bytes") = pure false := by rw [isSubtype_type]; kernel_rfl
theorem sub_list_bytearray' : isSubtype (.type "list") (.type "bytearray") = pure false := by rw [isSubtype_type]; kernel_rfl
theorem args_sum2 (a b : Value) : argsOk "sum" ⟨[a, b], []⟩ := by unfold argsOk; kernel_rfl
section
variable {prog : Program} {w : World} {A : Around} {E : Value → Shared → Prop} {s : Shared}
theorem add_two {l b : Addr} {vs ws : Array Value} {Q : Value → Shared → Prop} (hl : s.heap.IsList l vs) (hb : s.heap.IsList b ws) (hsz : vs.size + ws.size ≤ sizeLine)
    (h : Q (.ref s.heap.objs.size) { s with heap := s.heap.push { cls := .type "list", data := .seq (vs ++ ws) } }) : wpAny (model prog w) A (binaryOp .Add (.ref l) (.ref b)) Q E s := by
  apply My.two; (focus intro zzI; simp only [↓ My.mkB zzI (by
  clear zzI
  obtain ⟨⟨cls, dd, data, sl⟩, ho, hc, n, hd⟩ := id hl
  obtain ⟨⟨cls2, dd2, data2, sl2⟩, ho2, hc2, n2, hd2⟩ := id hb
  simp only at hc hd hc2 hd2
  subst hc hd hc2 hd2
  exact concat_meets ⟨_, ho, rfl⟩ ⟨_, ho2, rfl⟩ noFill_list_add seq_list_add PySem.F.slot_list_add PySem.F.entry_list_add (PySem.F.args_list_add_2 _ _) (list_addW l b vs ws n n2 dd dd2 sl sl2 hsz) ⟨ho, ho2, h⟩
  )]); intro f; simpa using My.gz f 5 true
end
def catN (xs : Nat → Array Value) : Nat → Array Value
  | 0 => #[]
  | i + 1 => catN xs i ++ xs i
theorem catN_le (xs : Nat → Array Value) {i j : Nat} (h : i ≤ j) : (catN xs i).size ≤ (catN xs j).size := by
  apply My.two; (focus intro zzI; simp only [↓ My.mkB zzI (by
  clear zzI
  induction h with
  | refl => exact Nat.le_refl _
  | step h ih =>
    refine Nat.le_trans ih ?_
    show _ ≤ (catN xs _ ++ xs _).size
    rw [Array.size_append]
    omega
  )]); intro f; simpa using My.gz f 5 true
section
variable {prog : Program} {w : World} {A : Around} {R : Result → Shared → Prop} {I : Addr} {fp wr : List Addr} {n : Nat} {P : Nat → Value → Prop} {St : Nat → Heap → Prop}
theorem sumL_loop (W : Walks prog w A.in1 I fp wr n P St) (b : Nat → Addr) (xs : Nat → Array Value) (hP : ∀ i v, P i v → v = .ref (b i)) (S : Addr) (hSf : S ∉ fp) (hbw : ∀ i, i < n → b i ∉ wr) (hbS : ∀ i, i < n → b i ≠ S)
    (hz : (catN xs n).size ≤ sizeLine) (hwS : ∀ x ∈ wr, x < S) (n0 : 0 < n) :
    ∀ (k i : Nat) (s : Shared) (L : Addr) (c : Nat), n - i = k → i ≤ n → St i s.heap → s.heap.IsList L (catN xs i) → L ≠ S → L ∉ wr → (0 < i → S < L ∧ s.heap.get? L = some { cls := .type "list", data := .seq (catN xs i) }) → (∀ j, j < n → s.heap.IsList (b j) (xs j)) →
    s.heap.get? S = some { cls := .type "list", dict := none, data := .seq #[.ref L] c, slots := #[] } →
    (∀ h' tk L', S < L' → h'.get? L' = some { cls := .type "list", data := .seq (catN xs n) } → (∀ b o, b ∉ wr → b ≠ S → s.heap.get? b = some o → h'.get? b = some o) → R (.ok (.ret (.ref L'))) { s with heap := h', toks := tk }) →
    codeAny (model prog w) A (.builtin "sum.loop" ⟨[.ref I, .ref S, rawInt 2, rawInt 0], []⟩) R s := by
  apply My.two; (focus intro zzI; simp only [↓ My.mkB zzI (by
  clear zzI
  have nw : S ∉ wr := fun z => hSf (W.sub _ z)
  intro k
  induction k with
  | zero =>
    intro i s L c hk hi st hL LS Lw hi0 hb eS r
    have en : i = n := by omega
    subst en
    refine codeAny_builtin F.entry_sum_loop ?_
    rw [Around.under_plainId F.plain_sum_loop _]
    show wpAny _ A.in1 (seqItems? (.ref S) >>= _) _ _ s
    refine wpAny_bind (wpAny_seqItems eS rfl ?_)
    show wpAny _ A.in1 (tryCatch (pyNext (.ref I)) _ >>= _) _ _ s
    refine wpAny_bind (wpAny_tryCatch (W.done s _ _ st fun g tk kp => ?_))
    obtain ⟨h1, h2⟩ := hi0 n0
    exact wpAny_pure (r g tk L h1 (kp L _ Lw h2) fun b o nb _ e => kp b o nb e)
  | succ k ih =>
    intro i s L c hk hi st hL LS Lw hi0 hb eS r
    have lt : i < n := by omega
    refine codeAny_builtin F.entry_sum_loop ?_
    rw [Around.under_plainId F.plain_sum_loop _]
    show wpAny _ A.in1 (seqItems? (.ref S) >>= _) _ _ s
    refine wpAny_bind (wpAny_seqItems eS rfl ?_)
    show wpAny _ A.in1 (tryCatch (pyNext (.ref I)) _ >>= _) _ _ s
    refine wpAny_bind (wpAny_tryCatch (W.item i s _ _ lt st fun v g tk pv st2 kp => ?_))
    obtain rfl := hP i v pv
    have eS2 := kp S _ nw eS
    have keepL : ∀ {a : Addr} {its : Array Value}, a ∉ wr → s.heap.IsList a its → g.IsList a its := fun {a its} na ⟨o, ho, q⟩ => ⟨o, kp a o na ho, q⟩
    show wpAny _ A.in1 ((holding [Value.ref (b i)] (binaryOp .Add (.ref L) (.ref (b i)))).attempt >>= _) _ _ _
    have sz1 : (catN xs i).size + (xs i).size ≤ sizeLine := by
      have h1 := catN_le xs (i := i + 1) (j := n) lt
      have h2 : (catN xs (i + 1)).size = (catN xs i).size + (xs i).size := Array.size_append
      omega
    refine wpAny_bind (wpAny_attempt (wpAny_holding (add_two (keepL Lw hL) (keepL (hbw i lt) (hb i lt)) sz1 ?_)))
    obtain ⟨G, hG⟩ : ∃ G : Heap, G = g.push { cls := .type "list", data := .seq (catN xs i ++ xs i) } := ⟨_, rfl⟩
    obtain ⟨L2, hL2⟩ : ∃ L2 : Addr, L2 = g.objs.size := ⟨_, rfl⟩
    have e2 : G.get? L2 = some { cls := .type "list", data := .seq (catN xs (i + 1)) } := by rw [hG, hL2]; exact Heap.get?_push_size _ rfl
    have kG : ∀ b o, g.get? b = some o → G.get? b = some o := fun b o e => by rw [hG]; exact Heap.get?_push_of_some _ e
    have SL2 : S < L2 := by rw [hL2]; exact Heap.lt_size eS2
    show wpAny _ A.in1 (updateSeq S (fun _ => #[.ref g.objs.size]) >>= _) _ _ { s with heap := g.push { cls := .type "list", data := .seq (catN xs i ++ xs i) }, toks := tk }
    rw [← hG, ← hL2]
    clear hG hL2
    have eS3 := kG S _ eS2
    refine wpAny_bind (wpAny_updateSeq eS3 rfl ?_)
    have eS4 := Heap.get?_update_self (Obj.mapSeq fun _ => #[Value.ref L2]) eS3 rfl
    refine wpAny_bind (wpAny_letGo ?_)
    refine wpAny_bind (wpAny_updateSeq eS4 rfl (wpAny_pure ⟨plainId_quiet F.plain_sum_loop _, ?_⟩))
    have eS5 := Heap.get?_update_self (Obj.mapSeq fun _ => #[Value.ref L2]) eS4 rfl
    have up : ∀ b o, b ≠ S → G.get? b = some o → ((G.update S (Obj.mapSeq fun _ => #[Value.ref L2])).update S (Obj.mapSeq fun _ => #[Value.ref L2])).get? b = some o := fun b o nb e =>
      (Heap.get?_update_other _ _ (Ne.symm nb)).trans ((Heap.get?_update_other _ _ (Ne.symm nb)).trans e)
    have e5 := up L2 _ (Nat.ne_of_gt SL2) e2
    refine ih (i + 1) _ L2 _ (by omega) lt (W.frame _ _ _ st2 fun b hf o e => up b o (fun z => hSf (z ▸ hf)) (kG b o e)) ⟨_, e5, rfl, _, rfl⟩ (Nat.ne_of_gt SL2) (fun z => absurd (hwS _ z) (Nat.lt_asymm SL2)) (fun _ => ⟨SL2, e5⟩) (fun j hj => ?_) eS5 fun h' tk' L' l1 l2 kp' => ?_
    · obtain ⟨o, ho, q⟩ := keepL (hbw j hj) (hb j hj)
      exact ⟨o, up _ o (hbS j hj) (kG _ o ho), q⟩
    · exact r h' tk' L' l1 l2 fun b o nb nS e => kp' b o nb nS (up b o nS (kG b o (kp b o nb e)))
  )]); intro f; simpa using My.gz f 5 true
end
section
variable {prog : Program} {w : World} {A : Around} {E : Value → Shared → Prop} {s : Shared}
theorem sumL_call {a c0 : Addr} {bs : List Addr} {xs : Nat → Array Value} {Q : Value → Shared → Prop} (hh : A.handled = none) (ha : s.heap.IsList a (bs.map Value.ref).toArray) (hc : s.heap.IsList c0 #[]) (n0 : 0 < bs.length) (hb : ∀ j (h : j < bs.length), s.heap.IsList bs[j] (xs j)) (hz : (catN xs bs.length).size ≤ sizeLine)
    (k : ∀ h' tk L', s.heap.objs.size ≤ L' → h'.get? L' = some { cls := .type "list", data := .seq (catN xs bs.length) } → (∀ b o, s.heap.get? b = some o → h'.get? b = some o) → Q (.ref L') { s with heap := h', toks := tk }) :
    wpAny (model prog w) A (call (.builtin "sum") [.ref a, .ref c0]) Q E s := by
  apply My.two; (focus intro zzI; simp only [↓ My.mkB zzI (by
  clear zzI
  refine call_function_tree F.kind_sum F.plain_sum F.entry_sum (args_sum2 _ _) ?_
  unfold Builtin.«sum»
  simp only [List.length_cons, List.length_nil]
  rw [if_neg (by decide)]
  refine wpAny_bind (wpAny_of_eq (show Builtin.Builtins.bindParams "sum" ["start"] 0 ⟨[.ref c0], []⟩ = pure [some (.ref c0)] from rfl) ?_)
  refine wpAny_bind (L2.iter_anyList ha fun t et st hf hla => ?_)
  subst et
  refine wpAny_bind (wpAny_pure ?_)
  have kp0 : ∀ b o, s.heap.get? b = some o → (s.heap.push { cls := .type "list_iterator", data := .fields #[.ref a, .int 0 0] }).get? b = some o := fun b o e => Heap.get?_push_of_some _ e
  have hc2 : (s.heap.push { cls := .type "list_iterator", data := .fields #[.ref a, .int 0 0] }).IsList c0 #[] := by
    obtain ⟨o, ho, q⟩ := hc
    exact ⟨o, kp0 _ _ ho, q⟩
  simp only [List.forIn_cons, List.forIn_nil]
  refine wpAny_bind (wpAny_bind (wpAny_bind (wpAny_isInstance (T := "list") (b := false) hc2.typeIs sub_list_str' ?_)))
  simp only [Bool.false_eq_true, if_false]
  refine wpAny_pure (wpAny_bind (wpAny_bind (wpAny_isInstance (T := "list") (b := false) hc2.typeIs sub_list_bytes' ?_)))
  simp only [Bool.false_eq_true, if_false]
  refine wpAny_pure (wpAny_bind (wpAny_bind (wpAny_isInstance (T := "list") (b := false) hc2.typeIs sub_list_bytearray' ?_)))
  simp only [Bool.false_eq_true, if_false]
  refine wpAny_pure (wpAny_pure ?_)
  refine wpAny_bind (wpAny_newObj_type ?_)
  obtain ⟨S, hS⟩ : ∃ S : Nat, (s.heap.push { cls := .type "list_iterator", data := .fields #[.ref a, .int 0 0] }).objs.size = S := ⟨_, rfl⟩
  have hS2 : S = s.heap.objs.size + 1 := by rw [← hS, Heap.size_push]
  have hS3 : s.heap.objs.size < S := by rw [hS2]; exact Nat.lt_succ_self _
  have ltS : ∀ {b : Addr} {o : Obj}, s.heap.get? b = some o → b < s.heap.objs.size := fun e => Heap.lt_size e
  have bat : ∀ i (h : i < bs.length), bs[i] < s.heap.objs.size := fun i h => by
    obtain ⟨o, ho, _⟩ := hb i h
    exact ltS ho
  have gd : ∀ i (h : i < bs.length), bs.getD i 0 = bs[i] := fun i h => by
    rw [List.getD_eq_getElem?_getD, List.getElem?_eq_getElem h]
    rfl
  have cat : c0 < s.heap.objs.size := by
    obtain ⟨o, ho, _⟩ := hc
    exact ltS ho
  have nS : S ∉ [s.heap.objs.size, a] := fun hm => by
    have h2 : S < (s.heap.push { cls := .type "list_iterator", data := .fields #[.ref a, .int 0 0] }).objs.size := hf _ hm
    omega
  have kp1 : ∀ b o, s.heap.get? b = some o → ((s.heap.push { cls := .type "list_iterator", data := .fields #[.ref a, .int 0 0] }).push { cls := .type "list", data := .seq #[Value.ref c0] }).get? b = some o := fun b o e => Heap.get?_push_of_some _ (kp0 b o e)
  refine wpAny_pure ⟨plainId_quiet F.plain_sum_loop _, ?_⟩
  have hmap : (bs.map Value.ref).toArray.size = bs.length := by simp
  have W := Walks.list (prog := prog) (w := w) (A := A.in1) hh s.heap.objs.size a hla (bs.map Value.ref).toArray
  rw [hmap] at W
  have st1 := W.frame 0 _ ((s.heap.push { cls := .type "list_iterator", data := .fields #[.ref a, .int 0 0] }).push { cls := .type "list", data := .seq #[Value.ref c0] }) st fun b _ o e => Heap.get?_push_of_some _ e
  rw [hS]
  refine sumL_loop W (fun i => bs.getD i 0) xs (fun i v pv => ?_) S nS (fun i hi => ?_) (fun i hi => ?_) hz (fun x hx => ?_) n0 bs.length 0 _ c0 0 rfl (Nat.zero_le _) ?_ ?_ ?_ ?_ (fun z => absurd z (Nat.lt_irrefl _)) (fun j hj => ?_) ?_ fun h' tk L' l1 l2 kp => ?_
  · have : (bs.map Value.ref)[i]? = some v := by simpa using pv
    rw [List.getElem?_map] at this
    cases hb2 : bs[i]? with
    | none => rw [hb2] at this; cases this
    | some y =>
      rw [hb2] at this
      cases this
      rw [List.getD_eq_getElem?_getD, hb2]
      rfl
  · have h1 := bat i hi
    intro z
    rw [← gd i hi, show bs.getD i 0 = _ from List.mem_singleton.mp z] at h1
    exact Nat.lt_irrefl _ h1
  · have h1 := bat i hi
    intro z
    rw [← gd i hi, show bs.getD i 0 = S from z] at h1
    exact Nat.lt_asymm h1 hS3
  · rw [List.mem_singleton.mp hx]
    exact hS3
  · exact st1
  · obtain ⟨o, ho, q⟩ := hc
    exact ⟨o, kp1 _ _ ho, q⟩
  · intro z
    rw [z] at cat
    exact Nat.lt_asymm cat hS3
  · intro z
    rw [List.mem_singleton.mp z] at cat
    exact Nat.lt_irrefl _ cat
  · obtain ⟨o, ho, q⟩ := hb j hj
    exact ⟨o, by show _ = _; rw [gd j hj]; exact kp1 _ _ ho, q⟩
  · rw [← hS]
    exact Heap.get?_push_size _ rfl
  · refine k h' tk L' (Nat.le_of_lt (Nat.lt_trans hS3 l1)) l2 fun b o e => kp b o (fun z => ?_) (fun z => ?_) (kp1 b o e)
    · have := ltS e
      rw [List.mem_singleton.mp z] at this
      exact Nat.lt_irrefl _ this
    · have h1 := ltS e
      rw [z] at h1
      exact Nat.lt_asymm h1 hS3
  )]); intro f; simpa using My.gz f 5 true
end
end PySem
namespace My
open PySem PySem.Spec PyProof.Rows L2
theorem catN_list {xs : Nat → Array Value} : ∀ {vss : List (List Value)}, (∀ j vs, vss[j]? = some vs → xs j = vs.toArray) → catN xs vss.length = vss.flatten.toArray := by
  apply My.two; (focus intro zzI; simp only [↓ My.mkB zzI (by
  clear zzI
  intro vss
  have key : ∀ k, k ≤ vss.length → (∀ j vs, vss[j]? = some vs → xs j = vs.toArray) → catN xs k = (vss.take k).flatten.toArray := by
    intro k
    induction k with
    | zero =>
      intro _ _
      rw [List.take_zero]
      rfl
    | succ k ih =>
      intro hk h
      have e : vss[k]? = some vss[k] := List.getElem?_eq_getElem hk
      show catN xs k ++ xs k = _
      rw [ih (by omega) h, h k _ e, List.take_add_one, e, List.flatten_append]
      show _ = ((vss.take k).flatten ++ (vss[k] ++ [])).toArray
      rw [List.append_nil]
      simp
  intro h
  have := key vss.length (Nat.le_refl _) h
  rw [List.take_length] at this
  exact this
  )]); intro f; simpa using My.gz f 5 true
/-- sum(xs, []) -/
def rSumL (K : Fg) : List V → Hp → VK → Prop := fun vs H Q => ∃ (a c : Addr) (bs : List Addr) (xss : List (List V)), vs = [.ref a, .ref c] ∧ SqL K H a (bs.map V.ref) ∧ SqL K H c [] ∧ Paired (fun b xs => SqL K H b xs) bs xss ∧ 0 < bs.length ∧ xss.flatten.length ≤ sizeLine ∧
  ∀ L : Addr, H L = none → Q (.ref L) (upd H L (.lst xss.flatten))
theorem lists_raw {X : Cx} {pins : List (Addr × Obj)} {σ : L2.St} {H : Hp} {s : Shared} (I : Inv X pins σ H s) : ∀ {bs : List Addr} {xss : List (List V)}, Paired (fun b xs => SqL X.K H b xs) bs xss →
    ∃ vss : List (List Value), Paired (fun xs vs => Vals xs vs) xss vss ∧ Paired (fun b vs => s.heap.IsList b vs.toArray) bs vss
  | _, _, .nil => ⟨[], .nil, .nil⟩
  | _, _, .cons h r => by
    apply My.two; (focus intro zzI; simp only [↓ My.mkB zzI (by
    clear zzI
    obtain ⟨vss, h1, h2⟩ := lists_raw I r
    obtain ⟨its, rv, pl, _⟩ := I.list h
    exact ⟨its :: vss, .cons rv h1, .cons pl.isList h2⟩
    )]); intro f; simpa using My.gz f 5 true
theorem vals_flat : ∀ {xss : List (List V)} {vss : List (List Value)}, Paired (fun xs vs => Vals xs vs) xss vss → Vals xss.flatten vss.flatten
  | _, _, .nil => .nil
  | _, _, .cons h r => by
    rw [List.flatten_cons, List.flatten_cons]
    exact Vals.append h (vals_flat r)
theorem paired_at {α β : Type} {R : α → β → Prop} : ∀ {xs : List α} {ys : List β}, Paired R xs ys → ∀ {j : Nat} {x : α} {y : β}, xs[j]? = some x → ys[j]? = some y → R x y
  | _, _, .nil, _, _, _, h, _ => by cases h
  | _, _, .cons h _, 0, _, _, e1, e2 => by
    apply My.two; (focus intro zzI; simp only [↓ My.mkB zzI (by
    clear zzI
    cases e1
    cases e2
    exact h
    )]); intro f; simpa using My.gz f 5 true
  | _, _, .cons _ r, j + 1, _, _, e1, e2 => paired_at r (j := j) e1 e2
theorem cr_sumL {X : Cx} (hc : X.calm = true) : CallR X (.builtin "sum") (rSumL X.K) := by
  apply My.two; (focus intro zzI; simp only [↓ My.mkB zzI (by
  clear zzI
  intro pins s σ H vs us Q I r h
  obtain ⟨a, c, bs, xss, rfl, hs, hn, hp, b0, hz, q⟩ := h
  obtain ⟨v1, v2, rfl, e1, e2⟩ : ∃ v1 v2 : Value, us = [v1, v2] ∧ v1 = .ref a ∧ v2 = .ref c := by
    cases r with
    | cons r1 r2 =>
      cases r2 with
      | cons r3 r4 =>
        cases r4
        exact ⟨_, _, rfl, r1, r3⟩
  subst e1 e2
  obtain ⟨its, rv, pl, _⟩ := I.list hs
  obtain ⟨its0, rv0, pl0, _⟩ := I.list hn
  cases rv0
  obtain ⟨vss, h1, h2⟩ := lists_raw I hp
  have ei : its = bs.map Value.ref := nts_of rv
  have hl := pl.isList
  rw [ei] at hl
  have vl : vss.length = bs.length := (Paired.length h2).symm
  have xv : Vals xss.flatten vss.flatten := vals_flat h1
  have ec : catN (fun j => (vss.getD j []).toArray) bs.length = vss.flatten.toArray := by
    rw [← vl]
    refine catN_list fun j ws e => ?_
    rw [List.getD_eq_getElem?_getD, e]
    rfl
  refine sumL_call (I.ok.hd hc) hl pl0.isList b0 (xs := fun j => (vss.getD j []).toArray) (fun j hj => ?_) ?_ fun g tk L l1 l2 kp => ?_
  · have hj2 : j < vss.length := by omega
    rw [List.getD_eq_getElem?_getD, List.getElem?_eq_getElem hj2]
    exact paired_at h2 (List.getElem?_eq_getElem hj) (List.getElem?_eq_getElem hj2)
  · rw [ec, List.size_toArray, ← xv.length]
    exact hz
  · rw [ec] at l2
    have nL : s.heap.get? L = none := by
      cases q : s.heap.get? L with
      | none => rfl
      | some o => exact absurd (Heap.lt_size q) (Nat.not_lt.mpr l1)
    have nn : H L = none := I.hok.fresh l1
    exact ⟨.ref _, upd H L (.lst xss.flatten), I.laidN (t' := tk) kp nL nn ⟨hz, vss.flatten, 0, xv, l2⟩, rfl, q _ nn⟩
  )]); intro f; simpa using My.gz f 5 true
section
variable {fa : List (Fg → Bool)} {fn : List He5.DefA} {K : Fg} {mg : Str → Option Value} {X : Cx}
theorem sumL_k (T : TxOf fa fn K mg) (hc : X.calm = true) (hK : X.K = K := by rfl) : CallR X (.builtin "sum") (rSumL K) := by
  subst hK
  exact cr_sumL hc
end
end My
namespace Lw
open PySem PySem.Spec PyProof.Rows L2 My
/-- a dict of ints -/
def DictI (kvs : List (Key × V)) (val : Int → Option Int) : Prop := ∀ r : Int, valV kvs (.inl r) = (val r).map V.int
theorem DictI.put {kvs : List (Key × V)} {val : Int → Option Int} (h : DictI kvs val) (q s : Int) : DictI (putK kvs (.inl q) (.int s)) (fun r => if r = q then some s else val r) := by
  apply My.two; (focus intro zzI; simp only [↓ My.mkB zzI (by
  clear zzI
  intro r
  rw [valV_put]
  by_cases e : r = q
  · subst e
    simp
  · have : ¬ (Sum.inl r : Key) = Sum.inl q := fun z => e (Sum.inl.inj z)
    rw [if_neg this]
    show _ = (if r = q then some s else val r).map V.int
    rw [if_neg e]
    exact h r
  )]); intro f; simpa using My.gz f 5 true
section
variable {K : Fg}
/-- a list or a tuple of ints -/
def SeqI (H : Hp) (a : Addr) (o : List Int) : Prop := H a = some (.lst (o.map V.int)) ∨ H a = some (.tup (o.map V.int))
theorem seqI_same {H H' : Hp} {a : Addr} {o : List Int} (h : SeqI H a o) (s : Same H H') : SeqI H' a o := h.elim (fun h => .inl (s _ _ h)) fun h => .inr (s _ _ h)
theorem seqI_sq {K : Fg} {H : Hp} {a : Addr} {o : List Int} (h : SeqI H a o) : SqL K H a (o.map V.int) ∨ SqT K H a (o.map V.int) := h.elim (fun h => .inl (SqL.of h)) fun h => .inr (SqT.of h)
theorem kit_list : PySem.W.kitAny K (.type "list") [.type "list", .type "tuple"] = some true := kitAny_cons (b := true) (kit_ty (by decide +kernel)) (fun h => nomatch h) (fun _ => rfl)
theorem kit_tuple : PySem.W.kitAny K (.type "tuple") [.type "list", .type "tuple"] = some true :=
  kitAny_cons (b := false) (kit_ty (by decide +kernel)) (fun _ => kitAny_cons (b := true) (kit_ty (by decide +kernel)) (fun h => nomatch h) (fun _ => rfl)) (fun h => nomatch h)
theorem seqI_ty {H : Hp} {a : Addr} {o : List Int} (h : SeqI H a o) : ∃ t, TyX K H (.ref a) t ∧ PySem.W.kitAny K t [.type "list", .type "tuple"] = some true :=
  h.elim (fun h => ⟨_, .base (.lst h), kit_list⟩) fun h => ⟨_, .base (.tup h), kit_tuple⟩
end
end Lw
namespace Lw
open PySem PySem.Spec PyProof.Rows L2 My
section
variable {P : Program} {w : World} {K : Fg} {mg : Str → Option Value} {base : Heap}
def sp_is_integer : Sp := fun vs H Q _ => ∃ i : Int, vs = [.int i] ∧ Q (.bl true) H
theorem ok_is_integer (T : Tx K mg) : FnR P w K mg base CX0 1 (He.ga K "is_integer") sp_is_integer := by
  apply My.two; (focus intro zzI; simp only [↓ My.mkB zzI (by
  clear zzI
  refine (T.fnR 45 (st := s_is_integer) (at_ := fun K => He.ga K "is_integer") rfl sc_is_integer (fun _ _ _ _ _ _ us hl => match us, hl with | [_], _ => rfl)) (fun vs H Q E h => ?_) (fun cdv A outer s H vs Q E hr h => ?_)
  · obtain ⟨i, rfl, _⟩ := h
    rfl
  · obtain ⟨i, rfl, q⟩ := h
    refine ⟨_, (pss_one (ps_ret (pe_and (pe_callB (isi_k T) (by rfl) T.n_isinstance (by decide +kernel) (pa_cons (pv 0) (pa_cons (pe_bltn (v := .ty "int") (u := .type "int") rfl T.n_int (by decide +kernel) rfl) pa_nil))) (pe_one (pe_not (pe_callB (isi_k T) (by rfl) T.n_isinstance (by decide +kernel) (pa_cons (pv 0) (pa_cons (pe_bltn (v := .ty "bool") (u := .type "bool") rfl T.n_bool (by decide +kernel) rfl) pa_nil)))))))), ?_⟩
    refine ⟨_, rfl, _, _, _, _, true, rfl, .ty "int", .base (.int i), kit_ty (by decide +kernel), _, rfl, iteT ?_⟩
    exact ⟨_, rfl, _, _, _, _, false, rfl, .ty "bool", .base (.int i), kit_ty (by decide +kernel), _, rfl, q⟩
  )]); intro f; simpa using My.gz f 5 true
theorem c_is_integer {X : Cx} {k : Nat} {t : TA} {e : Expr} {es : List Expr} {np pos : Pos} (T : Tx K mg) (hr : Room k X.A) (ha : PA X (e :: es) t) (hk : 1 ≤ k := by decide) (hK : X.K = K := by rfl) (hm : X.mg = mg := by rfl)
    (hg : Gl X "is_integer" := by rfl) (hse : starEach (e :: es) X.env = (false, eval e X.env) :: starEach es X.env := by rfl) (hpl : (backTo pos (starEach es X.env)).any (·.1) = false := by rfl) :
    PE X (.Call (.Name "is_integer" np) (e :: es) [] pos) (tFn sp_is_integer E0 t) := by
  subst hK
  subst hm
  exact pe_fR (ok_is_integer T) T.kp_is_integer T.g_is_integer (hr.mono hk) pass0 ha hg (by decide) hse hpl
def sp_is_period : Sp := fun vs H Q _ => ∃ i : Int, vs = [.int i] ∧ 1 ≤ i ∧ i ≤ 200000 ∧ Q (.bl true) H
theorem ok_is_period (T : Tx K mg) : FnR P w K mg base CX0 2 (He.ga K "is_period") sp_is_period := by
  apply My.two; (focus intro zzI; simp only [↓ My.mkB zzI (by
  clear zzI
  refine (T.fnR 46 (st := s_is_period) (at_ := fun K => He.ga K "is_period") rfl sc_is_period (fun _ _ _ _ _ _ us hl => match us, hl with | [_], _ => rfl)) (fun vs H Q E h => ?_) (fun cdv A outer s H vs Q E hr h => ?_)
  · obtain ⟨i, rfl, _⟩ := h
    rfl
  · obtain ⟨i, rfl, h1, h2, q⟩ := h
    refine ⟨_, (pss_one (ps_ret (pe_and (c_is_integer T hr (pa_cons (pv 0) pa_nil)) (pe_one (pe_chain op_le op_le pe_int (pv 0) (pe_glob (v := .int 200000) rfl (T.g_MAX_PERIOD).choose_spec ⟨_, rfl⟩)))))), ?_⟩
    refine ⟨_, rfl, i, rfl, true, rfl, iteT ?_⟩
    refine ⟨_, rfl, _, _, rfl, rfl, _, rfl, ?_⟩
    rw [decide_eq_true h1]
    refine iteT ⟨_, _, rfl, rfl, ?_⟩
    show Q (.bl (decide (i ≤ 200000))) H
    rw [decide_eq_true h2]
    exact q
  )]); intro f; simpa using My.gz f 5 true
theorem c_is_period {X : Cx} {k : Nat} {t : TA} {e : Expr} {es : List Expr} {np pos : Pos} (T : Tx K mg) (hr : Room k X.A) (ha : PA X (e :: es) t) (hk : 2 ≤ k := by decide) (hK : X.K = K := by rfl) (hm : X.mg = mg := by rfl)
    (hg : Gl X "is_period" := by rfl) (hse : starEach (e :: es) X.env = (false, eval e X.env) :: starEach es X.env := by rfl) (hpl : (backTo pos (starEach es X.env)).any (·.1) = false := by rfl) :
    PE X (.Call (.Name "is_period" np) (e :: es) [] pos) (tFn sp_is_period E0 t) := by
  subst hK
  subst hm
  exact pe_fR (ok_is_period T) T.kp_is_period T.g_is_period (hr.mono hk) pass0 ha hg (by decide) hse hpl
def sp_common_divisor : Sp := fun vs H Q _ => ∃ a b : Nat, vs = [.int (a : Int), .int (b : Int)] ∧ Q (.int (Nat.gcd a b : Nat)) H
theorem ok_common_divisor (T : Tx K mg) : FnR P w K mg base CX0 1 (He.ga K "common_divisor") sp_common_divisor := by
  apply My.two; (focus intro zzI; simp only [↓ My.mkB zzI (by
  clear zzI
  refine (T.fnR 47 (st := s_common_divisor) (at_ := fun K => He.ga K "common_divisor") rfl sc_common_divisor (fun _ _ _ _ _ _ us hl => match us, hl with | [_, _], _ => rfl)) (fun vs H Q E h => ?_) (fun cdv A outer s H vs Q E hr h => ?_)
  · obtain ⟨a, b, rfl, _⟩ := h
    rfl
  · obtain ⟨a, b, rfl, q⟩ := h
    refine ⟨_, (pss_cons (ps_par (i := 0) (j := 1) (by rfl) sc_common_divisor.nd rfl rfl (by decide) rfl rfl (pa_cons (pe_callB call_abs (by rfl) T.n_abs (by decide +kernel) (pa_cons (pv 0) pa_nil)) (pa_cons (pe_callB call_abs (by rfl) T.n_abs (by decide +kernel) (pa_cons (pv 1) pa_nil)) pa_nil)) (by rfl))
 (pss_cons (ps_while PassesOwn.never (pt_cmpR op_gt (pv 1) pe_int (nomark _))
 (pss_one (ps_par (i := 0) (j := 1) (by rfl) sc_common_divisor.nd rfl rfl (by decide) rfl rfl (pa_cons (pv 1) (pa_cons (pe_op op_mod (pv 0) (pv 1)) pa_nil)) (by rfl))))
 (pss_one (ps_ret (pv 0))))), ?_⟩
    refine ⟨_, rfl, _, rfl, _, rfl, _, rfl, _, _, rfl, ?_⟩
    refine ⟨fun m σ H' => ∃ x y : Nat, σ = [some (.int (x : Int)), some (.int (y : Int))] ∧ H' = H ∧ Nat.gcd x y = Nat.gcd a b ∧ m = y, ⟨b, a, b, ?_, rfl, rfl, rfl⟩, ?_⟩
    · rw [abs_nat, abs_nat]
      rfl
    · rintro m σ H' ⟨x, y, rfl, rfl, hg, rfl⟩
      refine ⟨_, rfl, _, _, rfl, rfl, _, rfl, ?_⟩
      refine ite2 (fun hc => wh_go ?_) (fun hc => ?_)
      · have hy : 0 < m := by
          have := of_decide_eq_true hc
          omega
        refine ⟨_, rfl, _, rfl, _, rfl, _, _, rfl, rfl, (by show (0 : Int) < (m : Int); omega), _, _, rfl, ?_⟩
        refine ⟨x % m, Nat.mod_lt _ hy, m, x % m, ?_, rfl, ?_, rfl⟩
        · show [some (V.int (m : Int)), some (V.int ((x : Int) % (m : Int)))] = _
          rw [Int.natCast_emod]
        · rw [← hg, Nat.gcd_comm x m, Nat.gcd_rec m x]
          exact Nat.gcd_comm _ _
      · have hy : m = 0 := by
          have := of_decide_eq_false (Bool.eq_false_iff.mpr hc)
          omega
        subst hy
        refine ⟨_, rfl, ?_⟩
        rw [Nat.gcd_zero_right] at hg
        rw [hg]
        exact q
  )]); intro f; simpa using My.gz f 5 true
theorem c_common_divisor {X : Cx} {k : Nat} {t : TA} {e : Expr} {es : List Expr} {np pos : Pos} (T : Tx K mg) (hr : Room k X.A) (ha : PA X (e :: es) t) (hk : 1 ≤ k := by decide) (hK : X.K = K := by rfl) (hm : X.mg = mg := by rfl)
    (hg : Gl X "common_divisor" := by rfl) (hse : starEach (e :: es) X.env = (false, eval e X.env) :: starEach es X.env := by rfl) (hpl : (backTo pos (starEach es X.env)).any (·.1) = false := by rfl) :
    PE X (.Call (.Name "common_divisor" np) (e :: es) [] pos) (tFn sp_common_divisor E0 t) := by
  subst hK
  subst hm
  exact pe_fR (ok_common_divisor T) T.kp_common_divisor T.g_common_divisor (hr.mono hk) pass0 ha hg (by decide) hse hpl
def sp_common_multiple : Sp := fun vs H Q _ => ∃ a b : Nat, vs = [.int (a : Int), .int (b : Int)] ∧ 0 < a ∧ 0 < b ∧ a ≤ 200000 ∧ b ≤ 200000 ∧ Q (.int (Nat.lcm a b : Nat)) H
theorem ok_common_multiple (T : Tx K mg) : FnR P w K mg base CX0 2 (He.ga K "common_multiple") sp_common_multiple := by
  apply My.two; (focus intro zzI; simp only [↓ My.mkB zzI (by
  clear zzI
  refine (T.fnR 48 (st := s_common_multiple) (at_ := fun K => He.ga K "common_multiple") rfl sc_common_multiple (fun _ _ _ _ _ _ us hl => match us, hl with | [_, _], _ => rfl)) (fun vs H Q E h => ?_) (fun cdv A outer s H vs Q E hr h => ?_)
  · obtain ⟨a, b, rfl, _⟩ := h
    rfl
  · obtain ⟨a, b, rfl, ha, hb, la, lb, q⟩ := h
    refine ⟨_, (pss_one (ps_ret (pe_op op_mul (pe_op op_fdiv (pv 0) (c_common_divisor T hr (pa_cons (pv 0) (pa_cons (pv 1) pa_nil)))) (pv 1)))), ?_⟩
    have hg : 0 < Nat.gcd a b := Nat.gcd_pos_of_pos_left _ ha
    have hg2 : Nat.gcd a b ≤ a := Nat.gcd_le_left _ ha
    refine ⟨_, rfl, _, rfl, _, rfl, a, b, rfl, _, _, rfl, rfl, ⟨by omega, by omega⟩, _, rfl, _, _, rfl, rfl, .inr ⟨by omega, by omega⟩, ?_⟩
    have e : ((a : Int) / ((Nat.gcd a b : Nat) : Int)) * (b : Int) = ((Nat.lcm a b : Nat) : Int) := by
      rw [← Int.natCast_ediv, ← Int.natCast_mul, Nat.lcm, Nat.mul_comm (a / Nat.gcd a b) b, ← Nat.mul_div_assoc _ (Nat.gcd_dvd_left a b), Nat.mul_comm]
    show Q (.int (((a : Int) / ((Nat.gcd a b : Nat) : Int)) * (b : Int))) H
    rw [e]
    exact q
  )]); intro f; simpa using My.gz f 5 true
theorem c_common_multiple {X : Cx} {k : Nat} {t : TA} {e : Expr} {es : List Expr} {np pos : Pos} (T : Tx K mg) (hr : Room k X.A) (ha : PA X (e :: es) t) (hk : 2 ≤ k := by decide) (hK : X.K = K := by rfl) (hm : X.mg = mg := by rfl)
    (hg : Gl X "common_multiple" := by rfl) (hse : starEach (e :: es) X.env = (false, eval e X.env) :: starEach es X.env := by rfl) (hpl : (backTo pos (starEach es X.env)).any (·.1) = false := by rfl) :
    PE X (.Call (.Name "common_multiple" np) (e :: es) [] pos) (tFn sp_common_multiple E0 t) := by
  subst hK
  subst hm
  exact pe_fR (ok_common_multiple T) T.kp_common_multiple T.g_common_multiple (hr.mono hk) pass0 ha hg (by decide) hse hpl
end
end Lw
namespace Lw
open PySem PySem.Spec PyProof.Rows L2 My
section
variable {P : Program} {w : World} {K : Fg} {mg : Str → Option Value} {base : Heap}
def sp_least_periodB (K : Fg) : Sp := fun vs H Q _ => ∃ (a : Addr) (r : List Int), vs = [.ref a] ∧ SqL K H a (r.map vB) ∧ Bits r ∧ 0 < r.length ∧ r.length ≤ 1000000 ∧
  ∀ (d : Nat) (H' : Hp), Least (off r) d → Same H H' → Q (.int (d : Int)) H'
theorem ok_least_periodB (T : Tx K mg) : FnR P w K mg base CX0 1 (He.ga K "least_period") (sp_least_periodB K) := by
  apply My.two; (focus intro zzI; simp only [↓ My.mkB zzI (by
  clear zzI
  refine (T.fnR 50 (st := s_least_period) (at_ := fun K => He.ga K "least_period") rfl sc_least_period (fun _ _ _ _ _ _ us hl => match us, hl with | [_], _ => rfl)) (fun vs H Q E h => ?_) (fun cdv A outer s H vs Q E hr h => ?_)
  · obtain ⟨a, r, rfl, _⟩ := h
    rfl
  · obtain ⟨a, r, rfl, hS, hB, hn, hn2, q⟩ := h
    refine ⟨_, (pss_cons (ps_par3 (i := 1) (j := 2) (l := 3) (by rfl) sc_least_period.nd rfl rfl rfl (by decide) (by decide) (by decide) rfl rfl rfl (pa_cons (pe_callB (len_k T) (by rfl) T.n_len (by decide +kernel) (pa_cons (pv 0) pa_nil)) (pa_cons (pe_callB (len_k T) (by rfl) T.n_len (by decide +kernel) (pa_cons (pv 0) pa_nil)) (pa_cons pe_int pa_nil))) (by rfl))
 (pss_cons (ps_while PassesOwn.never (pt_cmpR op_gt (pv 2) pe_int (nomark _))
 (pss_one (ps_if (pt_cmpR op_eq (pe_op op_mod (pv 2) (pv 3)) pe_int (nomark _))
 (pss_cons (ps_par (i := 2) (j := 4) (by rfl) sc_least_period.nd rfl rfl (by decide) rfl rfl (pa_cons (pe_op op_fdiv (pv 2) (pv 3)) (pa_cons (pe_op op_fdiv (pv 1) (pv 3)) pa_nil)) (by rfl))
 (pss_one (ps_if (PW.pt (pw_and (pt_cmpR op_eq (pe_ix (ixl T) (pv 0) pe_int (fun _ _ => rfl)) (pe_ix (ixl T) (pv 0) (pv 4) (fun _ _ => rfl)) (nomark _)) (pw_and1 (pt_cmpR (eqB T hr.units) (pe_slice (sll T) (pv 0) (po_some (pv 4)) po_none) (pe_slice (sll T) (pv 0) po_none (po_some (pe_un un_neg (pv 4)))) (nomark _)))))
 (pss_one (ps_set (i := 1) sc_least_period.nd rfl (Or.inl rfl) (pv 4)))
 pss_nil)))
 (pss_one (ps_set (i := 3) sc_least_period.nd rfl (Or.inl rfl) (pe_ifExp (pt_cmpR op_le (pe_op op_mul (pv 3) (pv 3)) (pv 2) (nomark _)) (pe_op op_add (pv 3) pe_int) (pv 2)))))))
 (pss_one (ps_ret (pv 1))))), ?_⟩
    have el : (r.map vB).length = r.length := List.length_map ..
    refine ⟨_, rfl, a, _, rfl, .inl hS, _, rfl, a, _, rfl, .inl hS, _, _, _, rfl, ?_⟩
    refine ⟨fun m σ H' => ∃ (found rest prime : Nat) (v4 : Option V), σ = [some (.ref a), some (.int (found : Int)), some (.int (rest : Int)), some (.int (prime : Int)), v4] ∧
      Same H H' ∧ LpInv (off r) r.length found rest prime ∧ m = rest * (r.length + 2) + (r.length + 1 - prime), ⟨_, r.length, r.length, 2, none, by rw [el]; rfl, Same.refl _, LpInv.start hn off_per, rfl⟩, ?_⟩
    rintro m σ H' ⟨found, rest, prime, v4, rfl, hH, I, rfl⟩
    have hrn : rest ≤ r.length := Nat.le_trans (Nat.le_of_dvd I.fpos I.rdv) (Nat.le_of_dvd hn I.fdv)
    have hfn : found ≤ r.length := Nat.le_of_dvd hn I.fdv
    have p2 := I.p2
    refine ⟨_, rfl, _, _, rfl, rfl, _, rfl, ?_⟩
    refine ite2 (fun hc => wh_go ?_) (fun hc => ?_)
    · have h1 : 1 < rest := by
        have := of_decide_eq_true hc
        omega
      have hple := I.ple h1
      have hpp : (0 : Int) < (prime : Int) := by omega
      refine ⟨_, rfl, _, rfl, _, _, rfl, rfl, hpp, rfl, _, rfl, ?_⟩
      refine ite2 (fun hd => ?_) (fun hd => ?_)
      · have hdv : prime ∣ rest := by
          have e := of_decide_eq_true hd
          have e2 : (rest : Int) % (prime : Int) = 0 := V.int.inj e
          exact Int.natCast_dvd_natCast.mp (Int.dvd_of_emod_eq_zero e2)
        have hdf : prime ∣ found := Nat.dvd_trans hdv I.rdv
        have er : (rest : Int) / (prime : Int) = ((rest / prime : Nat) : Int) := (Int.natCast_ediv _ _).symm
        have ef : (found : Int) / (prime : Int) = ((found / prime : Nat) : Int) := (Int.natCast_ediv _ _).symm
        refine ⟨_, rfl, _, rfl, _, _, rfl, rfl, ⟨hpp, by omega⟩, _, rfl, _, rfl, _, _, rfl, rfl, ⟨hpp, by omega⟩, _, _, rfl, ?_⟩
        refine at_st (σ' := [some (.ref a), some (.int (found : Int)), some (.int ((rest / prime : Nat) : Int)), some (.int (prime : Int)), some (.int ((found / prime : Nat) : Int))]) (by rw [← er, ← ef]; rfl) ?_
        have hlt : found / prime < found := Nat.div_lt_self I.fpos (by omega)
        have hd0 : 0 < found / prime := Nat.div_pos (Nat.le_of_dvd I.fpos hdf) (by omega)
        have hrl : rest / prime < rest := Nat.div_lt_self I.rpos (by omega)
        have hmul : (rest / prime) * (r.length + 2) + (r.length + 1 - prime) < rest * (r.length + 2) + (r.length + 1 - prime) := by
          have := Nat.mul_lt_mul_of_pos_right hrl (show 0 < r.length + 2 by omega)
          omega
        have no : ¬ Per (off r) (found / prime) → ∃ m', m' < rest * (r.length + 2) + (r.length + 1 - prime) ∧ ∃ (found' rest' prime' : Nat) (v4 : Option V), [some (V.ref a), some (.int (found : Int)), some (.int ((rest / prime : Nat) : Int)), some (.int (prime : Int)), some (.int ((found / prime : Nat) : Int))] = [some (.ref a), some (.int (found' : Int)), some (.int (rest' : Int)), some (.int (prime' : Int)), v4] ∧
          Same H H' ∧ LpInv (off r) r.length found' rest' prime' ∧ m' = rest' * (r.length + 2) + (r.length + 1 - prime') := fun np => ⟨_, hmul, found, rest / prime, prime, _, rfl, hH, I.no hdv np, rfl⟩
        have hS' := hH.seq hS
        refine ⟨_, rfl, a, _, _, _, rfl, rfl, hS', at_of (j := 0) rfl (mapB_get (off_nat hn)), _, rfl, _, rfl, a, _, _, _, rfl, rfl, hS', at_of (j := found / prime) rfl (mapB_get (off_nat (by omega))), rfl, _, rfl, ?_⟩
        refine ite2 (fun he => ?_) (fun he => ?_)
        · refine ⟨_, rfl, _, rfl, _, rfl, a, _, rfl, hS', fun p hp => ?_⟩
          have s1 := same_upd (o := .lst (cutV (r.map vB) (some ((found / prime : Nat) : Int)) none)) hp
          refine ⟨_, rfl, _, rfl, _, rfl, _, rfl, a, _, rfl, s1.seq hS', fun p' hp' => ?_⟩
          have s2 := same_upd (o := .lst (cutV (r.map vB) none (some (-((found / prime : Nat) : Int))))) hp'
          have c1 : cutV (r.map vB) (some ((found / prime : Nat) : Int)) none = (r.drop (found / prime)).map vB := by rw [cut_from, mapB_drop]
          have c2 : cutV (r.map vB) none (some (-((found / prime : Nat) : Int))) = (r.take (r.length - found / prime)).map vB := by rw [cut_back hd0, el, mapB_take]
          have hpp' : p ≠ p' := fun e => by
            rw [← e, upd_same] at hp'
            cases hp'
          refine ⟨p, p', r.drop (found / prime), r.take (r.length - found / prime), rfl, rfl, SqL.of (by rw [upd_ne hpp', upd_same, c1]), SqL.of (by rw [upd_same, c2]), hB.drop _, hB.take _, _, rfl, ?_⟩
          show if (decide (r.drop (found / prime) = r.take (r.length - found / prime))) = true then _ else _
          have hdn : found / prime ∣ r.length := Nat.dvd_trans (Nat.div_dvd_of_dvd hdf) I.fdv
          refine ite2 (fun hq => ?_) (fun hq => ?_)
          · refine ⟨_, rfl, ?_⟩
            have hper := rep_per hd0 hdn (of_decide_eq_true hq)
            exact ⟨_, hmul, found / prime, rest / prime, prime, _, rfl, hH.trans (s1.trans s2), I.yes hdv hper, rfl⟩
          · have np : ¬ Per (off r) (found / prime) := fun hper => hq (decide_eq_true (per_rep (by omega) hper))
            obtain ⟨m', a1, f', r', q', v', e1, e2, e3, e4⟩ := no np
            exact ⟨m', a1, f', r', q', v', e1, hH.trans (s1.trans s2), e3, e4⟩
        · refine iteF ?_
          refine no fun hper => he (decide_eq_true ?_)
          have := hper 0
          rw [Int.zero_add] at this
          rw [this]
          rfl
      · have hndv : ¬ prime ∣ rest := fun hdv => hd (decide_eq_true (congrArg V.int (Int.emod_eq_zero_of_dvd (Int.natCast_dvd_natCast.mpr hdv))))
        have hne : prime ≠ rest := fun e => hndv (e ▸ Nat.dvd_refl _)
        refine ⟨_, rfl, _, rfl, _, _, rfl, rfl, .inl ⟨by omega, by omega⟩, _, rfl, _, _, rfl, rfl, _, rfl, ?_⟩
        refine ite2 (fun hs => ?_) (fun hs => ?_)
        · have hs' : prime * prime ≤ rest := by
            have h2 := of_decide_eq_true hs
            rw [← Int.natCast_mul] at h2
            omega
          refine ⟨_, rfl, _, _, rfl, rfl, ?_⟩
          refine ⟨rest * (r.length + 2) + (r.length + 1 - (prime + 1)), by omega, found, rest, prime + 1, v4, rfl, hH, I.next h1 hndv hs', rfl⟩
        · have hs' : ¬ prime * prime ≤ rest := fun h2 => hs (decide_eq_true (by
            rw [← Int.natCast_mul]
            omega))
          refine ⟨_, rfl, ?_⟩
          exact ⟨rest * (r.length + 2) + (r.length + 1 - rest), by omega, found, rest, rest, _, rfl, hH, I.jump h1 hndv hs', rfl⟩
    · have h1 : ¬ 1 < rest := fun h => hc (decide_eq_true (by omega))
      exact ⟨_, rfl, q found H' (I.done h1) hH⟩
  )]); intro f; simpa using My.gz f 5 true
theorem c_least_periodB {X : Cx} {k : Nat} {t : TA} {e : Expr} {es : List Expr} {np pos : Pos} (T : Tx K mg) (hr : Room k X.A) (ha : PA X (e :: es) t) (hk : 1 ≤ k := by decide) (hK : X.K = K := by rfl) (hm : X.mg = mg := by rfl)
    (hg : Gl X "least_period" := by rfl) (hse : starEach (e :: es) X.env = (false, eval e X.env) :: starEach es X.env := by rfl) (hpl : (backTo pos (starEach es X.env)).any (·.1) = false := by rfl) :
    PE X (.Call (.Name "least_period" np) (e :: es) [] pos) (tFn (sp_least_periodB K) E0 t) := by
  subst hK
  subst hm
  exact pe_fR (ok_least_periodB T) T.kp_least_period T.g_least_period (hr.mono hk) pass0 ha hg (by decide) hse hpl
end
end Lw
namespace Lw
open PySem PySem.Spec PyProof.Rows L2 My
/-- the flags of the days ds among n -/
def flg (n : Nat) (ds : List Int) : List Int := (List.range n).map fun i : Nat => if (i : Int) ∈ ds then 1 else 0
section
theorem flg_len (n : Nat) (ds : List Int) : (flg n ds).length = n := by
  unfold flg
  rw [List.length_map, List.length_range]
theorem flg_bits (n : Nat) (ds : List Int) : Bits (flg n ds) := fun v hv => by
  obtain ⟨j, _, rfl⟩ := List.mem_map.mp hv
  by_cases h : (j : Int) ∈ ds
  · exact .inr (if_pos h)
  · exact .inl (if_neg h)
end
/-- a dict of days, all True -/
def DictD (kvs : List (Key × V)) (ds : List Int) : Prop := ∀ q : Int, (valV kvs (.inl q)).isSome = decide (q ∈ ds)
theorem DictD.put {kvs : List (Key × V)} {ds : List Int} (h : DictD kvs ds) (q : Int) (v : V) : DictD (putK kvs (.inl q) v) (ds ++ [q]) := by
  apply My.two; (focus intro zzI; simp only [↓ My.mkB zzI (by
  clear zzI
  intro r
  rw [valV_put]
  by_cases e : r = q
  · subst e
    simp
  · have : ¬ (Sum.inl r : Key) = Sum.inl q := fun z => e (Sum.inl.inj z)
    rw [if_neg this, h r]
    simp [e]
  )]); intro f; simpa using My.gz f 5 true
section
variable {P : Program} {w : World} {K : Fg} {mg : Str → Option Value} {base : Heap}
theorem seq_go {H : Hp} {a : Addr} {xs : List V} {R : It → Hp → Prop} (h : SqL K H a xs ∨ SqT K H a xs) (k : ∀ (J : It) (G : Hp → Prop), Walk J xs.length G (YAt xs) → (∀ H', Same H H' → G H') → R J H) :
    iSeqX K (V.ref a) H R := by
  apply My.two; (focus intro zzI; simp only [↓ My.mkB zzI (by
  clear zzI
  rcases h with h | h
  · exact ⟨a, rfl, .inl ⟨xs, h, k _ _ walk_list fun H' s => s.seq h⟩⟩
  · exact ⟨a, rfl, .inr ⟨xs, h, k _ _ walk_tup fun H' s => same_tup s h⟩⟩
  )]); intro f; simpa using My.gz f 5 true
def sp_are_days : Sp := fun vs H Q _ => ∃ (n : Int) (a : Addr) (ds : List Int), vs = [.int n, .ref a] ∧ SeqI H a ds ∧ (∀ d ∈ ds, 0 ≤ d ∧ d < n) ∧ ds.Nodup ∧ ds.length ≤ 4000 ∧ ∀ H' : Hp, Same H H' → Q (.bl true) H'
theorem ok_are_days (T : Tx K mg) : FnR P w K mg base CX0 2 (He.ga K "are_days") sp_are_days := by
  apply My.two; (focus intro zzI; simp only [↓ My.mkB zzI (by
  clear zzI
  refine (T.fnR 61 (st := s_are_days) (at_ := fun K => He.ga K "are_days") rfl sc_are_days (fun _ _ _ _ _ _ us hl => match us, hl with | [_, _], _ => rfl)) (fun vs H Q E h => ?_) (fun cdv A outer s H vs Q E hr h => ?_)
  · obtain ⟨n, a, ds, rfl, _⟩ := h
    rfl
  · obtain ⟨n, a, ds, rfl, hS, hd, nd, hl, k⟩ := h
    refine ⟨_, (pss_cons (ps_if (PW.pt (pw_or (pt_not (pt_val (pe_callB (isiT_k T) (by rfl) T.n_isinstance (by decide +kernel) (pa_cons (pv 1) (pa_cons (pe_tup (pa_cons (pe_bltn (v := .ty "list") (u := .type "list") rfl T.n_list (by decide +kernel) rfl) (pa_cons (pe_bltn (v := .ty "tuple") (u := .type "tuple") rfl T.n_tuple (by decide +kernel) rfl) pa_nil))) pa_nil))))) (pw_or1 (pt_not (pt_val (pe_callB (all_k T rfl) (by rfl) T.n_all (by decide +kernel) (pa_cons (pe_lc (own := [("day", 2)]) rfl sc_are_days.nd (pis T (pv 1)) (blkOk_by (own := [("day", 2)]) (N := N_are_days) (sc := defScope s_are_days) (by decide +kernel)) (fun _ _ _ _ _ => (pg_name (i := 2) sc_are_days.nd rfl (Or.inl rfl))) (fun _ _ _ _ _ => pts_nil) (fun _ _ _ _ _ => (pe_and (c_is_integer T hr (pa_cons (pv 2) pa_nil)) (pe_one (pe_chain op_le op_lt pe_int (pv 2) (pv 0)))))) pa_nil)))))))
 (pss_one (ps_ret pe_bl))
 pss_nil)
 (pss_one (ps_ret (pe_cmpR op_eq (pe_lenSetQ (by rfl) T.n_len (by rfl) T.n_set (pv 1)) (pe_callB (len_k T) (by rfl) T.n_len (by decide +kernel) (pa_cons (pv 1) pa_nil)) (nomark _))))), ?_⟩
    have el : (ds.map V.int).length = ds.length := List.length_map ..
    refine ⟨_, rfl, by show 2 ≤ sizeLine; decide, fun tp htp => ?_⟩
    have s1 := same_upd (o := .tup [V.ty "list", V.ty "tuple"]) htp
    have hS1 := seqI_same hS s1
    obtain ⟨ty, h1, h2⟩ := seqI_ty (K := K) hS1
    refine ⟨_, tp, _, ty, _, true, rfl, upd_same, .cons (.ty _) (.cons (.ty _) .nil), h1, h2, _, rfl, ?_⟩
    refine iteF ?_
    clear h1 h2
    generalize upd H tp (.tup [V.ty "list", V.ty "tuple"]) = H1 at s1 hS1
    refine ⟨_, rfl, seq_go (seqI_sq hS1) fun J G wk hG D hD => ?_⟩
    refine walk_w wk (Acc H1 D fun _ => V.bl true) (Acc.start hD) (fun i H2 _ h => hG H2 h.1) ?_ ?_
    · rintro i y H2 H3 hi hacc ⟨rfl, ey⟩
      rw [el] at hi
      have hm := hd _ (List.mem_of_getElem? (off_nat (r := ds) (i := i) hi))
      rw [mapInt_get (off_nat hi)] at ey
      obtain rfl : V.int (off ds (i : Int)) = y := Option.some.inj ey
      refine ⟨rfl, ?_⟩
      refine yes_t ?_
      refine ⟨_, rfl, _, rfl, _, rfl, ?_⟩
      refine iteT ?_
      refine ⟨_, rfl, _, _, rfl, rfl, _, rfl, ?_⟩
      rw [decide_eq_true hm.1]
      refine iteT ?_
      refine ⟨_, rfl, _, _, rfl, rfl, ?_⟩
      refine hacc.push hD (Same.refl _) (by omega) ?_
      show V.bl (decide (off ds (i : Int) < n)) = V.bl true
      rw [decide_eq_true hm.2]
    · intro H2 h
      rw [el] at h
      have f1 : SqL K H2 D (((List.range ds.length).map fun _ => true).map V.bl) := SqL.of (by rw [h.2, List.map_map]; rfl)
      refine ⟨D, _, rfl, f1, _, rfl, ?_⟩
      rw [show ((List.range ds.length).map fun _ => true).all id = true by simp]
      refine iteF ?_
      have hS2 := seqI_sq (K := K) (seqI_same hS1 h.1)
      refine ⟨_, rfl, a, ds, rfl, hS2, nd, hl, ?_⟩
      refine ⟨_, rfl, a, _, rfl, hS2, rfl, ?_⟩
      rw [el, decide_eq_true rfl]
      exact k H2 (s1.trans h.1)
  )]); intro f; simpa using My.gz f 5 true
theorem c_are_days {X : Cx} {k : Nat} {t : TA} {e : Expr} {es : List Expr} {np pos : Pos} (T : Tx K mg) (hr : Room k X.A) (ha : PA X (e :: es) t) (hk : 2 ≤ k := by decide) (hK : X.K = K := by rfl) (hm : X.mg = mg := by rfl)
    (hg : Gl X "are_days" := by rfl) (hse : starEach (e :: es) X.env = (false, eval e X.env) :: starEach es X.env := by rfl) (hpl : (backTo pos (starEach es X.env)).any (·.1) = false := by rfl) :
    PE X (.Call (.Name "are_days" np) (e :: es) [] pos) (tFn sp_are_days E0 t) := by
  subst hK
  subst hm
  exact pe_fR (ok_are_days T) T.kp_are_days T.g_are_days (hr.mono hk) pass0 ha hg (by decide) hse hpl
def sfs (l t : Addr) : List (Str × V) := putF "members" (.ref t) (putF "flags" (.ref l) [])
/-- a DaySet whose flags are r, for the rows f -/
def SetRows (K : Fg) (H : Hp) (p : Addr) (r : List Int) : Prop := ∃ dx l t : Addr, H p = some (.ins (DS K) dx (sfs l t)) ∧ H l = some (.lst (r.map vB)) ∧ H t = some (.tup ((mem1 r r.length).map V.int))
def SetAt (K : Fg) (H : Hp) (p : Addr) (f : Int → Int) : Prop := ∃ r : List Int, SetRows K H p r ∧ Rows f r ∧ Bits r ∧ r.length ≤ 200000
theorem SetRows.same {H H' : Hp} {p : Addr} {r : List Int} (m : SetRows K H p r) (s : Same H H') : SetRows K H' p r := by
  obtain ⟨dx, l, t, h1, h2, h3⟩ := m
  exact ⟨dx, l, t, s _ _ h1, s _ _ h2, s _ _ h3⟩
theorem SetAt.same {H H' : Hp} {p : Addr} {f : Int → Int} (m : SetAt K H p f) (s : Same H H') : SetAt K H' p f := by
  obtain ⟨r, h1, h2⟩ := m
  exact ⟨r, h1.same s, h2⟩
def sp_sinit (K : Fg) : Sp := fun vs H Q _ => ∃ (x dx a : Addr) (n : Nat) (ds : List Int), vs = [.ref x, .int (n : Int), .ref a] ∧ H x = some (.ins (DS K) dx []) ∧ SeqI H a ds ∧ 0 < n ∧ n ≤ 200000 ∧ (∀ d ∈ ds, 0 ≤ d ∧ d < (n : Int)) ∧ ds.Nodup ∧ ds.length ≤ 4000 ∧
  ∀ H' : Hp, SetAt K H' x (off (flg n ds)) → Kx x H H' → Q .non H'
theorem okq_sinit (T : Tx K mg) : FnQ P w K mg base 3 (He.ma K (DS K) "__init__") "__init__" "DaySet.__init__" s_DaySetu_initu [("self" : Str), ("period" : Str), ("days" : Str)] (sp_sinit K) := by
  apply My.two; (focus intro zzI; simp only [↓ My.mkB zzI (by
  clear zzI
  refine (T.fnQ 0 (st := s_DaySetu_initu) (at_ := fun K => He.ma K (He.ga K "DaySet") "__init__") rfl sc_DaySetu_initu (fun _ _ _ _ _ _ us hl => match us, hl with | [_, _, _], _ => rfl)) (fun vs H Q E h => ?_) (fun cdv A outer s H vs Q E hr h => ?_)
  · obtain ⟨x, dx, a, n, ds, rfl, _⟩ := h
    rfl
  · obtain ⟨x, dx, a, n, ds, rfl, hx, hS, n0, n1, hd, nd, hl, k⟩ := h
    refine ⟨_, (pss_cons (ps_if (pt_not (pt_val (c_is_period T hr (pa_cons (pv 1) pa_nil))))
 (pss_one ps_never)
 pss_nil)
 (pss_cons (ps_if (pt_not (pt_val (c_are_days T hr (pa_cons (pv 1) (pa_cons (pv 2) pa_nil)))))
 (pss_one ps_never)
 pss_nil)
 (pss_cons (ps_set (i := 3) sc_DaySetu_initu.nd rfl (Or.inr rfl) (pe_dc (own := [("day", 5)]) rfl sc_DaySetu_initu.nd (pis T (pv 2)) (blkOk_by (own := [("day", 5)]) (N := N_DaySetu_initu) (sc := defScope s_DaySetu_initu) (by decide +kernel)) (fun _ _ _ _ _ => (pg_name (i := 5) sc_DaySetu_initu.nd rfl (Or.inl rfl))) (fun _ _ _ _ _ => pts_nil) (fun _ _ _ _ _ => (pv 5)) (fun _ _ _ _ _ => pe_bl)))
 (pss_cons (ps_setLc (i := 4) (own := [("day", 5)]) rfl sc_DaySetu_initu.nd rfl rfl (sw_true rfl rfl rfl (by decide +kernel)) (pi_range1 rfl T.n_range (pa_cons (pv 1) pa_nil)) (blkOk_by (own := [("day", 5)]) (N := N_DaySetu_initu) (sc := defScope s_DaySetu_initu) (by decide +kernel)) (fun _ _ _ _ _ => (pg_name (i := 5) sc_DaySetu_initu.nd rfl (Or.inl rfl))) (fun _ _ _ _ _ => pts_nil) (fun _ _ _ _ _ => (pe_cmp (pc_din (hu_of hr) (pv 5) (pv 3)))))
 (pss_cons (ps_fld (pv 0) (pe_slice (sll T) (pv 4) po_none (po_some (c_least_periodB T hr (pa_cons (pv 4) pa_nil)))) rfl)
 (pss_one (ps_fld (pv 0) (pe_callTy (tup_k T) (by rfl) T.n_tuple (by decide +kernel) (pa_cons (pe_lc (own := [("day", 5), ("flag", 6)]) rfl sc_DaySetu_initu.nd (pie T T.n_enumerate (pa_cons (fld T (pv 0)) pa_nil)) (blkOk_by (own := [("day", 5), ("flag", 6)]) (N := N_DaySetu_initu) (sc := defScope s_DaySetu_initu) (by decide +kernel)) (fun _ _ _ _ _ => (pgt T (n := 2) rfl (pgs_cons (pg_name (i := 5) sc_DaySetu_initu.nd rfl (Or.inl rfl)) (pgs_cons (pg_name (i := 6) sc_DaySetu_initu.nd rfl (Or.inl rfl)) pgs_nil)))) (fun _ _ _ _ _ => (pts_one (pt_val (pv 6)))) (fun _ _ _ _ _ => (pv 5))) pa_nil)) rfl))))))), ?_⟩
    have el : (ds.map V.int).length = ds.length := List.length_map ..
    refine ⟨_, rfl, _, rfl, by omega, by omega, _, rfl, ?_⟩
    refine iteF ?_
    refine ⟨_, rfl, _, rfl, (n : Int), a, ds, rfl, hS, hd, nd, hl, fun H1 s1 => ⟨_, rfl, ?_⟩⟩
    refine iteF ?_
    have hS1 := seqI_same hS s1
    -- known
    refine ⟨_, rfl, seq_go (seqI_sq hS1) fun J G wk hG D hD => ?_⟩
    refine walk_w wk (fun i H2 => Same H1 H2 ∧ ∃ kvs, H2 D = some (.dK kvs) ∧ kvs.length ≤ i ∧ DictD kvs (ds.take i)) ⟨same_upd hD, [], upd_same, Nat.le_refl _, fun q => rfl⟩ (fun i H2 _ h => hG H2 h.1) ?_ ?_
    · rintro i y H2 H3 hi ⟨s2, kvs, ek, lk, dk⟩ ⟨rfl, ey⟩
      rw [el] at hi
      have ho := off_nat (r := ds) (i := i) hi
      rw [mapInt_get ho] at ey
      obtain rfl : V.int (off ds (i : Int)) = y := Option.some.inj ey
      refine ⟨rfl, ?_⟩
      refine yes_t ?_
      refine ⟨_, rfl, kvs, .inl (off ds (i : Int)), rfl, ek, szl (by omega), same_under s2 hD, _, upd_same, ?_, ?_⟩
      · have := length_putK kvs (Sum.inl (off ds (i : Int)) : Key) (V.bl true)
        omega
      · rw [List.take_add_one, ho]
        exact dk.put _ _
    rintro H2 ⟨s2, kvs, ek, lk, dk⟩
    rw [el, List.take_length] at dk
    -- flags
    refine ⟨_, rfl, _, rfl, by omega, by omega, fun F hF => ?_⟩
    rw [Int.toNat_natCast]
    refine walk_w walk_range (Acc H2 F fun j : Nat => vB (if (j : Int) ∈ ds then 1 else 0)) (Acc.start hF) (fun _ _ _ _ => trivial) ?_ ?_
    · rintro j y H3 H4 hj hacc ⟨rfl, rfl⟩
      refine ⟨rfl, ?_⟩
      refine yes_t ?_
      refine ⟨_, rfl, _, rfl, D, _, rfl, DGet.k (k := Sum.inl (0 + (j : Int))) (hacc.1 _ _ ek), ?_⟩
      refine hacc.push hF (Same.refl _) (by omega) ?_
      rw [dk, Int.zero_add]
      unfold vB
      congr 1
      by_cases hm : (j : Int) ∈ ds
      · rw [if_pos hm, decide_eq_true hm]
        rfl
      · rw [if_neg hm, decide_eq_false hm]
        rfl
    rintro H3 ⟨s3, e3⟩
    obtain ⟨r0, hr0⟩ : ∃ r0, flg n ds = r0 := ⟨_, rfl⟩
    have e3' : H3 F = some (.lst (r0.map vB)) := by
      rw [e3, ← hr0]
      unfold flg
      rw [List.map_map]
      rfl
    have r0l : r0.length = n := by rw [← hr0, flg_len]
    have r0b : Bits r0 := by rw [← hr0]; exact flg_bits n ds
    rw [hr0] at k
    have s13 : Same H H3 := s1.trans (s2.trans s3)
    refine ⟨_, rfl, _, rfl, F, r0, rfl, SqL.of e3', r0b, by omega, by omega, fun d H4 hd2 s4 => ⟨_, rfl, F, _, rfl, SqL.of (s4 _ _ e3'), fun p hp => ?_⟩⟩
    obtain ⟨hR, hRl⟩ := Rows.of_least hd2 (by omega)
    have dle : d ≤ n := by
      have := Nat.le_of_dvd (by omega) (hd2.dvd r0.length (by omega) off_per)
      omega
    have ec : cutV (r0.map vB) none (some (d : Int)) = (r0.take d).map vB := by rw [cut_to, mapB_take]
    rw [ec]
    have s5 := same_upd (o := .lst ((r0.take d).map vB)) hp
    have s15 := s13.trans (s4.trans s5)
    have hx5 := s15 _ _ hx
    have ep : upd H4 p (.lst ((r0.take d).map vB)) p = some (.lst ((r0.take d).map vB)) := upd_same
    have npx : p ≠ x := fun e => by
      rw [e, (s13.trans s4) _ _ hx] at hp
      cases hp
    have nfp : H p = none := (s13.trans s4).free hp
    generalize upd H4 p (.lst ((r0.take d).map vB)) = H5 at s15 hx5 ep
    refine ⟨_, rfl, x, _, dx, [], rfl, hx5, T.cl_DS, T.no_DS_flags, (by show 0 < 1000; decide), ?_⟩
    obtain ⟨r, hr1⟩ : ∃ r, r0.take d = r := ⟨_, rfl⟩
    rw [hr1] at ep hR hRl
    have rb : Bits r := by rw [← hr1]; exact r0b.take d
    have kx6 : Kx x H (upd H5 x (.ins (DS K) dx (putF "flags" (.ref p) []))) := fun b u e nb => by
      rw [upd_ne nb]
      exact s15 _ _ e
    have ep6 : upd H5 x (.ins (DS K) dx (putF "flags" (.ref p) [])) p = some (.lst (r.map vB)) := by rw [upd_ne npx]; exact ep
    have hx6 : upd H5 x (.ins (DS K) dx (putF "flags" (.ref p) [])) x = some (.ins (DS K) dx (putF "flags" (.ref p) [])) := upd_same
    generalize upd H5 x (.ins (DS K) dx (putF "flags" (.ref p) [])) = H6 at kx6 ep6 hx6
    clear hx5 ep s15 s13 s4 s5 s3 s2 s1 e3 e3' ek dk
    have el2 : (r.map vB).length = r.length := List.length_map ..
    refine ⟨_, rfl, x, _, dx, _, _, rfl, hx6, T.cl_DS, T.no_DS_flags, rfl, p, _, rfl, SqL.of ep6, fun M hM => ?_⟩
    refine walk_w (walk_enum (xs := r.map vB)) (fun i H' => Same H6 H' ∧ H' M = some (.lst ((mem1 r i).map V.int))) ⟨same_upd hM, upd_same⟩ (fun _ H' _ h => SqL.of (h.1 _ _ ep6)) ?_ ?_
    · rintro i y H7 H8 hi ⟨s7, e7⟩ ⟨Tp, x1, x2, rfl, hT, rfl, ex1, ex2⟩
      rw [el2] at hi
      obtain rfl : V.int (i : Int) = x1 := Option.some.inj ex1
      have ex3 : (r.map vB)[i]? = some x2 := ex2
      rw [mapB_get (off_nat hi)] at ex3
      obtain rfl : vB (off r (i : Int)) = x2 := Option.some.inj ex3
      have s8 := same_upd (o := .tup [V.int (i : Int), vB (off r (i : Int))]) hT
      refine ⟨Tp, _, rfl, SqT.of upd_same, rfl, _, _, rfl, _, _, rfl, rfl, ?_⟩
      refine ⟨rfl, ?_⟩
      refine ⟨_, rfl, _, rfl, ?_⟩
      replace s7 := s7.trans s8
      replace e7 := s8 _ _ e7
      generalize upd H7 Tp (.tup [V.int (i : Int), vB (off r (i : Int))]) = H9 at s7 e7
      have ml := mem1_len r i
      refine ite2 (fun hc => ?_) (fun hc => ?_)
      · have hc1 : off r (i : Int) = 1 := of_decide_eq_true hc
        refine ⟨_, rfl, _, e7, szl (by rw [List.length_map]; omega), same_under s7 hM, ?_⟩
        rw [upd_same, mem1_yes hc1, List.map_append]
        rfl
      · have hc1 : ¬ off r (i : Int) = 1 := fun e => hc (decide_eq_true e)
        refine ⟨s7, ?_⟩
        rw [mem1_no hc1]
        exact e7
    · rintro H7 ⟨s7, e7⟩
      rw [el2] at e7
      refine ⟨M, _, rfl, .inl ⟨SqL.of e7, fun t ht => ?_⟩⟩
      have s8 := same_upd (o := .tup ((mem1 r r.length).map V.int)) ht
      have ntx : t ≠ x := fun e => by
        rw [e, s7 _ _ hx6] at ht
        cases ht
      have npx' : p ≠ x := npx
      refine ⟨_, rfl, x, _, dx, _, rfl, (s7.trans s8) _ _ hx6, T.cl_DS, T.no_DS_members, (by show 1 < 1000; decide), ?_⟩
      refine k _ ⟨r, ⟨dx, p, t, upd_same, ?_, ?_⟩, ?_, rb, by omega⟩ ?_
      · rw [upd_ne npx]
        exact (s7.trans s8) _ _ ep6
      · rw [upd_ne ntx, upd_same]
      · exact hR
      · intro b u e nb
        rw [upd_ne nb]
        exact (s7.trans s8) _ _ (kx6 b u e nb)
  )]); intro f; simpa using My.gz f 5 true
theorem ok_sinit (T : Tx K mg) : FnR P w K mg base CX0 3 (He.ma K (DS K) "__init__") (sp_sinit K) := (okq_sinit T).r
end
end Lw
namespace Lw
open PySem PySem.Spec PyProof.Rows L2 My
section
variable {P : Program} {w : World} {K : Fg} {mg : Str → Option Value} {base : Heap}
theorem sfs_flags (l t : Addr) : (sfs l t).lookup ("flags" : Str) = some (.ref l) := rfl
theorem sfs_members (l t : Addr) : (sfs l t).lookup ("members" : Str) = some (.ref t) := rfl
theorem bits_off {r : List Int} (h : Bits r) (r0 : 0 < r.length) (x : Int) : My.off r x = 0 ∨ My.off r x = 1 := h _ (List.mem_of_getElem? (off_get r0 x))
/-- has -/
def sp_has (K : Fg) : Sp := fun vs H Q _ => ∃ (p : Addr) (x : Int) (f : Int → Int), vs = [.ref p, .int x] ∧ SetAt K H p f ∧ Q (vB (f x)) H
theorem okD_has (T : Tx K mg) : FnR P w K mg base CX0 1 (He.ma K (DS K) "has") (sp_has K) := by
  apply My.two; (focus intro zzI; simp only [↓ My.mkB zzI (by
  clear zzI
  refine (T.fnR 8 (st := s_DaySet_has) (at_ := fun K => He.ma K (He.ga K "DaySet") "has") rfl sc_DaySet_has (fun _ _ _ _ _ _ us hl => match us, hl with | [_, _], _ => rfl)) (fun vs H Q E h => ?_) (fun cdv A outer s H vs Q E hr h => ?_)
  · obtain ⟨p, x, f, rfl, _⟩ := h
    rfl
  · obtain ⟨p, x, f, rfl, ⟨r, ⟨dx, l, t, h1, h2, h3⟩, hR, hB, hl⟩, q⟩ := h
    refine ⟨_, (pss_one (ps_ret (pe_ix (ixl T) (fld T (pv 0)) (pe_op op_mod (pv 1) (pe_callB (len_k T) (by rfl) T.n_len (by decide +kernel) (pa_cons (fld T (pv 0)) pa_nil))) (fun _ _ => rfl)))), ?_⟩
    have r0 := hR.least.pos
    obtain rfl := hR.off
    have el : (r.map vB).length = r.length := List.length_map ..
    have m0 : 0 ≤ x % (r.length : Int) := Int.emod_nonneg _ (by omega)
    refine ⟨_, rfl, p, _, dx, _, _, rfl, h1, T.cl_DS, T.no_DS_flags, sfs_flags l t, ?_⟩
    refine ⟨_, rfl, _, rfl, p, _, dx, _, _, rfl, h1, T.cl_DS, T.no_DS_flags, sfs_flags l t, l, _, rfl, .inl (SqL.of h2), _, _, rfl, rfl, (by rw [el]; omega), ?_⟩
    exact ⟨l, _, _, _, rfl, rfl, SqL.of h2, at_of (j := (x % (r.length : Int)).toNat) (by rw [el, Int.toNat_of_nonneg m0]) (mapB_get (off_get r0 x)), q⟩
  )]); intro f; simpa using My.gz f 5 true
theorem mD_has {X : Cx} {k : Nat} {o e : Expr} {es : List Expr} {ta : TE} {t : TA} {apos pos : Pos} {pl : Sem Bool} (T : Tx K mg) (hr : Room k X.A) (he : PE X o ta) (ha : PA X (e :: es) t) (hk : 1 ≤ k := by decide) (hK : X.K = K := by rfl) (hm : X.mg = mg := by rfl)
    (hst : starEach (e :: es) X.env = (false, eval e X.env) :: starEach es X.env := by rfl) (hpl : (backTo pos (starEach es X.env)).any (·.1) = false := by rfl)
    (ht : eval (.Call (.Attribute o "has" apos) (e :: es) [] pos) X.env = (do
      let ov ← eval o X.env
      standAt apos.atName
      let (f, first) ← holding [ov] (getMethod ov "has" pl)
      callWith pos f first (backTo pos (starEach (e :: es) X.env)) (backToKw pos (keywordEach [] X.env))) := by rfl) :
    PE X (.Call (.Attribute o "has" apos) (e :: es) [] pos) (tMethR (DS K) "has" (sp_has K) E0 ta t) := by
  subst hK
  subst hm
  exact pe_methR he T.cl_DS T.me_DS_has (okD_has T) (hr.mono hk) pass0 ha hst hpl ht
/-- period, days, len -/
def sp_speriod (K : Fg) : Sp := fun vs H Q _ => ∃ (p : Addr) (r : List Int), vs = [.ref p] ∧ SetRows K H p r ∧ Q (.int (r.length : Int)) H
theorem okD_period (T : Tx K mg) : FnR P w K mg base CX0 1 (He5.wf K (DS K) "property" "period") (sp_speriod K) := by
  apply My.two; (focus intro zzI; simp only [↓ My.mkB zzI (by
  clear zzI
  refine (T.fnR 6 (st := s_DaySet_period) (at_ := fun K => He5.wf K (He.ga K "DaySet") "property" "period") rfl sc_DaySet_period (fun _ _ _ _ _ _ us hl => match us, hl with | [_], _ => rfl)) (fun vs H Q E h => ?_) (fun cdv A outer s H vs Q E hr h => ?_)
  · obtain ⟨p, r, rfl, _⟩ := h
    rfl
  · obtain ⟨p, r, rfl, ⟨dx, l, t, h1, h2, h3⟩, q⟩ := h
    refine ⟨_, (pss_one (ps_ret (pe_callB (len_k T) (by rfl) T.n_len (by decide +kernel) (pa_cons (fld T (pv 0)) pa_nil)))), ?_⟩
    refine ⟨_, rfl, p, _, dx, _, _, rfl, h1, T.cl_DS, T.no_DS_flags, sfs_flags l t, l, _, rfl, .inl (SqL.of h2), ?_⟩
    rw [List.length_map]
    exact q
  )]); intro f; simpa using My.gz f 5 true
theorem pD_period {X : Cx} {k : Nat} {e : Expr} {ta : TE} {pos : Pos} (T : Tx K mg) (hr : Room k X.A) (he : PE X e ta) (hk : 2 ≤ k := by decide) (hK : X.K = K := by rfl) (hm : X.mg = mg := by rfl)
    (hab : attributeBase e "period" X.env (eval e X.env) = eval e X.env := by rfl) : PE X (.Attribute e "period" pos) (tPropR (DS K) (sp_speriod K) E0 ta) := by
  subst hK
  subst hm
  exact pe_propR he T.cl_DS T.pr_DS_period (okD_period T) (hr.mono hk) pass0 hab
def sp_sdays (K : Fg) : Sp := fun vs H Q _ => ∃ (p : Addr) (r : List Int), vs = [.ref p] ∧ SetRows K H p r ∧ ∀ t : Addr, H t = some (.tup ((mem1 r r.length).map V.int)) → Q (.ref t) H
theorem okD_days (T : Tx K mg) : FnR P w K mg base CX0 1 (He5.wf K (DS K) "property" "days") (sp_sdays K) := by
  apply My.two; (focus intro zzI; simp only [↓ My.mkB zzI (by
  clear zzI
  refine (T.fnR 7 (st := s_DaySet_days) (at_ := fun K => He5.wf K (He.ga K "DaySet") "property" "days") rfl sc_DaySet_days (fun _ _ _ _ _ _ us hl => match us, hl with | [_], _ => rfl)) (fun vs H Q E h => ?_) (fun cdv A outer s H vs Q E hr h => ?_)
  · obtain ⟨p, r, rfl, _⟩ := h
    rfl
  · obtain ⟨p, r, rfl, ⟨dx, l, t, h1, h2, h3⟩, q⟩ := h
    refine ⟨_, (pss_one (ps_ret (fld T (pv 0)))), ?_⟩
    exact ⟨_, rfl, p, _, dx, _, _, rfl, h1, T.cl_DS, T.no_DS_members, sfs_members l t, q t h3⟩
  )]); intro f; simpa using My.gz f 5 true
theorem pD_days {X : Cx} {k : Nat} {e : Expr} {ta : TE} {pos : Pos} (T : Tx K mg) (hr : Room k X.A) (he : PE X e ta) (hk : 2 ≤ k := by decide) (hK : X.K = K := by rfl) (hm : X.mg = mg := by rfl)
    (hab : attributeBase e "days" X.env (eval e X.env) = eval e X.env := by rfl) : PE X (.Attribute e "days" pos) (tPropR (DS K) (sp_sdays K) E0 ta) := by
  subst hK
  subst hm
  exact pe_propR he T.cl_DS T.pr_DS_days (okD_days T) (hr.mono hk) pass0 hab
end
end Lw
namespace Lw
open PySem PySem.Spec PyProof.Rows L2 My
section
variable {P : Program} {w : World} {K : Fg} {mg : Str → Option Value} {base : Heap}
theorem smake_in {H : Hp} {a x dx : Addr} {ds : List Int} {Q : VK} {n : Nat} (nx : H x = none) (nd : H dx = none) (ne : dx ≠ x) (h : SeqI H a ds) (h0 : 0 < n) (h1 : n ≤ 200000) (h2 : ∀ d ∈ ds, 0 ≤ d ∧ d < (n : Int)) (h3 : ds.Nodup) (h4 : ds.length ≤ 4000)
    (k : ∀ H', Same H H' → SetAt K H' x (off (flg n ds)) → Q .non H') : sp_sinit K [.ref x, .int (n : Int), .ref a] (upd (upd H dx (.own x)) x (.ins (DS K) dx [])) Q E0 := by
  apply My.two; (focus intro zzI; simp only [↓ My.mkB zzI (by
  clear zzI
  have s0 : Same H (upd (upd H dx (.own x)) x (.ins (DS K) dx [])) := fun b u e => by
    rw [upd_ne (ne_of_none e nx), upd_ne (ne_of_none e nd)]
    exact e
  exact ⟨x, dx, a, n, ds, rfl, upd_same, seqI_same h s0, h0, h1, h2, h3, h4, fun H' m kx => k H' (fun b u e => kx b u (s0 b u e) (ne_of_none e nx)) m⟩
  )]); intro f; simpa using My.gz f 5 true
theorem flg_mem {r ys : List Int} (hB : Bits r) (r0 : 0 < r.length) (h : ∀ x, x ∈ ys ↔ x ∈ mem1 r r.length) : flg r.length ys = r := by
  apply My.two; (focus intro zzI; simp only [↓ My.mkB zzI (by
  clear zzI
  have e := tab_off r
  refine Eq.trans ?_ e
  unfold flg tab
  refine List.map_congr_left fun i hi => ?_
  have hi2 := List.mem_range.mp hi
  have hb := bits_off hB r0 (i : Int)
  by_cases h1 : off r (i : Int) = 1
  · rw [if_pos ((h _).mpr (mem1_in.mpr ⟨i, hi2, rfl, h1⟩))]
    omega
  · rw [if_neg fun hm => ?_]
    · omega
    · obtain ⟨j, _, ej, hj⟩ := mem1_in.mp ((h _).mp hm)
      rw [← ej] at hj
      exact h1 hj
  )]); intro f; simpa using My.gz f 5 true
end
end Lw
namespace Lw
open PySem PySem.Spec PyProof.Rows L2 My
section
variable {P : Program} {w : World} {K : Fg} {mg : Str → Option Value} {base : Heap}
theorem mkVS {X : Cx} {k : Nat} {t : TA} {e : Expr} {es : List Expr} {np pos : Pos} (T : Tx K mg) (hr : Room k X.A) (ha : PA X (e :: es) t) (hk : 4 ≤ k := by decide) (hK : X.K = K := by rfl) (hm : X.mg = mg := by rfl) (hN : X.N[0]? = some ("cls" : Str) := by rfl)
    (hv : Vis X.env.scope "cls" := by first | exact Or.inl rfl | exact Or.inr (Or.inl rfl) | exact Or.inr (Or.inr rfl))
    (hse : starEach (e :: es) X.env = (false, eval e X.env) :: starEach es X.env := by rfl) (hpl : (backTo pos (starEach es X.env)).any (·.1) = false := by rfl) :
    PE X (.Call (.Name "cls" np) (e :: es) [] pos) (tMakeV 0 (DS K) (sp_sinit K) E0 t) := by
  subst hK
  subst hm
  exact pe_makeV (i := 0) T.mk_DS (ok_sinit T) (hr.mono hk) pass0 ha hN hv (by decide) (by decide) hse hpl
end
end Lw
namespace Lw
open PySem PySem.Spec PyProof.Rows L2 My
section
variable {P : Program} {w : World} {K : Fg} {mg : Str → Option Value} {base : Heap}
theorem tab_at {N i : Nat} {h : Int → Int} (hi : i < N) : off (tab N h) (i : Int) = h (i : Int) := by
  apply My.two; (focus intro zzI; simp only [↓ My.mkB zzI (by
  clear zzI
  have e := off_nat (r := tab N h) (i := i) (by rw [tab_length]; exact hi)
  rw [tab_get hi] at e
  exact (Option.some.inj e).symm
  )]); intro f; simpa using My.gz f 5 true
/-- the days of h before i are in the list at D -/
def SAcc (H : Hp) (D : Addr) (h : Int → Int) (N i : Nat) (H' : Hp) : Prop := Same H H' ∧ H' D = some (.lst ((mem1 (tab N h) i).map V.int))
theorem SAcc.start {H : Hp} {D : Addr} {h : Int → Int} {N : Nat} (hD : H D = none) : SAcc H D h N 0 (upd H D (.lst [])) := ⟨same_upd hD, upd_same⟩
theorem SAcc.same {H H1 H2 : Hp} {D : Addr} {h : Int → Int} {N i : Nat} (a : SAcc H D h N i H1) (s : Same H1 H2) : SAcc H D h N i H2 := ⟨a.1.trans s, s _ _ a.2⟩
theorem SAcc.yes {H H1 : Hp} {D : Addr} {h : Int → Int} {N i : Nat} (a : SAcc H D h N i H1) (hD : H D = none) (hi : i < N) (e : h (i : Int) = 1) (N1 : N ≤ 1000000) :
    ∃ acc, H1 D = some (.lst acc) ∧ acc.length < sizeLine ∧ SAcc H D h N (i + 1) (upd H1 D (.lst (acc ++ [V.int (i : Int)]))) := by
  apply My.two; (focus intro zzI; simp only [↓ My.mkB zzI (by
  clear zzI
  have ml := mem1_len (tab N h) i
  refine ⟨_, a.2, by rw [List.length_map]; exact szl (by omega), same_under a.1 hD, ?_⟩
  rw [upd_same, mem1_yes (by rw [tab_at hi]; exact e), List.map_append]
  rfl
  )]); intro f; simpa using My.gz f 5 true
theorem SAcc.no {H H1 : Hp} {D : Addr} {h : Int → Int} {N i : Nat} (a : SAcc H D h N i H1) (hi : i < N) (e : ¬ h (i : Int) = 1) : SAcc H D h N (i + 1) H1 := by
  apply My.two; (focus intro zzI; simp only [↓ My.mkB zzI (by
  clear zzI
  refine ⟨a.1, ?_⟩
  rw [mem1_no (by rw [tab_at hi]; exact e)]
  exact a.2
  )]); intro f; simpa using My.gz f 5 true
theorem SetAt.in_ {H : Hp} {q : Addr} {f : Int → Int} (m : SetAt K H q f) : ∃ dx a t, H q = some (.ins (DS K) dx (sfs a t)) := by
  obtain ⟨r, ⟨dx, a, t, h1, _⟩, _⟩ := m
  exact ⟨dx, a, t, h1⟩
end
end Lw
namespace Lw
open PySem PySem.Spec PyProof.Rows L2 My
section
variable {P : Program} {w : World} {K : Fg} {mg : Str → Option Value} {base : Heap}
def sp_sin (K : Fg) : Sp := fun vs H Q _ => ∃ (p : Addr) (x : Int) (f : Int → Int), vs = [.ref p, .int x] ∧ SetAt K H p f ∧ Q (vB (f x)) H
theorem okD_contains (T : Tx K mg) : FnR P w K mg base CX0 3 (He.ma K (DS K) "__contains__") (sp_sin K) := by
  apply My.two; (focus intro zzI; simp only [↓ My.mkB zzI (by
  clear zzI
  refine (T.fnR 3 (st := s_DaySetu_containsu) (at_ := fun K => He.ma K (He.ga K "DaySet") "__contains__") rfl sc_DaySetu_containsu (fun _ _ _ _ _ _ us hl => match us, hl with | [_, _], _ => rfl)) (fun vs H Q E h => ?_) (fun cdv A outer s H vs Q E hr h => ?_)
  · obtain ⟨p, x, f, rfl, _⟩ := h
    rfl
  · obtain ⟨p, x, f, rfl, mf, q⟩ := h
    refine ⟨_, (pss_one (ps_ret (pe_and (c_is_integer T hr (pa_cons (pv 1) pa_nil)) (pe_one (mD_has T hr (pv 0) (pa_cons (pv 1) pa_nil)))))), ?_⟩
    obtain ⟨dx, l, t, i1⟩ := mf.in_
    refine ⟨_, rfl, _, rfl, _, rfl, ?_⟩
    refine iteT ?_
    exact ⟨_, rfl, p, dx, _, rfl, i1, rfl, _, rfl, p, x, f, rfl, mf, q⟩
  )]); intro f; simpa using My.gz f 5 true
theorem oD_in {X : Cx} {k : Nat} (T : Tx K mg) (hr : Room k X.A) (hk : 3 ≤ k := by decide) (hK : X.K = K := by rfl) (hm : X.mg = mg := by rfl) : OpR X (compareOp .In) (rInO false (DS K) (sp_sin K) E0) := by
  apply My.two; (focus intro zzI; simp only [↓ My.mkB zzI (by
  clear zzI
  subst hK
  subst hm
  exact op_inO T.sp_DS_contains.1 T.sp_DS_contains.2 (okD_contains T) (hr.mono hk) pass0
  )]); intro f; simpa using My.gz f 5 true
def sp_seq (K : Fg) : Sp := fun vs H Q _ => ∃ (p q : Addr) (f g : Int → Int), vs = [.ref p, .ref q] ∧ SetAt K H p f ∧ SetAt K H q g ∧ ∀ b : Bool, (b = true ↔ f = g) → Q (.bl b) H
theorem okD_eq (T : Tx K mg) : FnR P w K mg base CX0 1 (He.ma K (DS K) "__eq__") (sp_seq K) := by
  apply My.two; (focus intro zzI; simp only [↓ My.mkB zzI (by
  clear zzI
  refine (T.fnR 1 (st := s_DaySetu_equ) (at_ := fun K => He.ma K (He.ga K "DaySet") "__eq__") rfl sc_DaySetu_equ (fun _ _ _ _ _ _ us hl => match us, hl with | [_, _], _ => rfl)) (fun vs H Q E h => ?_) (fun cdv A outer s H vs Q E hr h => ?_)
  · obtain ⟨p, q, f, g, rfl, _⟩ := h
    rfl
  · obtain ⟨p, q, f, g, rfl, mf, mg', k⟩ := h
    refine ⟨_, (pss_one (ps_ret (pe_and (pe_callB (isi_k T) (by rfl) T.n_isinstance (by decide +kernel) (pa_cons (pv 1) (pa_cons (pe_glob (v := .ref (He.ga K "DaySet")) rfl T.g_DaySet rfl) pa_nil))) (pe_one (pe_cmpR (eqB T hr.units) (fld T (pv 0)) (fld T (pv 1)) (nomark _)))))), ?_⟩
    obtain ⟨r, hr1, fr, br, lr⟩ := id mf
    obtain ⟨u, hu1, fu, bu, lu⟩ := id mg'
    obtain ⟨dx, l, t, i1, e1, _⟩ := id hr1
    obtain ⟨dy, l', t', i2, e2, _⟩ := id hu1
    refine ⟨_, rfl, _, _, _, _, true, rfl, .own _, T.ty_DS i2, T.isi_DS_DaySet, _, rfl, ?_⟩
    refine iteT ?_
    refine ⟨_, rfl, p, _, dx, _, _, rfl, i1, T.cl_DS, T.no_DS_flags, sfs_flags l t, _, rfl, q, _, dy, _, _, rfl, i2, T.cl_DS, T.no_DS_flags, sfs_flags l' t', l, l', r, u, rfl, rfl, SqL.of e1, SqL.of e2, br, bu, k _ ?_⟩
    rw [decide_eq_true_iff]
    exact fr.eq_iff fu
  )]); intro f; simpa using My.gz f 5 true
theorem oD_eq {X : Cx} {k : Nat} (T : Tx K mg) (hr : Room k X.A) (hk : 1 ≤ k := by decide) (hK : X.K = K := by rfl) (hm : X.mg = mg := by rfl) : OpR X (compareOp .Eq) (rOwnI K (DS K) (sp_seq K) E0) := by
  apply My.two; (focus intro zzI; simp only [↓ My.mkB zzI (by
  clear zzI
  subst hK
  subst hm
  exact op_ownI (op := .Eq) (fun _ _ => rfl) T.sp_DS_eq.1 T.sp_DS_eq.2 (okD_eq T) (hr.mono hk) pass0
  )]); intro f; simpa using My.gz f 5 true
end
end Lw
section
local macro_rules | `(tactic| fail "k") => `(tactic| first | (refine My.Kx.trans (My.kx_same (by assumption)) ?_; fail "k") | fail_if_success skip)
local macro_rules | `(tactic| fail "k") => `(tactic| first | (refine My.Kx.trans (by assumption) ?_; fail "k") | fail_if_success skip)
local macro_rules | `(tactic| fail "k") => `(tactic| first | exact My.Kx.refl _ | fail_if_success skip)
local macro_rules | `(tactic| fail "f") => `(tactic| first | (apply My.Same.use; (focus assumption); fail "f") | fail_if_success skip)
local macro_rules | `(tactic| fail "f") => `(tactic| first | assumption | fail_if_success skip)
local macro_rules | `(tactic| fail "a") => `(tactic| first | (apply My.szl; first | omega | (simp <;> omega)) | fail_if_success skip)
local macro_rules | `(tactic| fail "a") => `(tactic| first | (apply My.sz; first | omega | (simp <;> omega)) | fail_if_success skip)
local macro_rules | `(tactic| fail "a") => `(tactic| first | (apply My.log10 (B := 60) (by decide); omega) | fail_if_success skip)
local macro_rules | `(tactic| fail "a") => `(tactic| first | (show List.length _ ≤ _; simp; done) | fail_if_success skip)
local macro_rules | `(tactic| fail "a") => `(tactic| first | (show 0 < List.length _; simp; done) | fail_if_success skip)
local macro_rules | `(tactic| fail "a") => `(tactic| first | (apply My.mulL; omega) | fail_if_success skip)
local macro_rules | `(tactic| fail "a") => `(tactic| first | (apply My.mulR; omega) | fail_if_success skip)
local macro_rules | `(tactic| fail "a") => `(tactic| first | exact ⟨by omega, by omega⟩ | fail_if_success skip)
local macro_rules | `(tactic| fail "a") => `(tactic| first | decide | fail_if_success skip)
local macro_rules | `(tactic| fail "a") => `(tactic| first | omega | fail_if_success skip)
local macro_rules | `(tactic| fail "a") => `(tactic| first | (show L2.Same _ _; refine My.Same.via (by assumption) ?_; fail "a") | fail_if_success skip)
local macro_rules | `(tactic| fail "a") => `(tactic| first | exact L2.Same.refl _ | fail_if_success skip)
local macro_rules | `(tactic| fail "a") => `(tactic| first | (apply Or.inl; refine ⟨rfl, ?_⟩; apply Exists.intro; apply L2.SqL.of; fail "f") | fail_if_success skip)
local macro_rules | `(tactic| fail "a") => `(tactic| first | (apply My.at_add; assumption) | fail_if_success skip)
local macro_rules | `(tactic| fail "a") => `(tactic| first | (apply L2.at_of rfl; assumption) | fail_if_success skip)
local macro_rules | `(tactic| fail "a") => `(tactic| first | (apply Or.inr; fail "f") | fail_if_success skip)
local macro_rules | `(tactic| fail "a") => `(tactic| first | (apply Or.inl; fail "f") | fail_if_success skip)
local macro_rules | `(tactic| fail "a") => `(tactic| first | (apply Lw.RdAt.same; (focus assumption); fail "a") | fail_if_success skip)
local macro_rules | `(tactic| fail "a") => `(tactic| first | (apply Lw.CalAt.same; (focus assumption); fail "a") | fail_if_success skip)
local macro_rules | `(tactic| fail "a") => `(tactic| first | (apply Lw.CalX.same; (focus assumption); fail "a") | fail_if_success skip)
local macro_rules | `(tactic| fail "a") => `(tactic| first | (apply Lw.SetRows.same; (focus assumption); fail "a") | fail_if_success skip)
local macro_rules | `(tactic| fail "a") => `(tactic| first | (apply Lw.SetAt.same; (focus assumption); fail "a") | fail_if_success skip)
local macro_rules | `(tactic| fail "a") => `(tactic| first | (apply Lw.Tx.no_RD_cuts; assumption) | fail_if_success skip)
local macro_rules | `(tactic| fail "a") => `(tactic| first | (apply Lw.Tx.no_RD_with_names; assumption) | fail_if_success skip)
local macro_rules | `(tactic| fail "a") => `(tactic| first | (apply Lw.Tx.no_RD_many; assumption) | fail_if_success skip)
local macro_rules | `(tactic| fail "a") => `(tactic| first | (apply Lw.Tx.no_RD_depth; assumption) | fail_if_success skip)
local macro_rules | `(tactic| fail "a") => `(tactic| first | (apply Lw.Tx.no_RD_place; assumption) | fail_if_success skip)
local macro_rules | `(tactic| fail "a") => `(tactic| first | (apply Lw.Tx.no_RD_words; assumption) | fail_if_success skip)
local macro_rules | `(tactic| fail "a") => `(tactic| first | (apply Lw.Tx.no_RD_guide; assumption) | fail_if_success skip)
local macro_rules | `(tactic| fail "a") => `(tactic| first | (show PySem.W.notFirst _ _ _ = true; apply And.right; apply Lw.Tx.fst_RD; assumption) | fail_if_success skip)
local macro_rules | `(tactic| fail "a") => `(tactic| first | (apply Lw.Tx.cl_RD; assumption) | fail_if_success skip)
local macro_rules | `(tactic| fail "a") => `(tactic| first | (apply Lw.Tx.no_CA_works; assumption) | fail_if_success skip)
local macro_rules | `(tactic| fail "a") => `(tactic| first | (apply Lw.Tx.no_CA_turn; assumption) | fail_if_success skip)
local macro_rules | `(tactic| fail "a") => `(tactic| first | (apply Lw.Tx.no_CA_starts; assumption) | fail_if_success skip)
local macro_rules | `(tactic| fail "a") => `(tactic| first | (apply Lw.Tx.no_CA_lengths; assumption) | fail_if_success skip)
local macro_rules | `(tactic| fail "a") => `(tactic| first | (apply Lw.Tx.no_CA_free_days; assumption) | fail_if_success skip)
local macro_rules | `(tactic| fail "a") => `(tactic| first | (apply Lw.Tx.no_CA_rests; assumption) | fail_if_success skip)
local macro_rules | `(tactic| fail "a") => `(tactic| first | (apply Lw.Tx.no_CA_begins; assumption) | fail_if_success skip)
local macro_rules | `(tactic| fail "a") => `(tactic| first | (apply Lw.Tx.no_CA_days_of_week; assumption) | fail_if_success skip)
local macro_rules | `(tactic| fail "a") => `(tactic| first | (apply Lw.Tx.no_CA_all_years; assumption) | fail_if_success skip)
local macro_rules | `(tactic| fail "a") => `(tactic| first | (show PySem.W.notFirst _ _ _ = true; apply And.right; apply Lw.Tx.fst_CA; assumption) | fail_if_success skip)
local macro_rules | `(tactic| fail "a") => `(tactic| first | (apply Lw.Tx.cl_CA; assumption) | fail_if_success skip)
local macro_rules | `(tactic| fail "a") => `(tactic| first | (apply Lw.Tx.no_DS_members; assumption) | fail_if_success skip)
local macro_rules | `(tactic| fail "a") => `(tactic| first | (apply Lw.Tx.no_DS_flags; assumption) | fail_if_success skip)
local macro_rules | `(tactic| fail "a") => `(tactic| first | (show PySem.W.notFirst _ _ _ = true; apply And.right; apply Lw.Tx.fst_DS; assumption) | fail_if_success skip)
local macro_rules | `(tactic| fail "a") => `(tactic| first | (apply Lw.Tx.cl_DS; assumption) | fail_if_success skip)
local macro_rules | `(tactic| fail "a") => `(tactic| first | (show ∃ xs : List L2.V, L2.SqT _ _ _ xs; apply Exists.intro; apply L2.SqT.of; fail "f") | fail_if_success skip)
local macro_rules | `(tactic| fail "a") => `(tactic| first | (show ∃ xs : List L2.V, L2.SqL _ _ _ xs; apply Exists.intro; apply L2.SqL.of; fail "f") | fail_if_success skip)
local macro_rules | `(tactic| fail "a") => `(tactic| first | (apply Or.inr; apply L2.SqT.of; fail "f") | fail_if_success skip)
local macro_rules | `(tactic| fail "a") => `(tactic| first | (apply Or.inl; apply L2.SqL.of; fail "f") | fail_if_success skip)
local macro_rules | `(tactic| fail "a") => `(tactic| first | (apply L2.SqT.of; fail "f") | fail_if_success skip)
local macro_rules | `(tactic| fail "a") => `(tactic| first | (apply L2.SqL.of; fail "f") | fail_if_success skip)
local macro_rules | `(tactic| fail "a") => `(tactic| first | (show _ = some _; fail "f") | fail_if_success skip)
local macro_rules | `(tactic| fail "a") => `(tactic| first | assumption | fail_if_success skip)
local macro_rules | `(tactic| fail "a") => `(tactic| first | ((with_reducible show (_ : Int) ≤ _); omega) | fail_if_success skip)
local macro_rules | `(tactic| fail "a") => `(tactic| first | ((with_reducible show (_ : Int) < _); omega) | fail_if_success skip)
local macro_rules | `(tactic| fail "a") => `(tactic| first | with_reducible assumption | fail_if_success skip)
local macro_rules | `(tactic| fail "a") => `(tactic| first | exact rfl | fail_if_success skip)
local macro_rules | `(tactic| fail "c") => `(tactic| first | (apply And.intro; (focus fail "a")) | fail_if_success skip)
local macro_rules | `(tactic| fail "c") => `(tactic| first | (apply Exists.intro; fail "c") | fail_if_success skip)
local macro_rules | `(tactic| rfl') => `(tactic| first | skip | fail_if_success skip)
local macro_rules | `(tactic| rfl') => `(tactic| first | ((with_reducible refine L2.iteF ?_); rfl') | fail_if_success skip)
local macro_rules | `(tactic| rfl') => `(tactic| first | ((with_reducible refine L2.iteT ?_); rfl') | fail_if_success skip)
local macro_rules | `(tactic| rfl') => `(tactic| first | (intro H' (s : L2.Same _ _); rfl') | fail_if_success skip)
local macro_rules | `(tactic| rfl') => `(tactic| first | (intro o H' (s : L2.Same _ _) ho; rfl') | fail_if_success skip)
local macro_rules | `(tactic| rfl') => `(tactic| first | (intro p hp; generalize e : L2.upd _ _ _ = H'; (fail_if_success (refine @Exists.intro (Nat → _) _ ?_ ?_)); (have s := My.newS e hp); (have f := My.newO e); clear e; rfl') | fail_if_success skip)
local macro_rules | `(tactic| rfl') => `(tactic| first | (fail "c"; rfl') | fail_if_success skip)
namespace Lw
open PySem PySem.Spec PyProof.Rows L2 My
section
variable {P : Program} {w : World} {K : Fg} {mg : Str → Option Value} {base : Heap}
/-- a list or a tuple of anything -/
def SeqV (H : Hp) (a : Addr) (xs : List V) : Prop := H a = some (.lst xs) ∨ H a = some (.tup xs)
theorem SeqV.same {H H' : Hp} {a : Addr} {xs : List V} (h : SeqV H a xs) (s : Same H H') : SeqV H' a xs := h.elim (fun h => .inl (s _ _ h)) fun h => .inr (s _ _ h)
theorem SeqV.sq {H : Hp} {a : Addr} {xs : List V} (h : SeqV H a xs) : SqL K H a xs ∨ SqT K H a xs := h.elim (fun h => .inl (SqL.of h)) fun h => .inr (SqT.of h)
theorem SeqV.ty {H : Hp} {a : Addr} {xs : List V} (h : SeqV H a xs) : ∃ t, TyX K H (.ref a) t ∧ PySem.W.kitAny K t [.type "list", .type "tuple"] = some true :=
  h.elim (fun h => ⟨_, .base (.lst h), kit_list⟩) fun h => ⟨_, .base (.tup h), kit_tuple⟩
/-- a tuple among the constants -/
def KT (K : Fg) (a : Addr) (xs : List V) : Prop := ∃ (o : Obj) (its : Array Value) (n : Nat), K.lookup a = some o ∧ o.cls = .type "tuple" ∧ o.data = .seq its n ∧ its.size ≤ sizeLine ∧ Vals xs its.toList
def SeqK (K : Fg) (H : Hp) (a : Addr) (xs : List V) : Prop := SeqV H a xs ∨ KT K a xs
theorem SeqK.same {H H' : Hp} {a : Addr} {xs : List V} (h : SeqK K H a xs) (s : Same H H') : SeqK K H' a xs := h.elim (fun h => .inl (h.same s)) .inr
theorem SeqK.sq {H : Hp} {a : Addr} {xs : List V} (h : SeqK K H a xs) : SqL K H a xs ∨ SqT K H a xs := h.elim (fun h => h.sq) fun h => .inr (.inr h)
theorem SeqK.ty {H : Hp} {a : Addr} {xs : List V} (h : SeqK K H a xs) : ∃ t, TyX K H (.ref a) t ∧ PySem.W.kitAny K t [.type "list", .type "tuple"] = some true := by
  apply My.two; (focus intro zzI; simp only [↓ My.mkB zzI (by
  clear zzI
  rcases h with h | ⟨o, its, n, h1, h2, _⟩
  · exact h.ty
  · exact ⟨_, .kTuple h1 h2, kit_tuple⟩
  )]); intro f; simpa using My.gz f 5 true
/-- the numbers of a row as values -/
def natV (l : Nat) : V := .int (l : Int)
/-- rows of numbers -/
def RowsV (H : Hp) (ts : List Addr) (rows : List (List Nat)) : Prop := Paired (fun t r => SeqV H t (r.map natV)) ts rows
theorem RowsV.len {H : Hp} {ts : List Addr} {rows : List (List Nat)} (h : RowsV H ts rows) : ts.length = rows.length := Paired.length h
theorem RowsV.same {H H' : Hp} (s : Same H H') : ∀ {ts : List Addr} {rows : List (List Nat)}, RowsV H ts rows → RowsV H' ts rows
  | _, _, .nil => .nil
  | _, _, .cons h t => .cons (h.same s) (RowsV.same s t)
theorem RowsV.get {H : Hp} : ∀ {ts : List Addr} {rows : List (List Nat)}, RowsV H ts rows → ∀ {i : Nat} {r : List Nat}, rows[i]? = some r → ∃ t, ts[i]? = some t ∧ SeqV H t (r.map natV)
  | _, _, .nil, _, _, h => by cases h
  | _, _, .cons h _, 0, _, e => by
    cases e
    exact ⟨_, rfl, h⟩
  | _, _, .cons _ t, i + 1, _, e => RowsV.get t (i := i) e
theorem RowsV.at {H : Hp} {ts : List Addr} {rows : List (List Nat)} (h : RowsV H ts rows) {i : Nat} {t : Addr} (e : ts[i]? = some t) : ∃ r, rows[i]? = some r ∧ SeqV H t (r.map natV) := by
  apply My.two; (focus intro zzI; simp only [↓ My.mkB zzI (by
  clear zzI
  have hl := h.len
  have hi : i < rows.length := by
    rw [← hl]
    exact (List.getElem?_eq_some_iff.mp e).1
  obtain ⟨t', e', hs⟩ := h.get (List.getElem?_eq_getElem hi)
  rw [e] at e'
  cases e'
  exact ⟨_, List.getElem?_eq_getElem hi, hs⟩
  )]); intro f; simpa using My.gz f 5 true
theorem all_t {H : Hp} {D : Addr} {n : Nat} {f : Nat → V} (h : H D = some (.lst ((List.range n).map f))) (ht : ∀ i, i < n → f i = .bl true) : H D = some (.lst ((List.replicate n true).map V.bl)) := by
  apply My.two; (focus intro zzI; simp only [↓ My.mkB zzI (by
  clear zzI
  rw [h]
  congr 2
  refine List.ext_getElem (by simp) fun i h1 h2 => ?_
  simp only [List.length_map, List.length_range] at h1
  simp [ht i h1]
  )]); intro f; simpa using My.gz f 5 true
theorem at_last {xs : List V} {n : Nat} {v : V} (l : xs.length = n + 1) (h : xs[n]? = some v) : atI xs (-1) = some v := by
  apply My.two; (focus intro zzI; simp only [↓ My.mkB zzI (by
  clear zzI
  have e : ixN (n + 1) (-1) = some n := by
    unfold ixN
    rw [if_neg (by decide), if_pos (by omega)]
    congr 1
    omega
  unfold atI
  rw [l, e]
  exact h
  )]); intro f; simpa using My.gz f 5 true
theorem seq_goC {H : Hp} {a : Addr} {xs : List V} {R : It → Hp → Prop} (h : SqL K H a xs ∨ SqT K H a xs) (k : ∀ (J : It) (G : Hp → Prop), Walk J xs.length G (YAt xs) → (∀ H', Same H H' → G H') → R J H) :
    iSeqX K (V.ref a) H R := by
  apply My.two; (focus intro zzI; simp only [↓ My.mkB zzI (by
  clear zzI
  rcases h with h | h
  · exact ⟨a, rfl, .inl ⟨xs, h, k _ _ walk_list fun H' s => s.seq h⟩⟩
  · exact ⟨a, rfl, .inr ⟨xs, h, k _ _ walk_tup fun H' s => same_tup s h⟩⟩
  )]); intro f; simpa using My.gz f 5 true
theorem ref_at {ts : List Addr} {i : Nat} {y : V} (h : (ts.map V.ref)[i]? = some y) : ∃ t, ts[i]? = some t ∧ V.ref t = y := by
  apply My.two; (focus intro zzI; simp only [↓ My.mkB zzI (by
  clear zzI
  rw [List.getElem?_map] at h
  cases e : ts[i]? with
  | none =>
    rw [e] at h
    cases h
  | some t =>
    rw [e] at h
    exact ⟨t, rfl, Option.some.inj h⟩
  )]); intro f; simpa using My.gz f 5 true
theorem all_rep {n : Nat} : (List.replicate n true).all id = true := by
  rw [List.all_replicate]
  cases n <;> rfl
theorem seq_goS {H0 H : Hp} {a : Addr} {xs : List V} {R : It → Hp → Prop} (h : SqL K H0 a xs ∨ SqT K H0 a xs) (s : Same H0 H) (k : ∀ (J : It) (G : Hp → Prop), Walk J xs.length G (YAt xs) → (∀ H', Same H0 H' → G H') → R J H) :
    iSeqX K (V.ref a) H R := by
  apply My.two; (focus intro zzI; simp only [↓ My.mkB zzI (by
  clear zzI
  rcases h with h | h
  · exact ⟨a, rfl, .inl ⟨xs, s.seq h, k _ _ walk_list fun H' s => s.seq h⟩⟩
  · exact ⟨a, rfl, .inr ⟨xs, same_tup s h, k _ _ walk_tup fun H' s => same_tup s h⟩⟩
  )]); intro f; simpa using My.gz f 5 true
theorem ixq_go {H : Hp} {a : Addr} {xs : List V} {j : Nat} {v : V} {Q : VK} (h : SeqV H a xs) (e : xs[j]? = some v) (q : Q v H) : rIxQ K (.ref a) (.int (j : Int)) H Q :=
  h.elim (fun h => .inl ⟨a, xs, _, v, rfl, rfl, SqL.of h, at_of rfl e, q⟩) fun h => .inr ⟨a, xs, _, v, rfl, rfl, SqT.of h, at_of rfl e, q⟩
def sp_isrow (K : Fg) : Sp := fun vs H Q _ => ∃ (a : Addr) (xs : List V), vs = [.ref a] ∧ SeqK K H a xs ∧ ∀ H' : Hp, Same H H' → Q (.bl true) H'
theorem ok_is_row (T : Tx K mg) : FnR P w K mg base CX0 1 (He.ga K "is_row") (sp_isrow K) := by
  apply My.two; (focus intro zzI; simp only [↓ My.mkB zzI (by
  clear zzI
  refine (T.fnR 62 (st := s_is_row) (at_ := fun K => He.ga K "is_row") rfl sc_is_row (fun _ _ _ _ _ _ us hl => match us, hl with | [_], _ => rfl)) (fun vs H Q E h => ?_) (fun cdv A outer s H vs Q E hr h => ?_)
  · obtain ⟨a, xs, rfl, _⟩ := h
    rfl
  · obtain ⟨a, xs, rfl, ha, k⟩ := h
    refine ⟨_, (pss_one (ps_ret (pe_callB (isiT_k T) (by rfl) T.n_isinstance (by decide +kernel) (pa_cons (pv 0) (pa_cons (pe_tup (pa_cons (pe_bltn (v := .ty "list") (u := .type "list") rfl T.n_list (by decide +kernel) rfl) (pa_cons (pe_bltn (v := .ty "tuple") (u := .type "tuple") rfl T.n_tuple (by decide +kernel) rfl) pa_nil))) pa_nil))))), ?_⟩
    refine ⟨_, rfl, by show 2 ≤ sizeLine; decide, fun tp htp => ?_⟩
    have s1 := same_upd (o := .tup [V.ty "list", V.ty "tuple"]) htp
    obtain ⟨t, h1, h2⟩ := (ha.same s1).ty
    exact ⟨_, tp, _, _, _, true, rfl, upd_same, .cons (.ty _) (.cons (.ty _) .nil), h1, h2, k _ s1⟩
  )]); intro f; simpa using My.gz f 5 true
theorem c_is_row {X : Cx} {k : Nat} {t : TA} {e : Expr} {es : List Expr} {np pos : Pos} (T : Tx K mg) (hr : Room k X.A) (ha : PA X (e :: es) t) (hk : 1 ≤ k := by decide) (hK : X.K = K := by rfl) (hm : X.mg = mg := by rfl)
    (hg : Gl X "is_row" := by rfl) (hse : starEach (e :: es) X.env = (false, eval e X.env) :: starEach es X.env := by rfl) (hpl : (backTo pos (starEach es X.env)).any (·.1) = false := by rfl) :
    PE X (.Call (.Name "is_row" np) (e :: es) [] pos) (tFn (sp_isrow K) E0 t) := by
  subst hK
  subst hm
  exact pe_fR (ok_is_row T) T.kp_is_row T.g_is_row (hr.mono hk) pass0 ha hg (by decide) hse hpl
def sp_isbet : Sp := fun vs H Q _ => ∃ i lo hi : Int, vs = [.int i, .int lo, .int hi] ∧ Q (.bl (decide (lo ≤ i) && decide (i ≤ hi))) H
theorem ok_is_between (T : Tx K mg) : FnR P w K mg base CX0 2 (He.ga K "is_between") sp_isbet := by
  apply My.two; (focus intro zzI; simp only [↓ My.mkB zzI (by
  clear zzI
  refine (T.fnR 63 (st := s_is_between) (at_ := fun K => He.ga K "is_between") rfl sc_is_between (fun _ _ _ _ _ _ us hl => match us, hl with | [_, _, _], _ => rfl)) (fun vs H Q E h => ?_) (fun cdv A outer s H vs Q E hr h => ?_)
  · obtain ⟨i, lo, hi, rfl, _⟩ := h
    rfl
  · obtain ⟨i, lo, hi, rfl, k⟩ := h
    refine ⟨_, (pss_one (ps_ret (pe_and (c_is_integer T hr (pa_cons (pv 0) pa_nil)) (pe_one (pe_chain op_le op_le (pv 1) (pv 0) (pv 2)))))), ?_⟩
    refine ⟨_, rfl, i, rfl, true, rfl, iteT ?_⟩
    refine ⟨_, rfl, _, rfl, _, _, rfl, rfl, _, rfl, ?_⟩
    cases c : decide (lo ≤ i) with
    | true =>
      rw [c, Bool.true_and] at k
      exact iteT ⟨_, rfl, _, _, rfl, rfl, k⟩
    | false =>
      rw [c, Bool.false_and] at k
      exact iteF k
  )]); intro f; simpa using My.gz f 5 true
theorem c_is_between {X : Cx} {k : Nat} {t : TA} {e : Expr} {es : List Expr} {np pos : Pos} (T : Tx K mg) (hr : Room k X.A) (ha : PA X (e :: es) t) (hk : 2 ≤ k := by decide) (hK : X.K = K := by rfl) (hm : X.mg = mg := by rfl)
    (hg : Gl X "is_between" := by rfl) (hse : starEach (e :: es) X.env = (false, eval e X.env) :: starEach es X.env := by rfl) (hpl : (backTo pos (starEach es X.env)).any (·.1) = false := by rfl) :
    PE X (.Call (.Name "is_between" np) (e :: es) [] pos) (tFn sp_isbet E0 t) := by
  subst hK
  subst hm
  exact pe_fR (ok_is_between T) T.kp_is_between T.g_is_between (hr.mono hk) pass0 ha hg (by decide) hse hpl
def sp_mstarts (K : Fg) : Sp := fun vs H Q _ => ∃ (a : Addr) (ls : List Nat), vs = [.ref a] ∧ SqL K H a (ls.map natV) ∧ ls.length ≤ 10000 ∧ ∀ (t : Addr) (H' : Hp), Same H H' → H t = none → H' t = some (.lst ((List.range (ls.length + 1)).map fun k => natV (pre ls k))) → Q (.ref t) H'
theorem ok_month_starts (T : Tx K mg) : FnR P w K mg base CX0 1 (He.ga K "month_starts") (sp_mstarts K) := by
  apply My.two; (focus intro zzI; simp only [↓ My.mkB zzI (by
  clear zzI
  refine (T.fnR 67 (st := s_month_starts) (at_ := fun K => He.ga K "month_starts") rfl sc_month_starts (fun _ _ _ _ _ _ us hl => match us, hl with | [_], _ => rfl)) (fun vs H Q E h => ?_) (fun cdv A outer s H vs Q E hr h => ?_)
  · obtain ⟨a, ls, rfl, _⟩ := h
    rfl
  · obtain ⟨a, ls, rfl, ha, hl, k⟩ := h
    refine ⟨_, (pss_cons (ps_set (i := 1) sc_month_starts.nd rfl (Or.inl rfl) (pe_lst (pa_cons pe_int pa_nil)))
 (pss_cons (ps_for PassesOwn.never rfl (pil T (pv 0)) (pg_name (i := 2) sc_month_starts.nd rfl (Or.inl rfl))
 (pss_one (ps_expr (bmk T PySem.F.plainAttrs_list PySem.F.slot_list_append PySem.F.type_list_append mt_append (pv 1) (pa_cons (pe_op op_add (pe_ix (ixl T) (pv 1) (pe_un un_neg pe_int) (fun _ _ => rfl)) (pv 2)) pa_nil)))))
 (pss_one (ps_ret (pv 1))))), ?_⟩
    refine ⟨by show 1 ≤ sizeLine; decide, fun D hD => ?_⟩
    have l1 : (ls.map natV).length = ls.length := List.length_map ..
    refine ⟨_, rfl, a, rfl, ⟨_, sqL_same ha (same_upd (o := .lst [V.int 0]) hD)⟩, ?_⟩
    refine for_it (walk_list (xs := ls.map natV)) (fun i σ H' => (∃ v2 : Option V, σ = [some (.ref a), some (.ref D), v2]) ∧ Same H H' ∧ H' D = some (.lst ((List.range (i + 1)).map fun k => natV (pre ls k)))) ⟨⟨none, rfl⟩, same_upd hD, upd_same⟩ (fun i σ H' _ h => sqL_same ha h.2.1) ?_ ?_
    · rintro i x σ H1 H2 hi ⟨⟨v2, rfl⟩, s1, e1⟩ ⟨rfl, ex⟩
      rw [l1] at hi
      rw [List.getElem?_map, List.getElem?_eq_getElem hi] at ex
      obtain rfl := Option.some.inj ex
      have el : ((List.range (i + 1)).map fun k => natV (pre ls k)).length = i + 1 := by simp
      have g1 : ((List.range (i + 1)).map fun k => natV (pre ls k))[i]? = some (natV (pre ls i)) := by simp
      rfl'
      refine ⟨at_last el g1, ?_⟩
      rfl'
      refine ⟨⟨_, rfl⟩, same_under s1 hD, ?_⟩
      rw [upd_same, List.range_succ (n := i + 1), List.map_append]
      have e : natV (pre ls (i + 1)) = .int ((pre ls i : Int) + (ls[i] : Int)) := by
        unfold natV
        rw [pre_succ hi, List.getD_eq_getElem?_getD, List.getElem?_eq_getElem hi]
        rfl
      show _ = some (HO.lst (_ ++ [natV (pre ls (i + 1))]))
      rw [e]
    · rintro σ H1 ⟨⟨v2, rfl⟩, s1, e1⟩
      rw [l1] at e1
      exact ⟨_, rfl, k D H1 s1 hD e1⟩
  )]); intro f; simpa using My.gz f 5 true
theorem c_month_starts {X : Cx} {k : Nat} {t : TA} {e : Expr} {es : List Expr} {np pos : Pos} (T : Tx K mg) (hr : Room k X.A) (ha : PA X (e :: es) t) (hk : 1 ≤ k := by decide) (hK : X.K = K := by rfl) (hm : X.mg = mg := by rfl)
    (hg : Gl X "month_starts" := by rfl) (hse : starEach (e :: es) X.env = (false, eval e X.env) :: starEach es X.env := by rfl) (hpl : (backTo pos (starEach es X.env)).any (·.1) = false := by rfl) :
    PE X (.Call (.Name "month_starts" np) (e :: es) [] pos) (tFn (sp_mstarts K) E0 t) := by
  subst hK
  subst hm
  exact pe_fR (ok_month_starts T) T.kp_month_starts T.g_month_starts (hr.mono hk) pass0 ha hg (by decide) hse hpl
def sp_mat (K : Fg) : Sp := fun vs H Q _ => ∃ (a : Addr) (ls : List Nat) (d : Nat), vs = [.ref a, .int (d : Int)] ∧ SqL K H a ((List.range (ls.length + 1)).map fun k => natV (pre ls k)) ∧ 0 < ls.length ∧ ls.length ≤ 10000 ∧ (∀ l ∈ ls, 0 < l) ∧ d < ls.sum ∧ Q (.int (loc ls d : Nat)) H
theorem ok_month_at (T : Tx K mg) : FnR P w K mg base CX0 1 (He.ga K "month_at") (sp_mat K) := by
  apply My.two; (focus intro zzI; simp only [↓ My.mkB zzI (by
  clear zzI
  refine (T.fnR 68 (st := s_month_at) (at_ := fun K => He.ga K "month_at") rfl sc_month_at (fun _ _ _ _ _ _ us hl => match us, hl with | [_, _], _ => rfl)) (fun vs H Q E h => ?_) (fun cdv A outer s H vs Q E hr h => ?_)
  · obtain ⟨a, ls, d, rfl, _⟩ := h
    rfl
  · obtain ⟨a, ls, d, rfl, ha, l0, l1, pos, hd, k⟩ := h
    refine ⟨_, (pss_cons (ps_par (i := 2) (j := 3) (by rfl) sc_month_at.nd rfl rfl (by decide) rfl rfl (pa_cons pe_int (pa_cons (pe_op op_sub (pe_callB (len_k T) (by rfl) T.n_len (by decide +kernel) (pa_cons (pv 0) pa_nil)) pe_int) pa_nil)) (by rfl))
 (pss_cons (ps_while PassesOwn.never (pt_cmpR op_gt (pe_op op_sub (pv 3) (pv 2)) pe_int (nomark _))
 (pss_cons (ps_set (i := 4) sc_month_at.nd rfl (Or.inl rfl) (pe_op op_fdiv (pe_op op_add (pv 2) (pv 3)) pe_int))
 (pss_one (ps_if (pt_cmpR op_le (pe_ix (ixl T) (pv 0) (pv 4) (fun _ _ => rfl)) (pv 1) (nomark _))
 (pss_one (ps_set (i := 2) sc_month_at.nd rfl (Or.inl rfl) (pv 4)))
 (pss_one (ps_set (i := 3) sc_month_at.nd rfl (Or.inl rfl) (pv 4)))))))
 (pss_one (ps_ret (pv 2))))), ?_⟩
    have el : ((List.range (ls.length + 1)).map fun k => natV (pre ls k)).length = ls.length + 1 := by simp
    refine ⟨_, rfl, a, _, rfl, .inl ha, _, _, rfl, rfl, _, _, rfl, ?_⟩
    rw [el]
    refine ⟨fun m σ H' => ∃ (lo hi : Nat) (v4 : Option V), σ = [some (.ref a), some (.int (d : Int)), some (.int (lo : Int)), some (.int (hi : Int)), v4] ∧ H' = H ∧ lo < hi ∧ hi ≤ ls.length ∧ pre ls lo ≤ d ∧ d < pre ls hi ∧ m = hi - lo, ⟨_, 0, ls.length, none, ?_, rfl, l0, Nat.le_refl _, Nat.zero_le _, by rw [pre_all]; exact hd, rfl⟩, ?_⟩
    · show [some (V.ref a), some (V.int (d : Int)), some (V.int 0), some (V.int (((ls.length + 1 : Nat) : Int) - 1)), none] = _
      rw [show ((ls.length + 1 : Nat) : Int) - 1 = (ls.length : Int) by omega]
      rfl
    rintro m σ H' ⟨lo, hi, v4, rfl, rfl, h1, h2, h3, h4, rfl⟩
    refine ⟨_, rfl, _, rfl, _, _, rfl, rfl, _, _, rfl, rfl, _, rfl, ?_⟩
    refine ite2 (fun hc => wh_go ?_) (fun hc => ?_)
    · have hlt : 1 < (hi : Int) - (lo : Int) := of_decide_eq_true hc
      obtain ⟨md, hmd⟩ : ∃ md : Nat, (lo + hi) / 2 = md := ⟨_, rfl⟩
      have emd : ((lo : Int) + (hi : Int)) / 2 = (md : Int) := by omega
      refine ⟨_, rfl, _, rfl, _, _, rfl, rfl, _, _, rfl, rfl, ⟨by decide, by decide⟩, ?_⟩
      refine at_st (σ' := [some (.ref a), some (.int (d : Int)), some (.int (lo : Int)), some (.int (hi : Int)), some (.int (md : Int))]) (by rw [← emd]; rfl) ?_
      have hv : ((List.range (ls.length + 1)).map fun k => natV (pre ls k))[md]? = some (natV (pre ls md)) := by
        rw [List.getElem?_map, List.getElem?_range (by omega)]
        rfl
      refine ⟨_, rfl, _, rfl, a, _, _, natV (pre ls md), rfl, rfl, ha, at_of (j := md) rfl hv, _, rfl, _, _, rfl, rfl, _, rfl, ?_⟩
      refine ite2 (fun hq => ?_) (fun hq => ?_)
      · have hq : ((pre ls md : Nat) : Int) ≤ (d : Int) := of_decide_eq_true hq
        refine ⟨_, rfl, ?_⟩
        exact ⟨hi - md, by omega, md, hi, _, rfl, rfl, by omega, h2, by omega, h4, rfl⟩
      · have hq : ¬ ((pre ls md : Nat) : Int) ≤ (d : Int) := fun e => hq (decide_eq_true e)
        refine ⟨_, rfl, ?_⟩
        exact ⟨md - lo, by omega, lo, md, _, rfl, rfl, by omega, by omega, h3, by omega, rfl⟩
    · have hle : ¬ 1 < (hi : Int) - (lo : Int) := fun e => hc (decide_eq_true e)
      obtain rfl : hi = lo + 1 := by omega
      refine ⟨_, rfl, ?_⟩
      rw [loc_uniq pos (k := lo) (d := d) h2 h3 h4]
      exact k
  )]); intro f; simpa using My.gz f 5 true
theorem c_month_at {X : Cx} {k : Nat} {t : TA} {e : Expr} {es : List Expr} {np pos : Pos} (T : Tx K mg) (hr : Room k X.A) (ha : PA X (e :: es) t) (hk : 1 ≤ k := by decide) (hK : X.K = K := by rfl) (hm : X.mg = mg := by rfl)
    (hg : Gl X "month_at" := by rfl) (hse : starEach (e :: es) X.env = (false, eval e X.env) :: starEach es X.env := by rfl) (hpl : (backTo pos (starEach es X.env)).any (·.1) = false := by rfl) :
    PE X (.Call (.Name "month_at" np) (e :: es) [] pos) (tFn (sp_mat K) E0 t) := by
  subst hK
  subst hm
  exact pe_fR (ok_month_at T) T.kp_month_at T.g_month_at (hr.mono hk) pass0 ha hg (by decide) hse hpl
def sp_areyears : Sp := fun vs H Q _ => ∃ (a : Addr) (ts : List Addr) (rows : List (List Nat)), vs = [.ref a] ∧ SeqV H a (ts.map V.ref) ∧ RowsV H ts rows ∧ YrOk rows ∧ ∀ H' : Hp, Same H H' → Q (.bl true) H'
theorem ok_are_years (T : Tx K mg) : FnR P w K mg base CX0 3 (He.ga K "are_years") sp_areyears := by
  apply My.two; (focus intro zzI; simp only [↓ My.mkB zzI (by
  clear zzI
  refine (T.fnR 64 (st := s_are_years) (at_ := fun K => He.ga K "are_years") rfl sc_are_years (fun _ _ _ _ _ _ us hl => match us, hl with | [_], _ => rfl)) (fun vs H Q E h => ?_) (fun cdv A outer s H vs Q E hr h => ?_)
  · obtain ⟨a, ts, rows, rfl, _⟩ := h
    rfl
  · obtain ⟨a, ts, rows, rfl, ha, hr2, ok, k⟩ := h
    refine ⟨_, (pss_cons (ps_if (PW.pt (pw_or (pt_not (pt_val (c_is_row T hr (pa_cons (pv 0) pa_nil)))) (pw_or (pt_not (pt_chain op_le op_le pe_int (pe_callB (len_k T) (by rfl) T.n_len (by decide +kernel) (pa_cons (pv 0) pa_nil)) (pe_glob (v := .int 400) rfl (T.g_MAX_YEARS).choose_spec ⟨_, rfl⟩))) (pw_or1 (pt_not (pt_val (pe_callB (all_k T rfl) (by rfl) T.n_all (by decide +kernel) (pa_cons (pe_lc (own := [("year", 1)]) rfl sc_are_years.nd (pis T (pv 0)) (blkOk_by (own := [("year", 1)]) (N := N_are_years) (sc := defScope s_are_years) (by decide +kernel)) (fun _ _ _ _ _ => (pg_name (i := 1) sc_are_years.nd rfl (Or.inl rfl))) (fun _ _ _ _ _ => pts_nil) (fun _ _ _ _ _ => (c_is_row T hr (pa_cons (pv 1) pa_nil)))) pa_nil))))))))
 (pss_one (ps_ret pe_bl))
 pss_nil)
 (pss_cons (ps_if (PW.pt (pw_or (pt_not (pt_chain op_le op_le pe_int (pe_callB (len_k T) (by rfl) T.n_len (by decide +kernel) (pa_cons (pe_ix (ixq T) (pv 0) pe_int (fun _ _ => rfl)) pa_nil)) (pe_glob (v := .int 14) rfl (T.g_MAX_MONTHS).choose_spec ⟨_, rfl⟩))) (pw_or1 (pt_not (pt_val (pe_callB (all_k T rfl) (by rfl) T.n_all (by decide +kernel) (pa_cons (pe_lc (own := [("year", 1)]) rfl sc_are_years.nd (pis T (pv 0)) (blkOk_by (own := [("year", 1)]) (N := N_are_years) (sc := defScope s_are_years) (by decide +kernel)) (fun _ _ _ _ _ => (pg_name (i := 1) sc_are_years.nd rfl (Or.inl rfl))) (fun _ _ _ _ _ => pts_nil) (fun _ _ _ _ _ => (pe_cmpR op_eq (pe_callB (len_k T) (by rfl) T.n_len (by decide +kernel) (pa_cons (pv 1) pa_nil)) (pe_callB (len_k T) (by rfl) T.n_len (by decide +kernel) (pa_cons (pe_ix (ixq T) (pv 0) pe_int (fun _ _ => rfl)) pa_nil)) (nomark _)))) pa_nil)))))))
 (pss_one (ps_ret pe_bl))
 pss_nil)
 (pss_one (ps_ret (pe_callB (all_k T rfl) (by rfl) T.n_all (by decide +kernel) (pa_cons (pe_lc2 (vs1 := [2]) (own := [("year", 1), ("days", 2)]) rfl sc_are_years.nd (pis T (pv 0)) (blkOk_by (own := [("year", 1), ("days", 2)]) (N := N_are_years) (sc := defScope s_are_years) (by decide +kernel)) (by decide) (fun _ _ _ _ _ => (pg_name (i := 1) sc_are_years.nd rfl (Or.inl rfl))) (fun _ _ _ _ _ => pts_nil) (fun _ _ _ _ _ => (pis T (pv 1))) (fun _ _ _ _ _ => (pg_name (i := 2) sc_are_years.nd rfl (Or.inl rfl))) (fun _ _ _ _ _ => pts_nil) (fun _ _ _ _ _ => (c_is_between T hr (pa_cons (pv 2) (pa_cons pe_int (pa_cons (pe_glob (v := .int 40) rfl (T.g_MAX_DAYS).choose_spec ⟨_, rfl⟩) pa_nil)))))) pa_nil)))))), ?_⟩
    have L1 : (ts.map V.ref).length = rows.length := by rw [List.length_map, hr2.len]
    have le := ok.le
    have ne := ok.ne
    obtain ⟨t0, e0, h0⟩ := hr2.get (List.getElem?_eq_getElem (i := 0) ok.ne)
    have r0 : rows[0]'ok.ne = rows.getD 0 [] := by rw [List.getD_eq_getElem?_getD, List.getElem?_eq_getElem ok.ne]; rfl
    rw [r0] at h0
    have L0 : ((rows.getD 0 []).map natV).length = (rows.getD 0 []).length := List.length_map ..
    have a0 : (ts.map V.ref)[0]? = some (.ref t0) := by rw [List.getElem?_map, e0]; rfl
    rfl'
    rename_i H1 s1
    refine ⟨(ha.same s1).sq, ?_⟩
    rw [L1]
    rfl'
    rw [decide_eq_true (show (1 : Int) ≤ (rows.length : Int) by have := ok.ne; omega)]
    refine iteT ?_
    rfl'
    rw [decide_eq_true (show (rows.length : Int) ≤ 400 by have := ok.le; omega)]
    refine ⟨_, rfl, ?_⟩
    refine seq_goC ((ha.same s1).sq) fun J G wk hG D hD => ?_
    refine walk_w wk (Acc H1 D fun _ => V.bl true) (Acc.start hD) (fun i H2 _ h => hG H2 h.1) ?_ ?_
    · rintro i y H2 H3 hi hacc ⟨rfl, ey⟩
      obtain ⟨t, et, rfl⟩ := ref_at ey
      obtain ⟨r, er, hs⟩ := hr2.at et
      refine ⟨rfl, ?_⟩
      refine yes_t ?_
      refine ⟨_, rfl, t, _, rfl, .inl (hs.same (s1.trans hacc.1)), fun H4 s4 => ?_⟩
      exact hacc.push hD s4 (by omega) rfl
    rintro H2 ⟨s2, e2⟩
    rw [L1] at e2
    refine ⟨D, _, rfl, SqL.of (all_t e2 fun _ _ => rfl), ?_⟩
    rw [all_rep]
    clear hD wk hG e2
    have s12 := s1.trans s2
    have hq := (ha.same s12).sq (K := K)
    have hq0 := (h0.same s12).sq (K := K)
    refine ⟨_, rfl, ?_⟩
    refine iteF ?_
    rfl'
    refine ixq_go (j := 0) (ha.same s12) a0 ?_
    rfl'
    rw [L0]
    have m0 := ok.m0
    have m1 := ok.m1
    rfl'
    rw [decide_eq_true (show (1 : Int) ≤ ((rows.getD 0 []).length : Int) by omega)]
    refine iteT ?_
    rfl'
    rw [decide_eq_true (show ((rows.getD 0 []).length : Int) ≤ 14 by omega)]
    refine ⟨_, rfl, ?_⟩
    refine seq_goC ((ha.same s12).sq) fun J G wk hG D2 hD2 => ?_
    refine walk_w wk (Acc H2 D2 fun _ => V.bl true) (Acc.start hD2) (fun i H3 _ h => hG H3 h.1) ?_ ?_
    · rintro i y H3 H4 hi hacc ⟨rfl, ey⟩
      obtain ⟨t, et, rfl⟩ := ref_at ey
      obtain ⟨r, er, hs⟩ := hr2.at et
      have sH := s12.trans hacc.1
      have hq2 := (hs.same sH).sq (K := K)
      have hq3 := (h0.same sH).sq (K := K)
      have er2 := ok.eq r (List.mem_of_getElem? er)
      have l4 : (r.map natV).length = r.length := List.length_map ..
      refine ⟨rfl, ?_⟩
      refine yes_t ?_
      refine ⟨_, rfl, t, _, rfl, hq2, ?_⟩
      refine ⟨_, rfl, ?_⟩
      refine ixq_go (j := 0) (ha.same sH) a0 ?_
      refine ⟨t0, _, rfl, hq3, ?_⟩
      rw [l4, L0, er2]
      refine ⟨rfl, ?_⟩
      refine hacc.push hD2 (Same.refl _) (by omega) ?_
      rw [decide_eq_true rfl]
    rintro H3 ⟨s3, e3⟩
    rw [L1] at e3
    refine ⟨D2, _, rfl, SqL.of (all_t e3 fun _ _ => rfl), ?_⟩
    rw [all_rep]
    clear hD2 wk hG e3 hq hq0
    have s13 := s12.trans s3
    refine ⟨_, rfl, ?_⟩
    refine iteF ?_
    refine ⟨_, rfl, ?_⟩
    refine seq_goC ((ha.same s13).sq) fun J G wk hG D3 hD3 => ?_
    refine walk_w wk (fun i H' => Same H3 H' ∧ ∃ n, n ≤ 14 * i ∧ H' D3 = some (.lst ((List.replicate n true).map V.bl))) ⟨same_upd hD3, 0, by omega, upd_same⟩ (fun i H4 _ h => hG H4 h.1) ?_ ?_
    · rintro i y H4 H5 hi ⟨s4, n, hn, en⟩ ⟨rfl, ey⟩
      obtain ⟨t, et, rfl⟩ := ref_at ey
      obtain ⟨r, er, hs⟩ := hr2.at et
      have er2 := ok.eq r (List.mem_of_getElem? er)
      have l4 : (r.map natV).length = r.length := List.length_map ..
      refine ⟨rfl, ?_⟩
      refine yes_t ?_
      refine ⟨_, rfl, ?_⟩
      refine seq_goS ((hs.same s13).sq) s4 fun J2 G2 wk2 hG2 => ?_
      refine walk_w wk2 (fun j H' => Same H3 H' ∧ H' D3 = some (.lst ((List.replicate (n + j) true).map V.bl))) ⟨s4, en⟩ (fun j H6 _ h => hG2 H6 h.1) ?_ ?_
      · rintro j y H6 H7 hj ⟨s6, e6⟩ ⟨rfl, ey2⟩
        rw [l4] at hj
        rw [List.getElem?_map, List.getElem?_eq_getElem hj] at ey2
        obtain rfl := Option.some.inj ey2
        have dl := ok.ds r (List.mem_of_getElem? er) _ (List.getElem_mem hj)
        refine ⟨rfl, ?_⟩
        refine yes_t ?_
        refine ⟨_, rfl, (r[j] : Int), 1, 40, rfl, ?_⟩
        rw [decide_eq_true (show (1 : Int) ≤ (r[j] : Int) by omega), decide_eq_true (show (r[j] : Int) ≤ 40 by omega)]
        refine ⟨_, e6, by rw [List.length_map, List.length_replicate, sizeLine_eq]; omega, same_under s6 hD3, ?_⟩
        rw [upd_same, ← Nat.add_assoc, List.replicate_succ' (n := n + j), List.map_append]
        rfl
      · rintro H6 ⟨s6, e6⟩
        exact ⟨s6, _, by omega, e6⟩
    rintro H4 ⟨s4, n, hn, en⟩
    refine ⟨D3, _, rfl, SqL.of en, ?_⟩
    rw [all_rep]
    exact k H4 (s13.trans s4)
  )]); intro f; simpa using My.gz f 5 true
theorem c_are_years {X : Cx} {k : Nat} {t : TA} {e : Expr} {es : List Expr} {np pos : Pos} (T : Tx K mg) (hr : Room k X.A) (ha : PA X (e :: es) t) (hk : 3 ≤ k := by decide) (hK : X.K = K := by rfl) (hm : X.mg = mg := by rfl)
    (hg : Gl X "are_years" := by rfl) (hse : starEach (e :: es) X.env = (false, eval e X.env) :: starEach es X.env := by rfl) (hpl : (backTo pos (starEach es X.env)).any (·.1) = false := by rfl) :
    PE X (.Call (.Name "are_years" np) (e :: es) [] pos) (tFn sp_areyears E0 t) := by
  subst hK
  subst hm
  exact pe_fR (ok_are_years T) T.kp_are_years T.g_are_years (hr.mono hk) pass0 ha hg (by decide) hse hpl
end
end Lw
namespace Lw
open PySem PySem.Spec PyProof.Rows L2 My
section
variable {P : Program} {w : World} {K : Fg} {mg : Str → Option Value} {base : Heap}
/-- pairs as tuples -/
def PrT (H : Hp) (ts : List Addr) (ps : List (Int × Int)) : Prop := Paired (fun t p => H t = some (.tup [.int p.1, .int p.2])) ts ps
theorem PrT.prs {H : Hp} : ∀ {ts : List Addr} {ps : List (Int × Int)}, PrT H ts ps → Prs K H ts ps
  | _, _, .nil => .nil
  | _, _, .cons h t => .cons (SqT.of h) (PrT.prs t)
theorem PrT.same {H H' : Hp} (s : Same H H') : ∀ {ts : List Addr} {ps : List (Int × Int)}, PrT H ts ps → PrT H' ts ps
  | _, _, .nil => .nil
  | _, _, .cons h t => .cons (s _ _ h) (PrT.same s t)
theorem PrT.len {H : Hp} {ts : List Addr} {ps : List (Int × Int)} (h : PrT H ts ps) : ts.length = ps.length := Paired.length h
theorem PrT.at {H : Hp} : ∀ {ts : List Addr} {ps : List (Int × Int)}, PrT H ts ps → ∀ {i : Nat} {t : Addr}, ts[i]? = some t → ∃ p, ps[i]? = some p ∧ H t = some (.tup [.int p.1, .int p.2])
  | _, _, .nil, _, _, h => by cases h
  | _, _, .cons h _, 0, _, e => by
    cases e
    exact ⟨_, rfl, h⟩
  | _, _, .cons _ r, i + 1, _, e => PrT.at r (i := i) e
def sp_arewd (K : Fg) : Sp := fun vs H Q _ => ∃ (a : Addr) (rs : List Int) (wk : Int), vs = [.ref a, .int wk] ∧ SeqK K H a (rs.map V.int) ∧ rs.Nodup ∧ (∀ x ∈ rs, 0 ≤ x ∧ x < wk) ∧ rs.length ≤ 64 ∧ ∀ H' : Hp, Same H H' → Q (.bl true) H'
theorem ok_are_weekdays (T : Tx K mg) : FnR P w K mg base CX0 3 (He.ga K "are_weekdays") (sp_arewd K) := by
  apply My.two; (focus intro zzI; simp only [↓ My.mkB zzI (by
  clear zzI
  refine (T.fnR 65 (st := s_are_weekdays) (at_ := fun K => He.ga K "are_weekdays") rfl sc_are_weekdays (fun _ _ _ _ _ _ us hl => match us, hl with | [_, _], _ => rfl)) (fun vs H Q E h => ?_) (fun cdv A outer s H vs Q E hr h => ?_)
  · obtain ⟨a, rs, wk, rfl, _⟩ := h
    rfl
  · obtain ⟨a, rs, wk, rfl, ha, nd, hb, hl, k⟩ := h
    refine ⟨_, (pss_cons (ps_if (PW.pt (pw_or (pt_not (pt_val (c_is_row T hr (pa_cons (pv 0) pa_nil)))) (pw_or1 (pt_not (pt_val (pe_callB (all_k T rfl) (by rfl) T.n_all (by decide +kernel) (pa_cons (pe_lc (own := [("weekday", 2)]) rfl sc_are_weekdays.nd (pis T (pv 0)) (blkOk_by (own := [("weekday", 2)]) (N := N_are_weekdays) (sc := defScope s_are_weekdays) (by decide +kernel)) (fun _ _ _ _ _ => (pg_name (i := 2) sc_are_weekdays.nd rfl (Or.inl rfl))) (fun _ _ _ _ _ => pts_nil) (fun _ _ _ _ _ => (c_is_between T hr (pa_cons (pv 2) (pa_cons pe_int (pa_cons (pe_op op_sub (pv 1) pe_int) pa_nil)))))) pa_nil)))))))
 (pss_one (ps_ret pe_bl))
 pss_nil)
 (pss_one (ps_ret (pe_cmpR op_eq (pe_lenSetQ (by rfl) T.n_len (by rfl) T.n_set (pv 0)) (pe_callB (len_k T) (by rfl) T.n_len (by decide +kernel) (pa_cons (pv 0) pa_nil)) (nomark _))))), ?_⟩
    have L1 : (rs.map V.int).length = rs.length := List.length_map ..
    have haV := ha
    refine ⟨_, rfl, a, _, rfl, haV, fun H1 s1 => ?_⟩
    refine ⟨_, rfl, ?_⟩
    refine ⟨_, rfl, ?_⟩
    refine seq_goC ((haV.same s1).sq) fun J G wk2 hG D hD => ?_
    refine walk_w wk2 (Acc H1 D fun _ => V.bl true) (Acc.start hD) (fun i H2 _ h => hG H2 h.1) ?_ ?_
    · rintro i y H2 H3 hi hacc ⟨rfl, ey⟩
      rw [L1] at hi
      rw [List.getElem?_map, List.getElem?_eq_getElem hi] at ey
      obtain rfl := Option.some.inj ey
      have dl := hb _ (List.getElem_mem hi)
      refine ⟨rfl, ?_⟩
      refine yes_t ?_
      refine ⟨_, rfl, _, rfl, _, _, rfl, rfl, _, _, _, rfl, ?_⟩
      refine hacc.push hD (Same.refl _) (by omega) ?_
      rw [decide_eq_true (show (0 : Int) ≤ rs[i] from dl.1), decide_eq_true (show rs[i] ≤ wk - 1 by omega)]
      rfl
    rintro H2 ⟨s2, e2⟩
    rw [L1] at e2
    refine ⟨D, _, rfl, SqL.of (all_t e2 fun _ _ => rfl), ?_⟩
    rw [all_rep]
    have sH := s1.trans s2
    refine ⟨_, rfl, ?_⟩
    refine iteF ?_
    refine ⟨_, rfl, a, rs, rfl, (ha.same sH).sq, nd, by omega, ?_⟩
    refine ⟨_, rfl, a, _, rfl, (haV.same sH).sq, ?_⟩
    refine ⟨rfl, ?_⟩
    rw [L1, decide_eq_true rfl]
    exact k _ sH
  )]); intro f; simpa using My.gz f 5 true
theorem c_are_weekdays {X : Cx} {k : Nat} {t : TA} {e : Expr} {es : List Expr} {np pos : Pos} (T : Tx K mg) (hr : Room k X.A) (ha : PA X (e :: es) t) (hk : 3 ≤ k := by decide) (hK : X.K = K := by rfl) (hm : X.mg = mg := by rfl)
    (hg : Gl X "are_weekdays" := by rfl) (hse : starEach (e :: es) X.env = (false, eval e X.env) :: starEach es X.env := by rfl) (hpl : (backTo pos (starEach es X.env)).any (·.1) = false := by rfl) :
    PE X (.Call (.Name "are_weekdays" np) (e :: es) [] pos) (tFn (sp_arewd K) E0 t) := by
  subst hK
  subst hm
  exact pe_fR (ok_are_weekdays T) T.kp_are_weekdays T.g_are_weekdays (hr.mono hk) pass0 ha hg (by decide) hse hpl
def sp_areho (K : Fg) : Sp := fun vs H Q _ => ∃ (a : Addr) (ts : List Addr) (ps : List (Int × Int)) (m : Int), vs = [.ref a, .int m] ∧ SeqK K H a (ts.map V.ref) ∧ PrT H ts ps ∧ ps.Nodup ∧ (∀ p ∈ ps, 1 ≤ p.1 ∧ p.1 ≤ m ∧ 1 ≤ p.2 ∧ p.2 ≤ 40) ∧ ps.length < 64 ∧ ∀ H' : Hp, Same H H' → Q (.bl true) H'
theorem ok_are_holidays (T : Tx K mg) : FnR P w K mg base CX0 3 (He.ga K "are_holidays") (sp_areho K) := by
  apply My.two; (focus intro zzI; simp only [↓ My.mkB zzI (by
  clear zzI
  refine (T.fnR 66 (st := s_are_holidays) (at_ := fun K => He.ga K "are_holidays") rfl sc_are_holidays (fun _ _ _ _ _ _ us hl => match us, hl with | [_, _], _ => rfl)) (fun vs H Q E h => ?_) (fun cdv A outer s H vs Q E hr h => ?_)
  · obtain ⟨a, ts, ps, m, rfl, _⟩ := h
    rfl
  · obtain ⟨a, ts, ps, m, rfl, ha, hp, nd, hb, hl, k⟩ := h
    refine ⟨_, (pss_cons (ps_if (pt_not (pt_val (c_is_row T hr (pa_cons (pv 0) pa_nil))))
 (pss_one (ps_ret pe_bl))
 pss_nil)
 (pss_cons (ps_for PassesOwn.never rfl (pis T (pv 0)) (pg_name (i := 2) sc_are_holidays.nd rfl (Or.inl rfl))
 (pss_cons (ps_if (PW.pt (pw_or (pt_not (pt_val (pe_callB (isi_k T) (by rfl) T.n_isinstance (by decide +kernel) (pa_cons (pv 2) (pa_cons (pe_bltn (v := .ty "tuple") (u := .type "tuple") rfl T.n_tuple (by decide +kernel) rfl) pa_nil))))) (pw_or1 (pt_cmpR op_ne (pe_callB (len_k T) (by rfl) T.n_len (by decide +kernel) (pa_cons (pv 2) pa_nil)) pe_int (nomark _)))))
 (pss_one (ps_ret pe_bl))
 pss_nil)
 (pss_one (ps_if (PW.pt (pw_or (pt_not (pt_val (c_is_between T hr (pa_cons (pe_ix (ixt T) (pv 2) pe_int (fun _ _ => rfl)) (pa_cons pe_int (pa_cons (pv 1) pa_nil)))))) (pw_or1 (pt_not (pt_val (c_is_between T hr (pa_cons (pe_ix (ixt T) (pv 2) pe_int (fun _ _ => rfl)) (pa_cons pe_int (pa_cons (pe_glob (v := .int 40) rfl (T.g_MAX_DAYS).choose_spec ⟨_, rfl⟩) pa_nil)))))))))
 (pss_one (ps_ret pe_bl))
 pss_nil))))
 (pss_one (ps_ret (pe_cmpR op_eq (lenSetP T (by rfl) T.n_len (by rfl) T.n_set (pv 0) hr.units) (pe_callB (len_k T) (by rfl) T.n_len (by decide +kernel) (pa_cons (pv 0) pa_nil)) (nomark _)))))), ?_⟩
    have L1 : (ts.map V.ref).length = ps.length := by rw [List.length_map, hp.len]
    refine ⟨_, rfl, a, _, rfl, ha, fun H1 s1 => ?_⟩
    refine ⟨_, rfl, ?_⟩
    refine iteF ?_
    refine ⟨_, rfl, ?_⟩
    refine seq_goC ((ha.same s1).sq) fun J G wk hG => ?_
    refine for_it wk (fun i σ H' => (∃ v2 : Option V, σ = [some (.ref a), some (.int m), v2]) ∧ Same H1 H') ⟨⟨none, rfl⟩, Same.refl _⟩ (fun i σ H' _ h => hG H' h.2) ?_ ?_
    · rintro i x σ H2 H3 hi ⟨⟨v2, rfl⟩, s2⟩ ⟨rfl, ex⟩
      obtain ⟨t, et, rfl⟩ := ref_at ex
      obtain ⟨p, ep, ht⟩ := hp.at et
      have ht2 := (s1.trans s2) _ _ ht
      obtain ⟨b1, b2, b3, b4⟩ := hb p (List.mem_of_getElem? ep)
      refine ⟨_, rfl, _, _, _, _, true, rfl, .ty _, .base (.tup ht2), kit_ty (by decide +kernel), ?_⟩
      refine ⟨_, rfl, ?_⟩
      refine iteF ?_
      rfl'
      rw [decide_eq_true b1, decide_eq_true b2, Bool.and_self]
      refine iteF ?_
      rfl'
      rw [decide_eq_true b3, decide_eq_true b4, Bool.and_self]
      refine iteF ?_
      exact ⟨⟨_, rfl⟩, s2⟩
    rintro σ H2 ⟨⟨v2, rfl⟩, s2⟩
    have sH := s1.trans s2
    refine ⟨_, rfl, a, ts, ps, rfl, (ha.same sH).sq, (hp.same sH).prs, nd, hl, ?_⟩
    refine ⟨_, rfl, a, _, rfl, (ha.same sH).sq, ?_⟩
    refine ⟨rfl, ?_⟩
    rw [L1, decide_eq_true rfl]
    exact k _ sH
  )]); intro f; simpa using My.gz f 5 true
theorem c_are_holidays {X : Cx} {k : Nat} {t : TA} {e : Expr} {es : List Expr} {np pos : Pos} (T : Tx K mg) (hr : Room k X.A) (ha : PA X (e :: es) t) (hk : 3 ≤ k := by decide) (hK : X.K = K := by rfl) (hm : X.mg = mg := by rfl)
    (hg : Gl X "are_holidays" := by rfl) (hse : starEach (e :: es) X.env = (false, eval e X.env) :: starEach es X.env := by rfl) (hpl : (backTo pos (starEach es X.env)).any (·.1) = false := by rfl) :
    PE X (.Call (.Name "are_holidays" np) (e :: es) [] pos) (tFn (sp_areho K) E0 t) := by
  subst hK
  subst hm
  exact pe_fR (ok_are_holidays T) T.kp_are_holidays T.g_are_holidays (hr.mono hk) pass0 ha hg (by decide) hse hpl
end
end Lw
namespace Lw
open PySem PySem.Spec PyProof.Rows L2 My
section
variable {P : Program} {w : World} {K : Fg} {mg : Str → Option Value} {base : Heap}
/-- the fields of a calendar but the last one -/
def b8 (ay rr fr l s : Addr) (C : Cal) : List (Str × V) := [("all_years", .ref ay), ("days_of_week", .int (C.week : Int)), ("begins", .int (C.first : Int)), ("rests", .ref rr), ("free_days", .ref fr), ("lengths", .ref l), ("starts", .ref s), ("turn", .int (C.per : Int))]
def mstV (ls : List Nat) : List V := (List.range (ls.length + 1)).map fun k => natV (pre ls k)
def RowsT (H : Hp) (ts : List Addr) (rows : List (List Nat)) : Prop := Paired (fun t r => H t = some (.tup (r.map natV))) ts rows
structure CalB (H : Hp) (C : Cal) (ay rr fr l s : Addr) : Prop where
  yr : ∃ ts, H ay = some (.tup (ts.map V.ref)) ∧ RowsT H ts C.rows
  rr : H rr = some (.tup (C.rest.map V.int))
  fr : ∃ ts, H fr = some (.tup (ts.map V.ref)) ∧ PrT H ts C.hol
  l : H l = some (.lst (C.ls.map natV))
  s : H s = some (.lst (mstV C.ls))
def CalF (K : Fg) (H : Hp) (c : Addr) (C : Cal) (ws : List (Str × V)) : Prop := ∃ dx ay rr fr l s : Addr, H c = some (.ins (CA K) dx (b8 ay rr fr l s C ++ ws)) ∧ CalB H C ay rr fr l s ∧ C.Ok
/-- a calendar, perhaps without the work days -/
def WsOk (ws : List (Str × V)) : Prop := ws = [] ∨ ∃ a : Addr, ws = [(("works" : Str), V.ref a)]
def CalX (K : Fg) (H : Hp) (c : Addr) (C : Cal) : Prop := ∃ ws : List (Str × V), WsOk ws ∧ CalF K H c C ws
/-- a calendar -/
def CalAt (K : Fg) (H : Hp) (c : Addr) (C : Cal) : Prop := ∃ a : Addr, CalF K H c C [("works", .ref a)] ∧ H a = some (.lst (C.works.map natV)) ∧ C.works ≠ []
theorem CalAt.x {H : Hp} {c : Addr} {C : Cal} (h : CalAt K H c C) : CalX K H c C := by
  obtain ⟨a, h1, _⟩ := h
  exact ⟨_, .inr ⟨a, rfl⟩, h1⟩
theorem RowsT.same {H H' : Hp} (s : Same H H') : ∀ {ts : List Addr} {rows : List (List Nat)}, RowsT H ts rows → RowsT H' ts rows
  | _, _, .nil => .nil
  | _, _, .cons h t => .cons (s _ _ h) (RowsT.same s t)
theorem RowsT.get {H : Hp} : ∀ {ts : List Addr} {rows : List (List Nat)}, RowsT H ts rows → ∀ {i : Nat} {r : List Nat}, rows[i]? = some r → ∃ t, ts[i]? = some t ∧ H t = some (.tup (r.map natV))
  | _, _, .nil, _, _, h => by cases h
  | _, _, .cons h _, 0, _, e => by
    cases e
    exact ⟨_, rfl, h⟩
  | _, _, .cons _ t, i + 1, _, e => RowsT.get t (i := i) e
theorem RowsT.len {H : Hp} {ts : List Addr} {rows : List (List Nat)} (h : RowsT H ts rows) : ts.length = rows.length := Paired.length h
theorem CalB.same {H H' : Hp} {C : Cal} {ay rr fr l s : Addr} (h : CalB H C ay rr fr l s) (sm : Same H H') : CalB H' C ay rr fr l s := by
  obtain ⟨⟨t1, a1, a2⟩, b, ⟨t2, c1, c2⟩, d, e⟩ := h
  exact ⟨⟨t1, sm _ _ a1, a2.same sm⟩, sm _ _ b, ⟨t2, sm _ _ c1, c2.same sm⟩, sm _ _ d, sm _ _ e⟩
theorem CalF.same {H H' : Hp} {c : Addr} {C : Cal} {ws : List (Str × V)} (h : CalF K H c C ws) (s : Same H H') : CalF K H' c C ws := by
  obtain ⟨dx, ay, rr, fr, l, st, h1, h2, h3⟩ := h
  exact ⟨dx, ay, rr, fr, l, st, s _ _ h1, h2.same s, h3⟩
theorem CalX.same {H H' : Hp} {c : Addr} {C : Cal} (h : CalX K H c C) (s : Same H H') : CalX K H' c C := by
  obtain ⟨ws, h1, h2⟩ := h
  exact ⟨ws, h1, h2.same s⟩
theorem CalAt.same {H H' : Hp} {c : Addr} {C : Cal} (h : CalAt K H c C) (s : Same H H') : CalAt K H' c C := by
  obtain ⟨a, h1, h2, h3⟩ := h
  exact ⟨a, h1.same s, s _ _ h2, h3⟩
theorem b8_none {ay rr fr l s : Addr} {C : Cal} {ws : List (Str × V)} (hw : WsOk ws) {m : Str} (h : (b8 0 0 0 0 0 ⟨[], 0, 0, [], []⟩ ++ [(("works" : Str), V.ref 0)]).lookup m = none := by rfl) : (b8 ay rr fr l s C ++ ws).lookup m = none := by
  apply My.two; (focus intro zzI; simp only [↓ My.mkB zzI (by
  clear zzI
  have key : ∀ (xs ys : List (Str × V)), xs.map (·.1) = ys.map (·.1) → xs.lookup m = none → ys.lookup m = none := fun xs => by
    induction xs with
    | nil =>
      intro ys e _
      cases ys with
      | nil => rfl
      | cons y ys => cases e
    | cons x xs ih =>
      intro ys e hx
      cases ys with
      | nil => cases e
      | cons y ys =>
        obtain ⟨a, b⟩ := x
        obtain ⟨a', b'⟩ := y
        simp only [List.map_cons, List.cons.injEq] at e
        obtain ⟨rfl, e⟩ := e
        rw [List.lookup_cons] at hx ⊢
        split
        · rename_i z
          rw [z] at hx
          cases hx
        · rename_i z
          rw [z] at hx
          exact ih ys e hx
  have one : (b8 ay rr fr l s C ++ [(("works" : Str), V.ref 0)]).lookup m = none := key (b8 0 0 0 0 0 ⟨[], 0, 0, [], []⟩ ++ [(("works" : Str), V.ref 0)]) _ rfl h
  rcases hw with rfl | ⟨a, rfl⟩
  · rw [List.append_nil]
    have := one
    rw [List.lookup_append] at this
    cases z : (b8 ay rr fr l s C).lookup m with
    | none => rfl
    | some v =>
      rw [z] at this
      cases this
  · exact key (b8 ay rr fr l s C ++ [(("works" : Str), V.ref 0)]) _ rfl one
  )]); intro f; simpa using My.gz f 5 true
theorem mst_last {ls : List Nat} : atI (mstV ls) (-1) = some (.int (ls.sum : Int)) := by
  apply My.two; (focus intro zzI; simp only [↓ My.mkB zzI (by
  clear zzI
  refine at_last (n := ls.length) (by unfold mstV; simp) ?_
  unfold mstV
  rw [List.getElem?_map, List.getElem?_range (by omega), Option.map_some, pre_all]
  rfl
  )]); intro f; simpa using My.gz f 5 true
theorem mst_at {ls : List Nat} {k : Nat} (h : k ≤ ls.length) : atI (mstV ls) (k : Int) = some (natV (pre ls k)) := by
  apply My.two; (focus intro zzI; simp only [↓ My.mkB zzI (by
  clear zzI
  refine at_of (j := k) rfl ?_
  unfold mstV
  rw [List.getElem?_map, List.getElem?_range (by omega)]
  rfl
  )]); intro f; simpa using My.gz f 5 true
theorem mst_mod {ls : List Nat} (h0 : 0 < ls.length) (m : Int) : atI (mstV ls) (m % (((ls.map natV).length : Nat) : Int)) = some (natV (pre ls (m % (ls.length : Int)).toNat)) := by
  apply My.two; (focus intro zzI; simp only [↓ My.mkB zzI (by
  clear zzI
  have h1 := Int.emod_nonneg m (show (ls.length : Int) ≠ 0 by omega)
  have h2 := Int.emod_lt_of_pos m (show (0 : Int) < (ls.length : Int) by omega)
  rw [List.length_map, ← mst_at (show (m % (ls.length : Int)).toNat ≤ ls.length by omega), Int.toNat_of_nonneg h1]
  )]); intro f; simpa using My.gz f 5 true
theorem flatC (zs : List Int) : (zs.map V.int).all flatV = true := by
  apply My.two; (focus intro zzI; simp only [↓ My.mkB zzI (by
  clear zzI
  induction zs with
  | nil => rfl
  | cons z zs ih =>
    rw [List.map_cons, List.all_cons, ih]
    rfl
  )]); intro f; simpa using My.gz f 5 true
theorem inC {z : Int} : ∀ {zs : List Int}, inV (.int z) (zs.map V.int) = decide (z ∈ zs)
  | [] => rfl
  | y :: zs => by
    apply My.two; (focus intro zzI; simp only [↓ My.mkB zzI (by
    clear zzI
    have ih := inC (z := z) (zs := zs)
    unfold inV at ih ⊢
    rw [List.map_cons, List.any_cons, ih, show eqV (.int y) (.int z) = decide (y = z) from rfl, Bool.eq_iff_iff, Bool.or_eq_true, decide_eq_true_iff, decide_eq_true_iff, decide_eq_true_iff, List.mem_cons]
    exact ⟨fun h => h.imp Eq.symm id, fun h => h.imp Eq.symm id⟩
    )]); intro f; simpa using My.gz f 5 true
theorem prPs_depth : ∀ zs : List (Int × Int), PyData.depthAll (zs.map prP) ≤ 1
  | [] => Nat.zero_le _
  | z :: zs => by
    apply My.two; (focus intro zzI; simp only [↓ My.mkB zzI (by
    clear zzI
    have h1 := prPs_depth zs
    have h2 : (prP z).depth = 1 := by simp [prP, PyData.depth, PyData.depthAll]
    simp only [List.map_cons, PyData.depthAll]
    omega
    )]); intro f; simpa using My.gz f 5 true
theorem prPs_shaped (zs : List (Int × Int)) : SeqAt.shaped (.tuple (zs.map prP)) = true := by
  apply My.two; (focus intro zzI; simp only [↓ My.mkB zzI (by
  clear zzI
  have h1 := prPs_depth zs
  show (PyData.canLay0 (.tuple (zs.map prP)) && decide (PyData.depth (.tuple (zs.map prP)) ≤ 64)) = true
  rw [Bool.and_eq_true]
  refine ⟨by simp only [PyData.canLay0]; exact prPs_lay zs, decide_eq_true ?_⟩
  simp only [PyData.depth]
  omega
  )]); intro f; simpa using My.gz f 5 true
theorem prPs_nil (zs : List (Int × Int)) : PyData.eqv (.tuple (zs.map prP)) (.tuple []) = zs.isEmpty := by
  apply My.two; (focus intro zzI; simp only [↓ My.mkB zzI (by
  clear zzI
  cases zs with
  | nil => simp [PyData.eqv, PyData.eqvAll]
  | cons z zs => simp [PyData.eqv, PyData.eqvAll]
  )]); intro f; simpa using My.gz f 5 true
def sp_cper (K : Fg) : Sp := fun vs H Q _ => ∃ (c : Addr) (C : Cal), vs = [.ref c] ∧ CalX K H c C ∧ Q (.int (C.per : Int)) H
theorem okC_period (T : Tx K mg) : FnR P w K mg base CX0 1 (He5.wf K (CA K) "property" "period") (sp_cper K) := by
  apply My.two; (focus intro zzI; simp only [↓ My.mkB zzI (by
  clear zzI
  refine (T.fnR 16 (st := s_Calendar_period) (at_ := fun K => He5.wf K (He.ga K "Calendar") "property" "period") rfl sc_Calendar_period (fun _ _ _ _ _ _ us hl => match us, hl with | [_], _ => rfl)) (fun vs H Q E h => ?_) (fun cdv A outer s H vs Q E hr h => ?_)
  · obtain ⟨c, C, rfl, _⟩ := h
    rfl
  · obtain ⟨c, C, rfl, ⟨ws, hw, dx, ay, rr, fr, l, st, hc, B, ok⟩, q⟩ := h
    refine ⟨_, (pss_one (ps_ret (fld T (pv 0)))), ?_⟩
    exact ⟨_, rfl, c, _, dx, _, _, rfl, hc, T.cl_CA, T.no_CA_turn, rfl, q⟩
  )]); intro f; simpa using My.gz f 5 true
theorem pC_period {X : Cx} {k : Nat} {e : Expr} {ta : TE} {pos : Pos} (T : Tx K mg) (hr : Room k X.A) (he : PE X e ta) (hk : 2 ≤ k := by decide) (hK : X.K = K := by rfl) (hm : X.mg = mg := by rfl)
    (hab : attributeBase e "period" X.env (eval e X.env) = eval e X.env := by rfl) : PE X (.Attribute e "period" pos) (tPropR (CA K) (sp_cper K) E0 ta) := by
  subst hK
  subst hm
  exact pe_propR he T.cl_CA T.pr_CA_period (okC_period T) (hr.mono hk) pass0 hab
def sp_cmon (K : Fg) : Sp := fun vs H Q _ => ∃ (c : Addr) (C : Cal), vs = [.ref c] ∧ CalX K H c C ∧ Q (.int (C.mon : Int)) H
theorem okC_months (T : Tx K mg) : FnR P w K mg base CX0 1 (He5.wf K (CA K) "property" "months") (sp_cmon K) := by
  apply My.two; (focus intro zzI; simp only [↓ My.mkB zzI (by
  clear zzI
  refine (T.fnR 15 (st := s_Calendar_months) (at_ := fun K => He5.wf K (He.ga K "Calendar") "property" "months") rfl sc_Calendar_months (fun _ _ _ _ _ _ us hl => match us, hl with | [_], _ => rfl)) (fun vs H Q E h => ?_) (fun cdv A outer s H vs Q E hr h => ?_)
  · obtain ⟨c, C, rfl, _⟩ := h
    rfl
  · obtain ⟨c, C, rfl, ⟨ws, hw, dx, ay, rr, fr, l, st, hc, B, ok⟩, q⟩ := h
    refine ⟨_, (pss_one (ps_ret (pe_callB (len_k T) (by rfl) T.n_len (by decide +kernel) (pa_cons (pe_ix (ixt T) (fld T (pv 0)) pe_int (fun _ _ => rfl)) pa_nil)))), ?_⟩
    refine ⟨_, rfl, c, _, dx, _, _, rfl, hc, T.cl_CA, T.no_CA_all_years, rfl, ?_⟩
    obtain ⟨ts, ha, hr2⟩ := B.yr
    obtain ⟨t0, e0, h0⟩ := hr2.get (List.getElem?_eq_getElem (i := 0) ok.yr.ne)
    refine ⟨ay, _, _, .ref t0, rfl, rfl, SqT.of ha, at_of (j := 0) rfl (by rw [List.getElem?_map, e0]; rfl), ?_⟩
    refine ⟨t0, _, rfl, .inr (SqT.of h0), ?_⟩
    rw [List.length_map]
    have em : (C.rows[0]'ok.yr.ne).length = C.mon := by
      unfold Cal.mon
      rw [List.getD_eq_getElem?_getD, List.getElem?_eq_getElem ok.yr.ne]
      rfl
    rw [em]
    exact q
  )]); intro f; simpa using My.gz f 5 true
theorem pC_months {X : Cx} {k : Nat} {e : Expr} {ta : TE} {pos : Pos} (T : Tx K mg) (hr : Room k X.A) (he : PE X e ta) (hk : 2 ≤ k := by decide) (hK : X.K = K := by rfl) (hm : X.mg = mg := by rfl)
    (hab : attributeBase e "months" X.env (eval e X.env) = eval e X.env := by rfl) : PE X (.Attribute e "months" pos) (tPropR (CA K) (sp_cmon K) E0 ta) := by
  subst hK
  subst hm
  exact pe_propR he T.cl_CA T.pr_CA_months (okC_months T) (hr.mono hk) pass0 hab
def sp_cwkd (K : Fg) : Sp := fun vs H Q _ => ∃ (c : Addr) (C : Cal) (d : Int), vs = [.ref c, .int d] ∧ CalX K H c C ∧ Q (.int (C.wkd d)) H
theorem okC_weekday (T : Tx K mg) : FnR P w K mg base CX0 1 (He.ma K (CA K) "weekday") (sp_cwkd K) := by
  apply My.two; (focus intro zzI; simp only [↓ My.mkB zzI (by
  clear zzI
  refine (T.fnR 22 (st := s_Calendar_weekday) (at_ := fun K => He.ma K (He.ga K "Calendar") "weekday") rfl sc_Calendar_weekday (fun _ _ _ _ _ _ us hl => match us, hl with | [_, _], _ => rfl)) (fun vs H Q E h => ?_) (fun cdv A outer s H vs Q E hr h => ?_)
  · obtain ⟨c, C, d, rfl, _⟩ := h
    rfl
  · obtain ⟨c, C, d, rfl, ⟨ws, hw, dx, ay, rr, fr, l, st, hc, B, ok⟩, q⟩ := h
    refine ⟨_, (pss_one (ps_ret (pe_op op_mod (pe_op op_add (pv 1) (fld T (pv 0))) (fld T (pv 0))))), ?_⟩
    have w0 := ok.w0
    have w1 := ok.w1
    rfl'
    exact q
  )]); intro f; simpa using My.gz f 5 true
theorem mC_weekday {X : Cx} {k : Nat} {o e : Expr} {es : List Expr} {ta : TE} {t : TA} {apos pos : Pos} {pl : Sem Bool} (T : Tx K mg) (hr : Room k X.A) (he : PE X o ta) (ha : PA X (e :: es) t) (hk : 1 ≤ k := by decide) (hK : X.K = K := by rfl) (hm : X.mg = mg := by rfl)
    (hst : starEach (e :: es) X.env = (false, eval e X.env) :: starEach es X.env := by rfl) (hpl : (backTo pos (starEach es X.env)).any (·.1) = false := by rfl)
    (ht : eval (.Call (.Attribute o "weekday" apos) (e :: es) [] pos) X.env = (do
      let ov ← eval o X.env
      standAt apos.atName
      let (f, first) ← holding [ov] (getMethod ov "weekday" pl)
      callWith pos f first (backTo pos (starEach (e :: es) X.env)) (backToKw pos (keywordEach [] X.env))) := by rfl) :
    PE X (.Call (.Attribute o "weekday" apos) (e :: es) [] pos) (tMethR (CA K) "weekday" (sp_cwkd K) E0 ta t) := by
  subst hK
  subst hm
  exact pe_methR he T.cl_CA T.me_CA_weekday (okC_weekday T) (hr.mono hk) pass0 ha hst hpl ht
def sp_cmst (K : Fg) : Sp := fun vs H Q _ => ∃ (c : Addr) (C : Cal) (m : Int), vs = [.ref c, .int m] ∧ CalX K H c C ∧ Q (.int (ms C.ls m)) H
theorem okC_month_start (T : Tx K mg) : FnR P w K mg base CX0 1 (He.ma K (CA K) "month_start") (sp_cmst K) := by
  apply My.two; (focus intro zzI; simp only [↓ My.mkB zzI (by
  clear zzI
  refine (T.fnR 17 (st := s_Calendar_month_start) (at_ := fun K => He.ma K (He.ga K "Calendar") "month_start") rfl sc_Calendar_month_start (fun _ _ _ _ _ _ us hl => match us, hl with | [_, _], _ => rfl)) (fun vs H Q E h => ?_) (fun cdv A outer s H vs Q E hr h => ?_)
  · obtain ⟨c, C, m, rfl, _⟩ := h
    rfl
  · obtain ⟨c, C, m, rfl, ⟨ws, hw, dx, ay, rr, fr, l, st, hc, B, ok⟩, q⟩ := h
    refine ⟨_, (pss_cons (ps_set (i := 2) sc_Calendar_month_start.nd rfl (Or.inl rfl) (pe_callB (len_k T) (by rfl) T.n_len (by decide +kernel) (pa_cons (fld T (pv 0)) pa_nil)))
 (pss_one (ps_ret (pe_op op_add (pe_op op_mul (pe_op op_fdiv (pv 1) (pv 2)) (pe_ix (ixl T) (fld T (pv 0)) (pe_un un_neg pe_int) (fun _ _ => rfl))) (pe_ix (ixl T) (fld T (pv 0)) (pe_op op_mod (pv 1) (pv 2)) (fun _ _ => rfl)))))), ?_⟩
    have n0 := ok.ne
    have n1 := ok.le
    have hl := B.l
    have hs := B.s
    have s1 := ok.s1
    have el : (C.ls.map natV).length = C.ls.length := List.length_map ..
    rfl'
    refine ⟨mst_last, ?_⟩
    rfl'
    refine ⟨mst_mod n0 m, ?_⟩
    rfl'
    rw [el]
    exact q
  )]); intro f; simpa using My.gz f 5 true
theorem mC_month_start {X : Cx} {k : Nat} {o e : Expr} {es : List Expr} {ta : TE} {t : TA} {apos pos : Pos} {pl : Sem Bool} (T : Tx K mg) (hr : Room k X.A) (he : PE X o ta) (ha : PA X (e :: es) t) (hk : 1 ≤ k := by decide) (hK : X.K = K := by rfl) (hm : X.mg = mg := by rfl)
    (hst : starEach (e :: es) X.env = (false, eval e X.env) :: starEach es X.env := by rfl) (hpl : (backTo pos (starEach es X.env)).any (·.1) = false := by rfl)
    (ht : eval (.Call (.Attribute o "month_start" apos) (e :: es) [] pos) X.env = (do
      let ov ← eval o X.env
      standAt apos.atName
      let (f, first) ← holding [ov] (getMethod ov "month_start" pl)
      callWith pos f first (backTo pos (starEach (e :: es) X.env)) (backToKw pos (keywordEach [] X.env))) := by rfl) :
    PE X (.Call (.Attribute o "month_start" apos) (e :: es) [] pos) (tMethR (CA K) "month_start" (sp_cmst K) E0 ta t) := by
  subst hK
  subst hm
  exact pe_methR he T.cl_CA T.me_CA_month_start (okC_month_start T) (hr.mono hk) pass0 ha hst hpl ht
def sp_cmn (K : Fg) : Sp := fun vs H Q _ => ∃ (c : Addr) (C : Cal) (d : Int), vs = [.ref c, .int d] ∧ CalX K H c C ∧ Q (.int (C.num d)) H
theorem okC_month_number (T : Tx K mg) : FnR P w K mg base CX0 2 (He.ma K (CA K) "month_number") (sp_cmn K) := by
  apply My.two; (focus intro zzI; simp only [↓ My.mkB zzI (by
  clear zzI
  refine (T.fnR 19 (st := s_Calendar_month_number) (at_ := fun K => He.ma K (He.ga K "Calendar") "month_number") rfl sc_Calendar_month_number (fun _ _ _ _ _ _ us hl => match us, hl with | [_, _], _ => rfl)) (fun vs H Q E h => ?_) (fun cdv A outer s H vs Q E hr h => ?_)
  · obtain ⟨c, C, d, rfl, _⟩ := h
    rfl
  · obtain ⟨c, C, d, rfl, ⟨ws, hw, dx, ay, rr, fr, l, st, hc, B, ok⟩, q⟩ := h
    refine ⟨_, (pss_cons (ps_set (i := 2) sc_Calendar_month_number.nd rfl (Or.inl rfl) (pe_ix (ixl T) (fld T (pv 0)) (pe_un un_neg pe_int) (fun _ _ => rfl)))
 (pss_one (ps_ret (pe_op op_add (pe_op op_mul (pe_op op_fdiv (pv 1) (pv 2)) (pe_callB (len_k T) (by rfl) T.n_len (by decide +kernel) (pa_cons (fld T (pv 0)) pa_nil))) (c_month_at T hr (pa_cons (fld T (pv 0)) (pa_cons (pe_op op_mod (pv 1) (pv 2)) pa_nil))))))), ?_⟩
    have n0 := ok.ne
    have n1 := ok.le
    have s0 := ok.s0
    have s1 := ok.s1
    have hl := B.l
    have hs := B.s
    have el : (C.ls.map natV).length = C.ls.length := List.length_map ..
    rfl'
    refine ⟨mst_last, ?_⟩
    have r0 := Int.emod_nonneg d (show (C.ls.sum : Int) ≠ 0 by omega)
    have r1 := Int.emod_lt_of_pos d (show (0 : Int) < (C.ls.sum : Int) by omega)
    obtain ⟨r, er⟩ : ∃ r : Nat, d % (C.ls.sum : Int) = (r : Int) := ⟨_, (Int.toNat_of_nonneg r0).symm⟩
    rfl'
    refine ⟨st, C.ls, r, ?_, SqL.of hs, n0, by omega, ok.pos, by omega, ?_⟩
    · show [V.ref st, V.int (d % (C.ls.sum : Int))] = _
      rw [er]
    refine ⟨_, _, rfl, rfl, ?_⟩
    rw [el]
    have e : C.num d = d / (C.ls.sum : Int) * (C.ls.length : Int) + (loc C.ls r : Int) := by
      unfold Cal.num mn
      rw [er, Int.toNat_natCast]
    rw [e] at q
    exact q
  )]); intro f; simpa using My.gz f 5 true
theorem mC_month_number {X : Cx} {k : Nat} {o e : Expr} {es : List Expr} {ta : TE} {t : TA} {apos pos : Pos} {pl : Sem Bool} (T : Tx K mg) (hr : Room k X.A) (he : PE X o ta) (ha : PA X (e :: es) t) (hk : 2 ≤ k := by decide) (hK : X.K = K := by rfl) (hm : X.mg = mg := by rfl)
    (hst : starEach (e :: es) X.env = (false, eval e X.env) :: starEach es X.env := by rfl) (hpl : (backTo pos (starEach es X.env)).any (·.1) = false := by rfl)
    (ht : eval (.Call (.Attribute o "month_number" apos) (e :: es) [] pos) X.env = (do
      let ov ← eval o X.env
      standAt apos.atName
      let (f, first) ← holding [ov] (getMethod ov "month_number" pl)
      callWith pos f first (backTo pos (starEach (e :: es) X.env)) (backToKw pos (keywordEach [] X.env))) := by rfl) :
    PE X (.Call (.Attribute o "month_number" apos) (e :: es) [] pos) (tMethR (CA K) "month_number" (sp_cmn K) E0 ta t) := by
  subst hK
  subst hm
  exact pe_methR he T.cl_CA T.me_CA_month_number (okC_month_number T) (hr.mono hk) pass0 ha hst hpl ht
def sp_cparts (K : Fg) : Sp := fun vs H Q _ => ∃ (c : Addr) (C : Cal) (d : Int), vs = [.ref c, .int d] ∧ CalX K H c C ∧ ∀ (t : Addr) (H' : Hp), Same H H' → H t = none → H' t = some (.tup [.int (C.yr d), .int (C.mth d), .int (C.day d)]) → Q (.ref t) H'
theorem okC_parts (T : Tx K mg) : FnR P w K mg base CX0 3 (He.ma K (CA K) "parts") (sp_cparts K) := by
  apply My.two; (focus intro zzI; simp only [↓ My.mkB zzI (by
  clear zzI
  refine (T.fnR 21 (st := s_Calendar_parts) (at_ := fun K => He.ma K (He.ga K "Calendar") "parts") rfl sc_Calendar_parts (fun _ _ _ _ _ _ us hl => match us, hl with | [_, _], _ => rfl)) (fun vs H Q E h => ?_) (fun cdv A outer s H vs Q E hr h => ?_)
  · obtain ⟨c, C, d, rfl, _⟩ := h
    rfl
  · obtain ⟨c, C, d, rfl, hX, k⟩ := h
    refine ⟨_, (pss_cons (ps_set (i := 2) sc_Calendar_parts.nd rfl (Or.inl rfl) (mC_month_number T hr (pv 0) (pa_cons (pv 1) pa_nil)))
 (pss_one (ps_ret (pe_tup (pa_cons (pe_op op_fdiv (pv 2) (pC_months T hr (pv 0))) (pa_cons (pe_op op_add (pe_op op_mod (pv 2) (pC_months T hr (pv 0))) pe_int) (pa_cons (pe_op op_add (pe_op op_sub (pv 1) (mC_month_start T hr (pv 0) (pa_cons (pv 2) pa_nil))) pe_int) pa_nil))))))), ?_⟩
    obtain ⟨ws, hw, dx, ay, rr, fr, l, st, hc, B, ok⟩ := id hX
    have m0 := ok.m0
    have m1 := ok.m1
    have k1 : (b8 ay rr fr l st C ++ ws).lookup ("month_number" : Str) = none := b8_none hw
    have k2 : (b8 ay rr fr l st C ++ ws).lookup ("month_start" : Str) = none := b8_none hw
    rfl'
    rename_i p hp H1 s1 f1
    exact k p H1 s1 hp f1
  )]); intro f; simpa using My.gz f 5 true
theorem mC_parts {X : Cx} {k : Nat} {o e : Expr} {es : List Expr} {ta : TE} {t : TA} {apos pos : Pos} {pl : Sem Bool} (T : Tx K mg) (hr : Room k X.A) (he : PE X o ta) (ha : PA X (e :: es) t) (hk : 3 ≤ k := by decide) (hK : X.K = K := by rfl) (hm : X.mg = mg := by rfl)
    (hst : starEach (e :: es) X.env = (false, eval e X.env) :: starEach es X.env := by rfl) (hpl : (backTo pos (starEach es X.env)).any (·.1) = false := by rfl)
    (ht : eval (.Call (.Attribute o "parts" apos) (e :: es) [] pos) X.env = (do
      let ov ← eval o X.env
      standAt apos.atName
      let (f, first) ← holding [ov] (getMethod ov "parts" pl)
      callWith pos f first (backTo pos (starEach (e :: es) X.env)) (backToKw pos (keywordEach [] X.env))) := by rfl) :
    PE X (.Call (.Attribute o "parts" apos) (e :: es) [] pos) (tMethR (CA K) "parts" (sp_cparts K) E0 ta t) := by
  subst hK
  subst hm
  exact pe_methR he T.cl_CA T.me_CA_parts (okC_parts T) (hr.mono hk) pass0 ha hst hpl ht
def sp_cisw (K : Fg) : Sp := fun vs H Q _ => ∃ (c : Addr) (C : Cal) (d : Int), vs = [.ref c, .int d] ∧ CalX K H c C ∧ ∀ H' : Hp, Same H H' → Q (.bl (C.isW d)) H'
theorem okC_is_work (T : Tx K mg) : FnR P w K mg base CX0 4 (He.ma K (CA K) "is_work") (sp_cisw K) := by
  apply My.two; (focus intro zzI; simp only [↓ My.mkB zzI (by
  clear zzI
  refine (T.fnR 23 (st := s_Calendar_is_work) (at_ := fun K => He.ma K (He.ga K "Calendar") "is_work") rfl sc_Calendar_is_work (fun _ _ _ _ _ _ us hl => match us, hl with | [_, _], _ => rfl)) (fun vs H Q E h => ?_) (fun cdv A outer s H vs Q E hr h => ?_)
  · obtain ⟨c, C, d, rfl, _⟩ := h
    rfl
  · obtain ⟨c, C, d, rfl, hX, k⟩ := h
    refine ⟨_, (pss_cons (ps_if (pt_cmpR (inq T) (mC_weekday T hr (pv 0) (pa_cons (pv 1) pa_nil)) (fld T (pv 0)) (by rfl))
 (pss_one (ps_ret pe_bl))
 pss_nil)
 (pss_one (ps_ret (pe_or (pe_cmpR (eqd T hr.units) (fld T (pv 0)) (pe_tup pa_nil) (nomark _)) (pe_one (pe_cmpR (ninP T hr.units) (pe_slice (slt T) (mC_parts T hr (pv 0) (pa_cons (pv 1) pa_nil)) (po_some pe_int) po_none) (fld T (pv 0)) (by rfl))))))), ?_⟩
    obtain ⟨ws, hw, dx, ay, rr, fr, l, st, hc, B, ok⟩ := id hX
    have k1 : (b8 ay rr fr l st C ++ ws).lookup ("weekday" : Str) = none := b8_none hw
    have k2 : (b8 ay rr fr l st C ++ ws).lookup ("parts" : Str) = none := b8_none hw
    obtain ⟨ts, hf, hp⟩ := B.fr
    rfl'
    refine ⟨.inr (SqT.of B.rr), rfl, flatC _, ?_⟩
    rw [if_neg (show ¬ (false = true) by decide), inC]
    refine ⟨_, rfl, ?_⟩
    have iw : C.isW d = (!decide (C.wkd d ∈ C.rest) && !decide ((C.mth d, C.day d) ∈ C.hol)) := rfl
    refine ite2 (fun c1 => ?_) (fun c1 => ?_)
    · rw [c1] at iw
      have := k H (Same.refl _)
      rw [iw] at this
      exact this
    rw [Bool.eq_false_iff.mpr c1, Bool.not_false, Bool.true_and] at iw
    rw [iw] at k
    rfl'
    rename_i p1 hp1 H1 s1 f1
    refine ⟨.tuple (C.hol.map prP), .tuple [], .tup (SqT.of (s1 _ _ hf)) ((hp.same s1).prs).dp, .tup (SqT.of f1) .nil, prPs_shaped _, by decide, ?_⟩
    rw [prPs_nil]
    refine ⟨_, rfl, ?_⟩
    refine ite2 (fun c2 => ?_) (fun c2 => ?_)
    · have hn : C.hol = [] := List.isEmpty_iff.mp c2
      have := k H1 s1
      rw [hn] at this
      exact this
    have hc1 := s1 _ _ hc
    have hX1 := hX.same s1
    rfl'
    rename_i o H2 s2 ho
    intro e2
    have hc2 := s2 _ _ hc1
    rfl'
    refine ⟨fun h => absurd (show HT.sIx 3 0 (some 1) = 0 from h.1) (by decide), fun p3 hp3 => ?_⟩
    rw [show cutV [V.int (C.yr d), V.int (C.mth d), V.int (C.day d)] (some 1) none = [V.int (C.mth d), V.int (C.day d)] from rfl]
    have s3 := same_upd (o := .tup [V.int (C.mth d), V.int (C.day d)]) hp3
    have sH := (s1.trans s2).trans s3
    refine ⟨_, rfl, c, _, dx, _, _, rfl, s3 _ _ hc2, T.cl_CA, T.no_CA_free_days, rfl, ?_⟩
    exact ⟨p3, fr, (C.mth d, C.day d), ts, C.hol, rfl, rfl, SqT.of upd_same, .inr (SqT.of (sH _ _ hf)), (hp.same sH).prs, k _ sH⟩
  )]); intro f; simpa using My.gz f 5 true
theorem mC_is_work {X : Cx} {k : Nat} {o e : Expr} {es : List Expr} {ta : TE} {t : TA} {apos pos : Pos} {pl : Sem Bool} (T : Tx K mg) (hr : Room k X.A) (he : PE X o ta) (ha : PA X (e :: es) t) (hk : 4 ≤ k := by decide) (hK : X.K = K := by rfl) (hm : X.mg = mg := by rfl)
    (hst : starEach (e :: es) X.env = (false, eval e X.env) :: starEach es X.env := by rfl) (hpl : (backTo pos (starEach es X.env)).any (·.1) = false := by rfl)
    (ht : eval (.Call (.Attribute o "is_work" apos) (e :: es) [] pos) X.env = (do
      let ov ← eval o X.env
      standAt apos.atName
      let (f, first) ← holding [ov] (getMethod ov "is_work" pl)
      callWith pos f first (backTo pos (starEach (e :: es) X.env)) (backToKw pos (keywordEach [] X.env))) := by rfl) :
    PE X (.Call (.Attribute o "is_work" apos) (e :: es) [] pos) (tMethR (CA K) "is_work" (sp_cisw K) E0 ta t) := by
  subst hK
  subst hm
  exact pe_methR he T.cl_CA T.me_CA_is_work (okC_is_work T) (hr.mono hk) pass0 ha hst hpl ht
def sp_cfw (K : Fg) : Sp := fun vs H Q _ => ∃ (c : Addr) (C : Cal), vs = [.ref c] ∧ CalX K H c C ∧ ∀ (t : Addr) (H' : Hp), Same H H' → H t = none → H' t = some (.lst (C.works.map natV)) → Q (.ref t) H'
theorem okC_first_works (T : Tx K mg) : FnR P w K mg base CX0 5 (He.ma K (CA K) "first_works") (sp_cfw K) := by
  apply My.two; (focus intro zzI; simp only [↓ My.mkB zzI (by
  clear zzI
  refine (T.fnR 13 (st := s_Calendar_first_works) (at_ := fun K => He.ma K (He.ga K "Calendar") "first_works") rfl sc_Calendar_first_works (fun _ _ _ _ _ _ us hl => match us, hl with | [_], _ => rfl)) (fun vs H Q E h => ?_) (fun cdv A outer s H vs Q E hr h => ?_)
  · obtain ⟨c, C, rfl, _⟩ := h
    rfl
  · obtain ⟨c, C, rfl, hX, k⟩ := h
    refine ⟨_, (pss_cons (ps_par (i := 1) (j := 2) (by rfl) sc_Calendar_first_works.nd rfl rfl (by decide) rfl rfl (pa_cons (pC_period T hr (pv 0)) (pa_cons (pe_lst pa_nil) pa_nil)) (by rfl))
 (pss_cons (ps_for PassesOwn.never rfl (pi_range1 rfl T.n_range (pa_cons (pv 1) pa_nil)) (pg_name (i := 3) sc_Calendar_first_works.nd rfl (Or.inl rfl))
 (pss_one (ps_if (pt_val (mC_is_work T hr (pv 0) (pa_cons (pv 3) pa_nil)))
 (pss_cons (ps_expr (bmk T PySem.F.plainAttrs_list PySem.F.slot_list_append PySem.F.type_list_append mt_append (pv 2) (pa_cons (pv 3) pa_nil)))
 (pss_one (ps_if (pt_cmpR op_gt (pv 1) (pe_glob (v := .int 2000) rfl (T.g_SHORT_PERIOD).choose_spec ⟨_, rfl⟩) (nomark _))
 (pss_one (ps_ret (pv 2)))
 pss_nil)))
 pss_nil)))
 (pss_one (ps_ret (pv 2))))), ?_⟩
    obtain ⟨ws, hw, dx, ay, rr, fr, l, st, hc, B, ok⟩ := id hX
    have k1 : (b8 ay rr fr l st C ++ ws).lookup ("is_work" : Str) = none := b8_none hw
    have p0 := ok.p0
    have p1 := ok.per
    rfl'
    rename_i D hD H1 s1 f1
    rw [Int.toNat_natCast]
    refine for_range0 (n := C.per) (fun i σ H' => (∃ v3 : Option V, σ = [some (.ref c), some (.int (C.per : Int)), some (.ref D), v3]) ∧ Same H H' ∧ H' D = some (.lst ((C.wrkN i).map natV)) ∧ (2000 < C.per → C.wrkN i = [])) ⟨⟨_, rfl⟩, s1, f1, fun _ => rfl⟩ ?_ ?_
    · rintro i σ H2 hi ⟨⟨v3, rfl⟩, s2, f2, z2⟩
      have hc2 := s2 _ _ hc
      have hX2 := hX.same s2
      rfl'
      rename_i H3 s3
      have f3 := s3 _ _ f2
      have wl := Cal.wrkN_len (C := C) i
      have hs := Cal.wrkN_succ (C := C) i
      have ll : ((C.wrkN i).map natV).length ≤ i := by rw [List.length_map]; exact wl
      have sz1 : ((C.wrkN i).map natV).length < sizeLine := by rw [sizeLine_eq]; omega
      refine ite2 (fun cw => ?_) (fun cw => ?_)
      · rw [if_pos cw] at hs
        rfl'
        refine ite2 (fun c2 => ?_) (fun c2 => ?_)
        · have c2 : (2000 : Int) < (C.per : Int) := of_decide_eq_true c2
          refine ⟨_, rfl, k D _ (same_under (s2.trans s3) hD) hD ?_⟩
          rw [upd_same, Cal.works_first hi (by omega) (z2 (by omega)) cw, z2 (by omega)]
          rfl
        · have c2 : ¬ (2000 : Int) < (C.per : Int) := fun e => c2 (decide_eq_true e)
          refine ⟨⟨_, rfl⟩, same_under (s2.trans s3) hD, ?_, fun z => absurd z (by omega)⟩
          rw [upd_same, hs, List.map_append]
          rfl
      · rw [if_neg cw, List.append_nil] at hs
        exact ⟨⟨_, rfl⟩, s2.trans s3, by rw [hs]; exact f3, fun z => by rw [hs]; exact z2 z⟩
    · rintro σ H2 ⟨⟨v3, rfl⟩, s2, f2, z2⟩
      refine ⟨_, rfl, ?_⟩
      refine k D H2 s2 hD ?_
      rw [f2, Cal.works_end z2]
  )]); intro f; simpa using My.gz f 5 true
theorem mC_first_works {X : Cx} {k : Nat} {o : Expr} {ta : TE} {apos pos : Pos} {pl : Sem Bool} (T : Tx K mg) (hr : Room k X.A) (he : PE X o ta) (hk : 5 ≤ k := by decide) (hK : X.K = K := by rfl) (hm : X.mg = mg := by rfl)
    (ht : eval (.Call (.Attribute o "first_works" apos) [] [] pos) X.env = (do
      let ov ← eval o X.env
      standAt apos.atName
      let (f, first) ← holding [ov] (getMethod ov "first_works" pl)
      callWith pos f first (backTo pos (starEach [] X.env)) (backToKw pos (keywordEach [] X.env))) := by rfl) :
    PE X (.Call (.Attribute o "first_works" apos) [] [] pos) (tMethR (CA K) "first_works" (sp_cfw K) E0 ta tNil) := by
  subst hK
  subst hm
  exact pe_m0R he T.cl_CA T.me_CA_first_works (okC_first_works T) (hr.mono hk) pass0 ht
end
end Lw
end
section
local macro_rules | `(tactic| fail "k") => `(tactic| first | (refine My.Kx.trans (My.kx_same (by assumption)) ?_; fail "k") | fail_if_success skip)
local macro_rules | `(tactic| fail "k") => `(tactic| first | (refine My.Kx.trans (by assumption) ?_; fail "k") | fail_if_success skip)
local macro_rules | `(tactic| fail "k") => `(tactic| first | exact My.Kx.refl _ | fail_if_success skip)
local macro_rules | `(tactic| fail "f") => `(tactic| first | (apply My.Same.use; (focus assumption); fail "f") | fail_if_success skip)
local macro_rules | `(tactic| fail "f") => `(tactic| first | assumption | fail_if_success skip)
local macro_rules | `(tactic| fail "a") => `(tactic| first | (apply My.szl; first | omega | (simp <;> omega)) | fail_if_success skip)
local macro_rules | `(tactic| fail "a") => `(tactic| first | (apply My.sz; first | omega | (simp <;> omega)) | fail_if_success skip)
local macro_rules | `(tactic| fail "a") => `(tactic| first | (apply My.log10 (B := 60) (by decide); omega) | fail_if_success skip)
local macro_rules | `(tactic| fail "a") => `(tactic| first | (show List.length _ ≤ _; simp; done) | fail_if_success skip)
local macro_rules | `(tactic| fail "a") => `(tactic| first | (show 0 < List.length _; simp; done) | fail_if_success skip)
local macro_rules | `(tactic| fail "a") => `(tactic| first | (apply My.mulL; omega) | fail_if_success skip)
local macro_rules | `(tactic| fail "a") => `(tactic| first | (apply My.mulR; omega) | fail_if_success skip)
local macro_rules | `(tactic| fail "a") => `(tactic| first | exact ⟨by omega, by omega⟩ | fail_if_success skip)
local macro_rules | `(tactic| fail "a") => `(tactic| first | decide | fail_if_success skip)
local macro_rules | `(tactic| fail "a") => `(tactic| first | omega | fail_if_success skip)
local macro_rules | `(tactic| fail "a") => `(tactic| first | (show L2.Same _ _; refine My.Same.via (by assumption) ?_; fail "a") | fail_if_success skip)
local macro_rules | `(tactic| fail "a") => `(tactic| first | exact L2.Same.refl _ | fail_if_success skip)
local macro_rules | `(tactic| fail "a") => `(tactic| first | (apply Or.inl; refine ⟨rfl, ?_⟩; apply Exists.intro; apply L2.SqL.of; fail "f") | fail_if_success skip)
local macro_rules | `(tactic| fail "a") => `(tactic| first | (apply My.at_add; assumption) | fail_if_success skip)
local macro_rules | `(tactic| fail "a") => `(tactic| first | (apply L2.at_of rfl; assumption) | fail_if_success skip)
local macro_rules | `(tactic| fail "a") => `(tactic| first | (apply Or.inr; fail "f") | fail_if_success skip)
local macro_rules | `(tactic| fail "a") => `(tactic| first | (apply Or.inl; fail "f") | fail_if_success skip)
local macro_rules | `(tactic| fail "a") => `(tactic| first | (apply Lw.RdAt.same; (focus assumption); fail "a") | fail_if_success skip)
local macro_rules | `(tactic| fail "a") => `(tactic| first | (apply Lw.CalAt.same; (focus assumption); fail "a") | fail_if_success skip)
local macro_rules | `(tactic| fail "a") => `(tactic| first | (apply Lw.CalX.same; (focus assumption); fail "a") | fail_if_success skip)
local macro_rules | `(tactic| fail "a") => `(tactic| first | (apply Lw.SetRows.same; (focus assumption); fail "a") | fail_if_success skip)
local macro_rules | `(tactic| fail "a") => `(tactic| first | (apply Lw.SetAt.same; (focus assumption); fail "a") | fail_if_success skip)
local macro_rules | `(tactic| fail "a") => `(tactic| first | (apply Lw.Tx.no_RD_cuts; assumption) | fail_if_success skip)
local macro_rules | `(tactic| fail "a") => `(tactic| first | (apply Lw.Tx.no_RD_with_names; assumption) | fail_if_success skip)
local macro_rules | `(tactic| fail "a") => `(tactic| first | (apply Lw.Tx.no_RD_many; assumption) | fail_if_success skip)
local macro_rules | `(tactic| fail "a") => `(tactic| first | (apply Lw.Tx.no_RD_depth; assumption) | fail_if_success skip)
local macro_rules | `(tactic| fail "a") => `(tactic| first | (apply Lw.Tx.no_RD_place; assumption) | fail_if_success skip)
local macro_rules | `(tactic| fail "a") => `(tactic| first | (apply Lw.Tx.no_RD_words; assumption) | fail_if_success skip)
local macro_rules | `(tactic| fail "a") => `(tactic| first | (apply Lw.Tx.no_RD_guide; assumption) | fail_if_success skip)
local macro_rules | `(tactic| fail "a") => `(tactic| first | (show PySem.W.notFirst _ _ _ = true; apply And.right; apply Lw.Tx.fst_RD; assumption) | fail_if_success skip)
local macro_rules | `(tactic| fail "a") => `(tactic| first | (apply Lw.Tx.cl_RD; assumption) | fail_if_success skip)
local macro_rules | `(tactic| fail "a") => `(tactic| first | (apply Lw.Tx.no_CA_works; assumption) | fail_if_success skip)
local macro_rules | `(tactic| fail "a") => `(tactic| first | (apply Lw.Tx.no_CA_turn; assumption) | fail_if_success skip)
local macro_rules | `(tactic| fail "a") => `(tactic| first | (apply Lw.Tx.no_CA_starts; assumption) | fail_if_success skip)
local macro_rules | `(tactic| fail "a") => `(tactic| first | (apply Lw.Tx.no_CA_lengths; assumption) | fail_if_success skip)
local macro_rules | `(tactic| fail "a") => `(tactic| first | (apply Lw.Tx.no_CA_free_days; assumption) | fail_if_success skip)
local macro_rules | `(tactic| fail "a") => `(tactic| first | (apply Lw.Tx.no_CA_rests; assumption) | fail_if_success skip)
local macro_rules | `(tactic| fail "a") => `(tactic| first | (apply Lw.Tx.no_CA_begins; assumption) | fail_if_success skip)
local macro_rules | `(tactic| fail "a") => `(tactic| first | (apply Lw.Tx.no_CA_days_of_week; assumption) | fail_if_success skip)
local macro_rules | `(tactic| fail "a") => `(tactic| first | (apply Lw.Tx.no_CA_all_years; assumption) | fail_if_success skip)
local macro_rules | `(tactic| fail "a") => `(tactic| first | (show PySem.W.notFirst _ _ _ = true; apply And.right; apply Lw.Tx.fst_CA; assumption) | fail_if_success skip)
local macro_rules | `(tactic| fail "a") => `(tactic| first | (apply Lw.Tx.cl_CA; assumption) | fail_if_success skip)
local macro_rules | `(tactic| fail "a") => `(tactic| first | (apply Lw.Tx.no_DS_members; assumption) | fail_if_success skip)
local macro_rules | `(tactic| fail "a") => `(tactic| first | (apply Lw.Tx.no_DS_flags; assumption) | fail_if_success skip)
local macro_rules | `(tactic| fail "a") => `(tactic| first | (show PySem.W.notFirst _ _ _ = true; apply And.right; apply Lw.Tx.fst_DS; assumption) | fail_if_success skip)
local macro_rules | `(tactic| fail "a") => `(tactic| first | (apply Lw.Tx.cl_DS; assumption) | fail_if_success skip)
local macro_rules | `(tactic| fail "a") => `(tactic| first | (show ∃ xs : List L2.V, L2.SqT _ _ _ xs; apply Exists.intro; apply L2.SqT.of; fail "f") | fail_if_success skip)
local macro_rules | `(tactic| fail "a") => `(tactic| first | (show ∃ xs : List L2.V, L2.SqL _ _ _ xs; apply Exists.intro; apply L2.SqL.of; fail "f") | fail_if_success skip)
local macro_rules | `(tactic| fail "a") => `(tactic| first | (apply Or.inr; apply L2.SqT.of; fail "f") | fail_if_success skip)
local macro_rules | `(tactic| fail "a") => `(tactic| first | (apply Or.inl; apply L2.SqL.of; fail "f") | fail_if_success skip)
local macro_rules | `(tactic| fail "a") => `(tactic| first | (apply L2.SqT.of; fail "f") | fail_if_success skip)
local macro_rules | `(tactic| fail "a") => `(tactic| first | (apply L2.SqL.of; fail "f") | fail_if_success skip)
local macro_rules | `(tactic| fail "a") => `(tactic| first | (show _ = some _; fail "f") | fail_if_success skip)
local macro_rules | `(tactic| fail "a") => `(tactic| first | assumption | fail_if_success skip)
local macro_rules | `(tactic| fail "a") => `(tactic| first | ((with_reducible show (_ : Int) ≤ _); omega) | fail_if_success skip)
local macro_rules | `(tactic| fail "a") => `(tactic| first | ((with_reducible show (_ : Int) < _); omega) | fail_if_success skip)
local macro_rules | `(tactic| fail "a") => `(tactic| first | with_reducible assumption | fail_if_success skip)
local macro_rules | `(tactic| fail "a") => `(tactic| first | exact rfl | fail_if_success skip)
local macro_rules | `(tactic| fail "c") => `(tactic| first | (apply And.intro; (focus fail "a")) | fail_if_success skip)
local macro_rules | `(tactic| fail "c") => `(tactic| first | (apply Exists.intro; fail "c") | fail_if_success skip)
local macro_rules | `(tactic| rfl') => `(tactic| first | skip | fail_if_success skip)
local macro_rules | `(tactic| rfl') => `(tactic| first | ((with_reducible refine L2.iteF ?_); rfl') | fail_if_success skip)
local macro_rules | `(tactic| rfl') => `(tactic| first | ((with_reducible refine L2.iteT ?_); rfl') | fail_if_success skip)
local macro_rules | `(tactic| rfl') => `(tactic| first | (intro H' (s : L2.Same _ _); rfl') | fail_if_success skip)
local macro_rules | `(tactic| rfl') => `(tactic| first | (intro o H' (s : L2.Same _ _) ho; rfl') | fail_if_success skip)
local macro_rules | `(tactic| rfl') => `(tactic| first | (intro p hp; generalize e : L2.upd _ _ _ = H'; (fail_if_success (refine @Exists.intro (Nat → _) _ ?_ ?_)); (have s := My.newS e hp); (have f := My.newO e); clear e; rfl') | fail_if_success skip)
local macro_rules | `(tactic| rfl') => `(tactic| first | (fail "c"; rfl') | fail_if_success skip)
namespace Lw
open PySem PySem.Spec PyProof.Rows L2 My
section
variable {P : Program} {w : World} {K : Fg} {mg : Str → Option Value} {base : Heap}
def IsIns (H : Hp) (x : Addr) : Prop := ∃ C dx fs, H x = some (.ins C dx fs)
def StayI (x : Addr) (F : Hp → Prop) : Prop := ∀ H H' : Hp, Kx x H H' → IsIns H x → F H → F H'
structure Ini (C : Addr) (H0 H : Hp) (x dx : Addr) (fs : List (Str × V)) (Fs : List (Hp → Prop)) : Prop where
  at_ : H x = some (.ins C dx fs)
  kx : Kx x H0 H
  all : ∀ F ∈ Fs, StayI x F ∧ F H
section
variable {Cl : Addr} {H0 H H' : Hp} {x dx a : Addr} {fs gs : List (Str × V)} {Fs : List (Hp → Prop)} {F : Hp → Prop} {xs : List V}
theorem Ini.step (i : Ini Cl H0 H x dx fs Fs) (k : Kx x H H') (e : H' x = some (.ins Cl dx gs)) : Ini Cl H0 H' x dx gs Fs :=
  ⟨e, fun b u h nb => k b u (i.kx b u h nb) nb, fun F hF => ⟨(i.all F hF).1, (i.all F hF).1 _ _ k ⟨_, _, _, i.at_⟩ (i.all F hF).2⟩⟩
theorem Ini.same (i : Ini Cl H0 H x dx fs Fs) (s : Same H H') : Ini Cl H0 H' x dx fs Fs := i.step (kx_same s) (s _ _ i.at_)
theorem Ini.put (i : Ini Cl H0 H x dx fs Fs) : Ini Cl H0 (upd H x (.ins Cl dx gs)) x dx gs Fs := i.step (fun b u e nb => by rw [upd_ne nb]; exact e) upd_same
theorem Ini.add (i : Ini Cl H0 H x dx fs Fs) (s : StayI x F) (h : F H) : Ini Cl H0 H x dx fs (F :: Fs) := ⟨i.at_, i.kx, fun G hG => by
  rcases List.mem_cons.mp hG with rfl | hG
  · exact ⟨s, h⟩
  · exact i.all G hG⟩
theorem Ini.go {R : Hp → Prop} (i : Ini Cl H0 H x dx fs Fs) (k : ∀ H', Ini Cl H0 H' x dx fs Fs → R H') : R H := k H i
theorem Ini.get (i : Ini Cl H0 H x dx fs Fs) (n : Nat) (h : Fs[n]? = some F := by rfl) : F H := (i.all F (List.mem_of_getElem? h)).2
theorem ins_ne {o : HO} (h : H a = some o) (i : IsIns H x) (no : ∀ C dx fs, o ≠ .ins C dx fs) : a ≠ x := fun e => by
  obtain ⟨C, dx, fs, z⟩ := i
  rw [e, z] at h
  exact no _ _ _ (Option.some.inj h).symm
theorem si_lst : StayI x (fun H => H a = some (.lst xs)) := fun _ _ k i h => k _ _ h (ins_ne h i fun _ _ _ z => by cases z)
theorem si_tup : StayI x (fun H => H a = some (.tup xs)) := fun _ _ k i h => k _ _ h (ins_ne h i fun _ _ _ z => by cases z)
theorem si_seqV : StayI x (fun H => SeqV H a xs) := fun _ _ k i h => h.elim (fun h => .inl (si_lst _ _ k i h)) fun h => .inr (si_tup _ _ k i h)
theorem si_paired {α β : Type} {R : Hp → α → β → Prop} (h : ∀ t r, StayI x (fun H => R H t r)) : ∀ {ts : List α} {rs : List β}, StayI x (fun H => Paired (R H) ts rs) := fun {ts rs} H H' k i p => by
  induction p with
  | nil => exact .nil
  | cons q _ ih => exact .cons (h _ _ _ _ k i q) ih
theorem si_seqK : StayI x (fun H => SeqK K H a xs) := fun _ _ k i h => h.elim (fun h => .inl (si_seqV _ _ k i h)) .inr
theorem si_rowsV {ts : List Addr} {rows : List (List Nat)} : StayI x (fun H => RowsV H ts rows) := si_paired (R := fun (H : Hp) (t : Addr) (r : List Nat) => SeqV H t (r.map natV)) fun _ _ => si_seqV
theorem si_rowsT {ts : List Addr} {rows : List (List Nat)} : StayI x (fun H => RowsT H ts rows) := si_paired (R := fun (H : Hp) (t : Addr) (r : List Nat) => H t = some (.tup (r.map natV))) fun _ _ => si_tup
theorem si_prT {ts : List Addr} {ps : List (Int × Int)} : StayI x (fun H => PrT H ts ps) := si_paired (R := fun (H : Hp) (t : Addr) (p : Int × Int) => H t = some (.tup [.int p.1, .int p.2])) fun _ _ => si_tup
end
theorem Ini.free {Cl : Addr} {H0 H : Hp} {x dx a : Addr} {fs : List (Str × V)} {Fs : List (Hp → Prop)} (i : Ini Cl H0 H x dx fs Fs) (h : H a = none) : H0 a = none := by
  apply My.two; (focus intro zzI; simp only [↓ My.mkB zzI (by
  clear zzI
  cases z : H0 a with
  | none => rfl
  | some o =>
    have ne : a ≠ x := fun e => by
      rw [e, i.at_] at h
      cases h
    rw [i.kx _ _ z ne] at h
    cases h
  )]); intro f; simpa using My.gz f 5 true
/-- a calendar whose lists are newer than H0 -/
def CalNew (K : Fg) (H0 H : Hp) (c : Addr) (C : Cal) : Prop := ∃ a dx ay rr fr l s : Addr, H c = some (.ins (CA K) dx (b8 ay rr fr l s C ++ [(("works" : Str), V.ref a)])) ∧ CalB H C ay rr fr l s ∧ C.Ok ∧ H a = some (.lst (C.works.map natV)) ∧ C.works ≠ [] ∧ H0 a = none ∧ H0 l = none ∧ H0 s = none
theorem CalNew.at_ {H0 H : Hp} {c : Addr} {C : Cal} (h : CalNew K H0 H c C) : CalAt K H c C := by
  obtain ⟨a, dx, ay, rr, fr, l, s, h1, h2, h3, h4, h5, _⟩ := h
  exact ⟨a, ⟨dx, ay, rr, fr, l, s, h1, h2, h3⟩, h4, h5⟩
theorem CalNew.same {H0 H H' : Hp} {c : Addr} {C : Cal} (h : CalNew K H0 H c C) (sm : Same H H') : CalNew K H0 H' c C := by
  obtain ⟨a, dx, ay, rr, fr, l, s, h1, h2, h3, h4, h5, h6⟩ := h
  exact ⟨a, dx, ay, rr, fr, l, s, sm _ _ h1, h2.same sm, h3, sm _ _ h4, h5, h6⟩
/-- an older list is written -/
theorem CalNew.set {H0 H : Hp} {c q : Addr} {C : Cal} {o u : HO} {xs : List V} (h : CalNew K H0 H c C) (h0 : H0 q = some u) (hq : H q = some (.lst xs)) : CalNew K H0 (upd H q o) c C := by
  apply My.two; (focus intro zzI; simp only [↓ My.mkB zzI (by
  clear zzI
  obtain ⟨a, dx, ay, rr, fr, l, s, h1, ⟨⟨t1, a1, a2⟩, b1, ⟨t2, c1, c2⟩, d1, e1⟩, h3, h4, h5, h6, h7, h8⟩ := h
  have N : ∀ {b : Addr}, H0 b = none → b ≠ q := fun z e => by
    rw [e, h0] at z
    cases z
  have T : ∀ {b : Addr} {zs : List V}, H b = some (.tup zs) → upd H q o b = some (.tup zs) := fun {b zs} z => by
    rw [upd_ne (fun e => by rw [e, hq] at z; cases z)]
    exact z
  have L : ∀ {b : Addr} {zs : List V}, H0 b = none → H b = some (.lst zs) → upd H q o b = some (.lst zs) := fun n z => (upd_ne (N n)).trans z
  have R : ∀ {ts : List Addr} {rows : List (List Nat)}, RowsT H ts rows → RowsT (upd H q o) ts rows := fun {ts rows} h => by
    induction h with
    | nil => exact .nil
    | cons h _ ih => exact .cons (T h) ih
  have R2 : ∀ {ts : List Addr} {ps : List (Int × Int)}, PrT H ts ps → PrT (upd H q o) ts ps := fun {ts rows} h => by
    induction h with
    | nil => exact .nil
    | cons h _ ih => exact .cons (T h) ih
  exact ⟨a, dx, ay, rr, fr, l, s, (upd_ne (fun e => by rw [e, hq] at h1; cases h1)).trans h1, ⟨⟨t1, T a1, R a2⟩, T b1, ⟨t2, T c1, R2 c2⟩, L h7 d1, L h8 e1⟩, h3, L h6 h4, h5, h6, h7, h8⟩
  )]); intro f; simpa using My.gz f 5 true
theorem PrT.mem {H : Hp} {f : Addr → Int × Int} : ∀ {ts : List Addr} {ps : List (Int × Int)}, PrT H ts ps → ps = ts.map f → ∀ t ∈ ts, H t = some (.tup [.int (f t).1, .int (f t).2])
  | _, _, .nil, _, t, h => by cases h
  | _, _, .cons (a := u) h r, e, t, ht => by
    apply My.two; (focus intro zzI; simp only [↓ My.mkB zzI (by
    clear zzI
    rw [List.map_cons] at e
    obtain ⟨rfl, e2⟩ := List.cons.inj e
    rcases List.mem_cons.mp ht with rfl | ht
    · exact h
    · exact PrT.mem r e2 t ht
    )]); intro f; simpa using My.gz f 5 true
theorem PrT.of {H : Hp} {f : Addr → Int × Int} : ∀ {ts : List Addr}, (∀ t ∈ ts, H t = some (.tup [.int (f t).1, .int (f t).2])) → PrT H ts (ts.map f)
  | [], _ => .nil
  | t :: ts, h => .cons (h t (List.mem_cons_self ..)) (PrT.of fun x hx => h x (List.mem_cons_of_mem _ hx))
theorem RowsT.updL {H : Hp} {D : Addr} {o : HO} {zs : List V} (hD : H D = some (.lst zs)) : ∀ {ts : List Addr} {rows : List (List Nat)}, RowsT H ts rows → RowsT (upd H D o) ts rows
  | _, _, .nil => .nil
  | _, _, .cons (a := t) h r => .cons (by
      have : t ≠ D := fun e => by
        rw [e, hD] at h
        cases h
      show upd H D o t = _
      rw [upd_ne this]
      exact h) (RowsT.updL hD r)
theorem RowsT.snoc {H : Hp} {t : Addr} {row : List Nat} (ht : H t = some (.tup (row.map natV))) : ∀ {ts : List Addr} {rows : List (List Nat)}, RowsT H ts rows → RowsT H (ts ++ [t]) (rows ++ [row])
  | _, _, .nil => .cons ht .nil
  | _, _, .cons h r => .cons h (RowsT.snoc ht r)
/-- a row more in the list at D -/
theorem row_push {H3 H5 : Hp} {D l : Addr} {us : List Addr} {rows : List (List Nat)} {row : List Nat} {i : Nat} (hD : H3 D = none) (s : Same H3 H5) (e : H5 D = some (.lst (us.map V.ref))) (ul : us.length = i) (hu : RowsT H5 us (rows.take i)) (hr : rows[i]? = some row) (hl : H5 l = some (.tup (row.map natV))) (hi : i < 1000) :
    ∃ acc, H5 D = some (.lst acc) ∧ acc.length < sizeLine ∧ (fun H' => Same H3 H' ∧ ∃ us : List Addr, H' D = some (.lst (us.map V.ref)) ∧ us.length = i + 1 ∧ RowsT H' us (rows.take (i + 1))) (upd H5 D (.lst (acc ++ [.ref l]))) := by
  apply My.two; (focus intro zzI; simp only [↓ My.mkB zzI (by
  clear zzI
  refine ⟨_, e, by rw [List.length_map, sizeLine_eq]; omega, same_under s hD, us ++ [l], by rw [upd_same, List.map_append]; rfl, by rw [List.length_append, ul]; rfl, ?_⟩
  rw [List.take_succ, hr]
  refine RowsT.snoc ?_ (hu.updL e)
  have : l ≠ D := fun z => by
    rw [z, e] at hl
    cases hl
  rw [upd_ne this]
  exact hl
  )]); intro f; simpa using My.gz f 5 true
def sp_cinit (K : Fg) : Sp := fun vs H Q _ => ∃ (x dx y r h : Addr) (ts hs : List Addr) (C : Cal), vs = [.ref x, .ref y, .int (C.week : Int), .int (C.first : Int), .ref r, .ref h] ∧ H x = some (.ins (CA K) dx []) ∧ SeqV H y (ts.map V.ref) ∧ RowsV H ts C.rows ∧ SeqK K H r (C.rest.map V.int) ∧ SeqK K H h (hs.map V.ref) ∧ PrT H hs C.hol ∧ C.Ok ∧ C.works ≠ [] ∧
  ∀ (rs : List Int) (ps : List (Int × Int)) (H' : Hp), rs.Perm C.rest → rs.Pairwise (· ≤ ·) → ps.Perm C.hol → ps.Pairwise (fun a b => a.1 * 64 + a.2 ≤ b.1 * 64 + b.2) → CalNew K H H' x (C.re rs ps) → Kx x H H' → Q .non H'
theorem oka_cinit (T : Tx K mg) : FnA P w K mg base 6 (He.ma K (CA K) "__init__") "__init__" "Calendar.__init__" s_Calendaru_initu [V.int 7] [("self" : Str), ("years" : Str), ("week" : Str), ("first" : Str), ("rest" : Str), ("holidays" : Str)] (sp_cinit K) := by
  apply My.two; (focus intro zzI; simp only [↓ My.mkB zzI (by
  clear zzI
  refine (T.fnA 9 (st := s_Calendaru_initu) (at_ := fun K => He.ma K (He.ga K "Calendar") "__init__") rfl sc_Calendaru_initu) (fun vs H Q E h => ?_) (fun cdv A outer s H vs Q E hr h => ?_)
  · obtain ⟨x, dx, y, r, h, ts, hs, C, rfl, _⟩ := h
    rfl
  · obtain ⟨x, dx, y, r, hh, ts, hs, C, rfl, hx, hy, hrw, hrs, hhs, hps, ok, wk, k⟩ := h
    refine ⟨_, (pss_cons (ps_if (pt_not (pt_val (c_are_years T hr (pa_cons (pv 1) pa_nil))))
 (pss_one ps_never)
 pss_nil)
 (pss_cons (ps_if (pt_not (pt_val (c_is_between T hr (pa_cons (pv 2) (pa_cons pe_int (pa_cons (pe_glob (v := .int 10) rfl (T.g_MAX_WEEK).choose_spec ⟨_, rfl⟩) pa_nil))))))
 (pss_one ps_never)
 pss_nil)
 (pss_cons (ps_if (pt_not (pt_val (c_is_between T hr (pa_cons (pv 3) (pa_cons pe_int (pa_cons (pe_op op_sub (pv 2) pe_int) pa_nil))))))
 (pss_one ps_never)
 pss_nil)
 (pss_cons (ps_if (pt_not (pt_val (c_are_weekdays T hr (pa_cons (pv 4) (pa_cons (pv 2) pa_nil)))))
 (pss_one ps_never)
 pss_nil)
 (pss_cons (ps_if (pt_not (pt_val (c_are_holidays T hr (pa_cons (pv 5) (pa_cons (pe_callB (len_k T) (by rfl) T.n_len (by decide +kernel) (pa_cons (pe_ix (ixq T) (pv 1) pe_int (fun _ _ => rfl)) pa_nil)) pa_nil)))))
 (pss_one ps_never)
 pss_nil)
 (pss_cons (ps_fld (pv 0) (pe_callTy (tup_k T) (by rfl) T.n_tuple (by decide +kernel) (pa_cons (pe_lc (own := [("year", 6)]) rfl sc_Calendaru_initu.nd (pis T (pv 1)) (blkOk_by (own := [("year", 6)]) (N := N_Calendaru_initu) (sc := defScope s_Calendaru_initu) (by decide +kernel)) (fun _ _ _ _ _ => (pg_name (i := 6) sc_Calendaru_initu.nd rfl (Or.inl rfl))) (fun _ _ _ _ _ => pts_nil) (fun _ _ _ _ _ => (pe_callTy (tup_k T) (by rfl) T.n_tuple (by decide +kernel) (pa_cons (pv 6) pa_nil)))) pa_nil)) rfl)
 (pss_cons (ps_asg (pe_tup (pa_cons (pv 2) (pa_cons (pv 3) pa_nil))) (pgt T (n := 2) rfl (pgs_cons (pg_fld (pv 0)) (pgs_cons (pg_fld (pv 0)) pgs_nil))))
 (pss_cons (ps_asg (pe_tup (pa_cons (pe_callTy (tup_k T) (by rfl) T.n_tuple (by decide +kernel) (pa_cons (pe_callB (srtQ_k T) (by rfl) T.n_sorted (by decide +kernel) (pa_cons (pv 4) pa_nil)) pa_nil)) (pa_cons (pe_callTy (tup_k T) (by rfl) T.n_tuple (by decide +kernel) (pa_cons (pe_callB (srtPQ_k T) (by rfl) T.n_sorted (by decide +kernel) (pa_cons (pv 5) pa_nil)) pa_nil)) pa_nil))) (pgt T (n := 2) rfl (pgs_cons (pg_fld (pv 0)) (pgs_cons (pg_fld (pv 0)) pgs_nil))))
 (pss_cons (ps_fld (pv 0) (pe_lc2 (vs1 := [7]) (own := [("year", 6), ("days", 7)]) rfl sc_Calendaru_initu.nd (pis T (pv 1)) (blkOk_by (own := [("year", 6), ("days", 7)]) (N := N_Calendaru_initu) (sc := defScope s_Calendaru_initu) (by decide +kernel)) (by decide) (fun _ _ _ _ _ => (pg_name (i := 6) sc_Calendaru_initu.nd rfl (Or.inl rfl))) (fun _ _ _ _ _ => pts_nil) (fun _ _ _ _ _ => (pis T (pv 6))) (fun _ _ _ _ _ => (pg_name (i := 7) sc_Calendaru_initu.nd rfl (Or.inl rfl))) (fun _ _ _ _ _ => pts_nil) (fun _ _ _ _ _ => (pv 7))) rfl)
 (pss_cons (ps_fld (pv 0) (c_month_starts T hr (pa_cons (fld T (pv 0)) pa_nil)) rfl)
 (pss_cons (ps_fld (pv 0) (c_common_multiple T hr (pa_cons (pe_ix (ixl T) (fld T (pv 0)) (pe_un un_neg pe_int) (fun _ _ => rfl)) (pa_cons (pv 2) pa_nil))) rfl)
 (pss_cons (ps_if (pt_cmpR op_gt (pC_period T hr (pv 0)) (pe_glob (v := .int 200000) rfl (T.g_MAX_PERIOD).choose_spec ⟨_, rfl⟩) (nomark _))
 (pss_one ps_never)
 pss_nil)
 (pss_cons (ps_fld (pv 0) (mC_first_works T hr (pv 0)) rfl)
 (pss_one (ps_if (pt_cmpR (eqi T hr.units) (fld T (pv 0)) (pe_lst pa_nil) (nomark _))
 (pss_one ps_never)
 pss_nil))))))))))))))), ?_⟩
    have I0 : Ini (CA K) H H x dx [] [fun H => SeqV H y (ts.map V.ref), fun H => RowsV H ts C.rows, fun H => SeqK K H r (C.rest.map V.int), fun H => SeqK K H hh (hs.map V.ref), fun H => PrT H hs C.hol] :=
      ((((Ini.add ⟨hx, fun _ _ e _ => e, fun _ h => by cases h⟩ si_prT hps).add si_seqK hhs).add si_seqK hrs).add si_rowsV hrw).add si_seqV hy
    have w0 := ok.w0
    have w1 := ok.w1
    have wf := ok.f
    refine ⟨_, rfl, y, ts, C.rows, rfl, I0.get 0, I0.get 1, ok.yr, fun H1 s1 => ?_⟩
    have I1 := I0.same s1
    clear I0 s1 hx hy hrw hrs hhs hps
    refine ⟨_, rfl, ?_⟩
    refine iteF ?_
    refine ⟨_, rfl, (C.week : Int), 1, 10, rfl, ?_⟩
    rw [decide_eq_true (show (1 : Int) ≤ (C.week : Int) by omega), decide_eq_true (show (C.week : Int) ≤ 10 by omega)]
    refine ⟨_, rfl, ?_⟩
    refine iteF ?_
    refine ⟨_, rfl, _, rfl, _, _, rfl, rfl, (C.first : Int), 0, (C.week : Int) - 1, rfl, ?_⟩
    rw [decide_eq_true (show (0 : Int) ≤ (C.first : Int) by omega), decide_eq_true (show (C.first : Int) ≤ (C.week : Int) - 1 by omega)]
    refine ⟨_, rfl, ?_⟩
    refine iteF ?_
    refine ⟨_, rfl, _, rfl, r, C.rest, (C.week : Int), rfl, I1.get 2, ok.rnd, ok.rest, by have := ok.rl; omega, fun H2 s2 => ?_⟩
    have I2 := I1.same s2
    clear I1 s2
    refine ⟨_, rfl, ?_⟩
    refine iteF ?_
    refine ⟨_, rfl, _, rfl, ?_⟩
    obtain ⟨t0, e0, h0⟩ := (I2.get 1 : RowsV H2 ts C.rows).get (List.getElem?_eq_getElem (i := 0) ok.yr.ne)
    refine ixq_go (j := 0) (I2.get 0) (by rw [List.getElem?_map, e0]; rfl) ?_
    refine ⟨t0, _, rfl, h0.sq, ?_⟩
    have em : (C.rows[0]'ok.yr.ne).length = C.mon := by
      unfold Cal.mon
      rw [List.getD_eq_getElem?_getD, List.getElem?_eq_getElem ok.yr.ne]
      rfl
    rw [List.length_map, em]
    refine ⟨hh, hs, C.hol, (C.mon : Int), rfl, I2.get 3, I2.get 4, ok.hnd, ok.hol, ok.hl, fun H3 s3 => ?_⟩
    have I3 := I2.same s3
    clear I2 s3 h0 e0 em
    refine ⟨_, rfl, ?_⟩
    refine iteF ?_
    refine ⟨_, rfl, ?_⟩
    refine seq_goC (I3.get 0 : SeqV H3 y (ts.map V.ref)).sq fun J G wk2 hG D hD => ?_
    have L1 : (ts.map V.ref).length = C.rows.length := by rw [List.length_map, (I3.get 1 : RowsV H3 ts C.rows).len]
    refine walk_w wk2 (fun i H' => Same H3 H' ∧ ∃ us : List Addr, H' D = some (.lst (us.map V.ref)) ∧ us.length = i ∧ RowsT H' us (C.rows.take i)) ⟨same_upd hD, [], upd_same, rfl, .nil⟩ (fun i H4 _ h => hG H4 h.1) ?_ ?_
    · rintro i v H4 H5 hi ⟨s4, us, e4, ul, hu⟩ ⟨rfl, ev⟩
      obtain ⟨t, et, rfl⟩ := ref_at ev
      obtain ⟨row, er, hs5⟩ := (I3.get 1 : RowsV H3 ts C.rows).at et
      have hs6 := hs5.same s4
      refine ⟨rfl, ?_⟩
      refine yes_t ?_
      refine ⟨_, rfl, ?_⟩
      have li : i < 1000 := by have := ok.yr.le; omega
      rcases hs6 with h6 | h6
      · refine ⟨t, _, rfl, .inl ⟨SqL.of h6, fun l hl => ?_⟩⟩
        have s6 := same_upd (o := .tup (row.map natV)) hl
        exact row_push hD (s4.trans s6) (s6 _ _ e4) ul (hu.same s6) er upd_same li
      · refine ⟨t, _, rfl, .inr ⟨SqT.of h6, ?_⟩⟩
        exact row_push hD s4 e4 ul hu er h6 li
    rintro H4 ⟨s4, us, e4, ul, hu⟩
    rw [L1, List.take_length] at hu
    refine ⟨D, _, rfl, .inl ⟨SqL.of e4, fun ay hay => ?_⟩⟩
    have s5 := same_upd (o := .tup (us.map V.ref)) hay
    have I4 := ((I3.same (s4.trans s5)).add si_rowsT (hu.same s5)).add si_tup (upd_same : upd H4 ay (.tup (us.map V.ref)) ay = _)
    clear I3 hD wk2 hG L1
    refine ⟨_, rfl, x, _, dx, [], rfl, I4.at_, T.cl_CA, T.no_CA_all_years, (by show 0 < 1000; decide), ?_⟩
    have I5 := I4.put (gs := [("all_years", V.ref ay)])
    refine Ini.go (R := tSeq _ _ _ _) I5 fun H5 I5 => ?_
    clear I4 s5 hay e4 s4 hu
    refine ⟨_, rfl, _, rfl, by show 2 ≤ sizeLine; decide, fun t ht => ?_⟩
    have I6 := I5.same (same_upd (o := .tup [V.int (C.week : Int), V.int (C.first : Int)]) ht)
    refine ⟨t, _, rfl, SqT.of upd_same, rfl, _, _, rfl, _, rfl, x, _, dx, _, rfl, I6.at_, T.cl_CA, T.no_CA_days_of_week, (by show 1 < 1000; decide), ?_⟩
    have I7 := I6.put (gs := [("all_years", V.ref ay), ("days_of_week", .int (C.week : Int))])
    refine ⟨_, _, rfl, _, rfl, x, _, dx, _, rfl, I7.at_, T.cl_CA, T.no_CA_begins, (by show 2 < 1000; decide), rfl, ?_⟩
    have I8 := I7.put (gs := [("all_years", V.ref ay), ("days_of_week", .int (C.week : Int)), ("begins", .int (C.first : Int))])
    refine Ini.go (R := tSeq _ _ _ _) I8 fun H6 I8 => ?_
    clear I5 I6 I7 ht
    refine ⟨_, rfl, r, C.rest, rfl, (I8.get 4 : SeqK K H6 r (C.rest.map V.int)).sq, ok.rl, fun rs rp rsp rso hrp => ?_⟩
    have sa := same_upd (o := .lst (rs.map V.int)) hrp
    refine ⟨rp, _, rfl, .inl ⟨SqL.of upd_same, fun rr hrr => ?_⟩⟩
    have sb := same_upd (o := .tup (rs.map V.int)) hrr
    have I9 := (I8.same (sa.trans sb)).add si_tup upd_same
    refine ⟨_, rfl, hh, hs, C.hol, rfl, (I9.get 6 : SeqK K _ hh (hs.map V.ref)).sq, (I9.get 7 : PrT _ hs C.hol).prs, ok.hl, fun p hp => ?_, fun hs' f hp ef hper hso hnp => ?_⟩
    · have := ok.hol p hp
      have := ok.m1
      omega
    have sc := same_upd (o := .lst (hs'.map V.ref)) hnp
    refine ⟨hp, _, rfl, .inl ⟨SqL.of upd_same, fun fr hfr => ?_⟩⟩
    have sd := same_upd (o := .tup (hs'.map V.ref)) hfr
    have hpt : PrT (upd (upd H6 rp (.lst (rs.map V.int))) rr (.tup (rs.map V.int))) hs' (hs'.map f) := PrT.of fun t ht => (I9.get 7 : PrT _ hs C.hol).mem ef t (hper.mem_iff.mp ht)
    have I10 := ((I9.same (sc.trans sd)).add si_tup upd_same).add si_prT (hpt.same (sc.trans sd))
    clear I8 I9 sa sb sc sd hpt hrp hrr hnp hfr
    refine ⟨by show 2 ≤ sizeLine; decide, fun t2 ht2 => ?_⟩
    have I11 := I10.same (same_upd (o := .tup [V.ref rr, V.ref fr]) ht2)
    refine ⟨t2, _, rfl, SqT.of upd_same, rfl, _, _, rfl, _, rfl, x, _, dx, _, rfl, I11.at_, T.cl_CA, T.no_CA_rests, (by show 3 < 1000; decide), ?_⟩
    have I12 := I11.put (gs := [("all_years", V.ref ay), ("days_of_week", .int (C.week : Int)), ("begins", .int (C.first : Int)), ("rests", .ref rr)])
    refine ⟨_, _, rfl, _, rfl, x, _, dx, _, rfl, I12.at_, T.cl_CA, T.no_CA_free_days, (by show 4 < 1000; decide), rfl, ?_⟩
    have I13 := I12.put (gs := [("all_years", V.ref ay), ("days_of_week", .int (C.week : Int)), ("begins", .int (C.first : Int)), ("rests", .ref rr), ("free_days", .ref fr)])
    refine Ini.go (R := tSeq _ _ _ _) I13 fun H7 I13 => ?_
    clear I10 I11 I12 ht2
    have hy7 : SeqV H7 y (ts.map V.ref) := I13.get 5
    have hr7 : RowsV H7 ts C.rows := I13.get 6
    have L1 : (ts.map V.ref).length = C.rows.length := by rw [List.length_map, hr7.len]
    have le := ok.le
    refine ⟨_, rfl, ?_⟩
    refine seq_goC hy7.sq fun J G wk2 hG D hD => ?_
    have oD := I13.free hD
    refine walk_w wk2 (fun i H' => Same H7 H' ∧ H' D = some (.lst ((C.rows.take i).flatten.map natV))) ⟨same_upd hD, upd_same⟩ (fun i H8 _ h => hG H8 h.1) ?_ ?_
    · rintro i v H8 H9 hi ⟨s8, e8⟩ ⟨rfl, ev⟩
      obtain ⟨t, et, rfl⟩ := ref_at ev
      obtain ⟨row, er, hs5⟩ := hr7.at et
      have l4 : (row.map natV).length = row.length := List.length_map ..
      refine ⟨rfl, ?_⟩
      refine yes_t ?_
      refine ⟨_, rfl, ?_⟩
      refine seq_goS hs5.sq s8 fun J2 G2 wk3 hG2 => ?_
      refine walk_w wk3 (fun j H' => Same H7 H' ∧ H' D = some (.lst (((C.rows.take i).flatten ++ row.take j).map natV))) ⟨s8, by rw [List.take_zero, List.append_nil]; exact e8⟩ (fun j H10 _ h => hG2 H10 h.1) ?_ ?_
      · rintro j v2 H10 H11 hj ⟨s10, e10⟩ ⟨rfl, ev2⟩
        rw [l4] at hj
        rw [List.getElem?_map, List.getElem?_eq_getElem hj] at ev2
        obtain rfl := Option.some.inj ev2
        refine ⟨rfl, ?_⟩
        refine yes_t ?_
        have fl := flat_len (m := C.mon) (rows := C.rows.take i) fun q hq => ok.yr.eq q (List.mem_of_mem_take hq)
        have er2 := ok.yr.eq row (List.mem_of_getElem? er)
        have m1 := ok.yr.m1
        have t1 : (C.rows.take i).length * C.mon ≤ 400 * 14 := Nat.mul_le_mul (by rw [List.length_take]; have := ok.yr.le; omega) ok.m1
        refine ⟨_, rfl, _, e10, ?_, same_under s10 hD, ?_⟩
        · have t2 : (row.take j).length ≤ row.length := by rw [List.length_take]; omega
          rw [List.length_map, List.length_append, fl, sizeLine_eq]
          omega
        rw [upd_same, List.take_succ, List.getElem?_eq_getElem hj, ← List.append_assoc, List.map_append (l₁ := (C.rows.take i).flatten ++ row.take j)]
        rfl
      · rintro H10 ⟨s10, e10⟩
        rw [l4, List.take_length] at e10
        refine ⟨s10, ?_⟩
        rw [List.take_succ, er, e10]
        simp
    rintro H8 ⟨s8, e8⟩
    rw [L1, List.take_length] at e8
    have I14 := (I13.same s8).add si_lst e8
    refine ⟨_, rfl, x, _, dx, _, rfl, I14.at_, T.cl_CA, T.no_CA_lengths, (by show 5 < 1000; decide), ?_⟩
    have I15 := I14.put (gs := [("all_years", V.ref ay), ("days_of_week", .int (C.week : Int)), ("begins", .int (C.first : Int)), ("rests", .ref rr), ("free_days", .ref fr), ("lengths", .ref D)])
    refine Ini.go (R := tSeq _ _ _ _) I15 fun H9 I15 => ?_
    clear I13 I14 s8 e8 hD wk2 hG hy7 hr7
    have hD9 : H9 D = some (.lst (C.ls.map natV)) := I15.get 0
    refine ⟨_, rfl, x, _, dx, _, _, rfl, I15.at_, T.cl_CA, T.no_CA_lengths, rfl, ?_⟩
    refine ⟨D, C.ls, rfl, SqL.of hD9, by omega, fun st H10 s10 nst est => ?_⟩
    have ost := I15.free nst
    have I16 := (I15.same s10).add si_lst est
    refine ⟨_, rfl, x, _, dx, _, rfl, I16.at_, T.cl_CA, T.no_CA_starts, (by show 6 < 1000; decide), ?_⟩
    have I17 := I16.put (gs := [("all_years", V.ref ay), ("days_of_week", .int (C.week : Int)), ("begins", .int (C.first : Int)), ("rests", .ref rr), ("free_days", .ref fr), ("lengths", .ref D), ("starts", .ref st)])
    refine Ini.go (R := tSeq _ _ _ _) I17 fun H11 I17 => ?_
    clear I15 I16 s10 nst est hD9
    have hst : H11 st = some (.lst (mstV C.ls)) := I17.get 0
    refine ⟨_, rfl, x, _, dx, _, _, rfl, I17.at_, T.cl_CA, T.no_CA_starts, rfl, ?_⟩
    rfl'
    have s0 := ok.s0
    have sp := ok.sp
    refine ⟨mst_last, _, rfl, C.ls.sum, C.week, rfl, s0, w0, sp, by omega, ?_⟩
    refine ⟨_, rfl, x, _, dx, _, rfl, I17.at_, T.cl_CA, T.no_CA_turn, (by show 7 < 1000; decide), ?_⟩
    have hpp : (hs'.map f).Perm C.hol := by rw [ef]; exact hper.map f
    obtain ⟨C', hC'⟩ : ∃ C', C.re rs (hs'.map f) = C' := ⟨_, rfl⟩
    have ok' : C'.Ok := hC' ▸ ok.re rsp hpp
    have e1 : C'.week = C.week := by rw [← hC']; rfl
    have e2 : C'.first = C.first := by rw [← hC']; rfl
    have e3 : C'.per = C.per := by rw [← hC']; rfl
    have e4 : C'.ls = C.ls := by rw [← hC']; rfl
    have e5 : C'.rows = C.rows := by rw [← hC']; rfl
    have e6 : C'.rest = rs := by rw [← hC']; rfl
    have e7 : C'.hol = hs'.map f := by rw [← hC']; rfl
    have e8 : C'.works = C.works := by rw [← hC']; exact Cal.re_works rsp hpp
    have eb : b8 ay rr fr D st C' = [(("all_years" : Str), V.ref ay), ("days_of_week", .int (C.week : Int)), ("begins", .int (C.first : Int)), ("rests", .ref rr), ("free_days", .ref fr), ("lengths", .ref D), ("starts", .ref st), ("turn", .int (C.per : Int))] := by
      unfold b8
      rw [e1, e2, e3]
    have I18 := I17.put (gs := [("all_years", V.ref ay), ("days_of_week", .int (C.week : Int)), ("begins", .int (C.first : Int)), ("rests", .ref rr), ("free_days", .ref fr), ("lengths", .ref D), ("starts", .ref st), ("turn", .int (C.per : Int))])
    refine Ini.go (R := tSeq _ _ _ _) I18 fun H12 I18 => ?_
    clear I17 hst
    rw [← eb] at I18
    have B : ∀ {H' : Hp} {fs : List (Str × V)}, Ini (CA K) H H' x dx fs [fun H => H st = some (.lst (mstV C.ls)), fun H => H D = some (.lst (C.ls.map natV)), fun H => PrT H hs' (hs'.map f), fun H => H fr = some (.tup (hs'.map V.ref)), fun H => H rr = some (.tup (rs.map V.int)), fun H => H ay = some (.tup (us.map V.ref)), fun H => RowsT H us C.rows, fun H => SeqV H y (ts.map V.ref), fun H => RowsV H ts C.rows, fun H => SeqK K H r (C.rest.map V.int), fun H => SeqK K H hh (hs.map V.ref), fun H => PrT H hs C.hol] → CalB H' C' ay rr fr D st := fun {H' fs} I => by
      refine ⟨⟨us, I.get 5, ?_⟩, ?_, ⟨hs', I.get 3, ?_⟩, ?_, ?_⟩
      · rw [e5]
        exact I.get 6
      · rw [e6]
        exact I.get 4
      · rw [e7]
        exact I.get 2
      · rw [e4]
        exact I.get 1
      · rw [e4]
        exact I.get 0
    have hx12 := I18.at_
    have hX : CalX K H12 x C' := ⟨[], .inl rfl, dx, ay, rr, fr, D, st, by rw [List.append_nil]; exact hx12, B I18, ok'⟩
    rfl'
    rw [decide_eq_false (show ¬ (200000 : Int) < (C'.per : Int) by have := ok'.per; omega)]
    refine iteF ?_
    refine ⟨_, rfl, x, _, _, rfl, hx12, rfl, ?_⟩
    refine ⟨x, C', rfl, hX, fun wa H13 s13 nwa ewa => ?_⟩
    have owa := I18.free nwa
    have I19 := (I18.same s13).add si_lst ewa
    refine ⟨_, rfl, x, _, dx, _, rfl, I19.at_, T.cl_CA, T.no_CA_works, (by show 8 < 1000; decide), ?_⟩
    have I20 := I19.put (gs := b8 ay rr fr D st C' ++ [(("works" : Str), V.ref wa)])
    have ep : putF "works" (V.ref wa) (b8 ay rr fr D st C') = b8 ay rr fr D st C' ++ [(("works" : Str), V.ref wa)] := by
      unfold b8
      rfl
    rw [ep]
    generalize upd H13 x (HO.ins (CA K) dx (b8 ay rr fr D st C' ++ [(("works" : Str), V.ref wa)])) = H14 at I20
    clear I19 s13 hX hx12
    have Bs := B ⟨I20.at_, I20.kx, fun F hF => I20.all F (List.mem_cons_of_mem _ hF)⟩
    have ew : H14 wa = some (.lst (C'.works.map natV)) := I20.get 0
    have fin : CalNew K H H14 x C' := ⟨wa, dx, ay, rr, fr, D, st, I20.at_, Bs, ok', ew, by rw [e8]; exact wk, owa, oD, ost⟩
    have end_ : ∀ H15, Same H14 H15 → Q .non H15 := fun H15 s15 => by
      have c15 := fin.same s15
      rw [← hC'] at c15
      exact k rs (hs'.map f) H15 rsp rso hpp hso c15 (fun b u e nb => s15 _ _ (I20.kx b u e nb))
    refine ⟨_, rfl, x, _, dx, _, _, rfl, I20.at_, T.cl_CA, T.no_CA_works, rfl, ?_⟩
    refine ⟨by show 0 ≤ sizeLine; decide, fun p0 hp0 => ?_⟩
    have s15 := same_upd (o := .lst ([] : List V)) hp0
    have en : C'.works.map natV = (C'.works.map fun n : Nat => (n : Int)).map V.int := by rw [List.map_map]; rfl
    refine ⟨wa, p0, C'.works.map fun n : Nat => (n : Int), [], rfl, rfl, .inl ⟨SqL.of (by rw [← en]; exact s15 _ _ ew), SqL.of upd_same⟩, ?_⟩
    have ne0 : ¬ (C'.works.map fun n : Nat => (n : Int)) = [] := fun z => wk (by rw [← e8]; exact List.map_eq_nil_iff.mp z)
    rw [if_neg (by decide), decide_eq_false ne0]
    refine ⟨_, rfl, ?_⟩
    refine iteF ?_
    exact end_ _ s15
  )]); intro f; simpa using My.gz f 5 true
theorem mkk_Calendar_first_rest_holidays {X : Cx} {k : Nat} {t tk : TA} {e : Expr} {es : List Expr} {kws : List Keyword} {np pos : Pos} (T : Tx K mg) (hr : Room k X.A) (ha : PA X (e :: es) t) (hkw : PK X kws tk) (hk : 7 ≤ k := by decide) (hK : X.K = K := by rfl) (hm : X.mg = mg := by rfl)
    (hg : Gl X "Calendar" := by rfl) (hall : (backToKw pos (keywordEach kws X.env)).all (·.1.isSome) = true := by rfl) (hks : (backToKw pos (keywordEach kws X.env)).filterMap (·.1) = [("first" : Str), ("rest" : Str), ("holidays" : Str)] := by rfl)
    (hse : starEach (e :: es) X.env = (false, eval e X.env) :: starEach es X.env := by rfl)
    (hpl : ((backTo pos (starEach (e :: es) X.env)).any (·.1) || (backToKw pos (keywordEach kws X.env)).any (·.1.isNone)) = false := by rfl) : PE X (.Call (.Name "Calendar" np) (e :: es) kws pos) (tMkKn (CA K) 2 3 [0, 1, 2, 3, 4, 5] (sp_cinit K) E0 t tk) := by
  subst hK
  subst hm
  exact pe_mkKn (n := 2) (ks := [("first" : Str), ("rest" : Str), ("holidays" : Str)]) T.mk_CA ((oka_cinit T).kw 3 [("first" : Str), ("rest" : Str), ("holidays" : Str)] [0, 1, 2, 3, 4, 5] (fun z => by cases z) (fun _ _ _ _ _ _ _ us its ws h1 h2 h3 => match us, its, ws, h1, h2, h3 with | [_, _, _], [_], [_, _, _], _, _, _ => ⟨_, rfl, rfl⟩)) (hr.mono hk) hg T.g_Calendar pass0 ha hkw hall hks (by decide) hse hpl
end
end Lw
namespace Lw
open PySem PySem.Spec PyProof.Rows L2 My
section
variable {P : Program} {w : World} {K : Fg} {mg : Str → Option Value} {base : Heap}
def sp_cweek (K : Fg) : Sp := fun vs H Q _ => ∃ (c : Addr) (C : Cal), vs = [.ref c] ∧ CalX K H c C ∧ Q (.int (C.week : Int)) H
theorem okC_week (T : Tx K mg) : FnR P w K mg base CX0 1 (He5.wf K (CA K) "property" "week") (sp_cweek K) := by
  apply My.two; (focus intro zzI; simp only [↓ My.mkB zzI (by
  clear zzI
  refine (T.fnR 14 (st := s_Calendar_week) (at_ := fun K => He5.wf K (He.ga K "Calendar") "property" "week") rfl sc_Calendar_week (fun _ _ _ _ _ _ us hl => match us, hl with | [_], _ => rfl)) (fun vs H Q E h => ?_) (fun cdv A outer s H vs Q E hr h => ?_)
  · obtain ⟨c, C, rfl, _⟩ := h
    rfl
  · obtain ⟨c, C, rfl, ⟨ws, hw, dx, ay, rr, fr, l, st, hc, B, ok⟩, q⟩ := h
    refine ⟨_, (pss_one (ps_ret (fld T (pv 0)))), ?_⟩
    exact ⟨_, rfl, c, _, dx, _, _, rfl, hc, T.cl_CA, T.no_CA_days_of_week, rfl, q⟩
  )]); intro f; simpa using My.gz f 5 true
theorem pC_week {X : Cx} {k : Nat} {e : Expr} {ta : TE} {pos : Pos} (T : Tx K mg) (hr : Room k X.A) (he : PE X e ta) (hk : 2 ≤ k := by decide) (hK : X.K = K := by rfl) (hm : X.mg = mg := by rfl)
    (hab : attributeBase e "week" X.env (eval e X.env) = eval e X.env := by rfl) : PE X (.Attribute e "week" pos) (tPropR (CA K) (sp_cweek K) E0 ta) := by
  subst hK
  subst hm
  exact pe_propR he T.cl_CA T.pr_CA_week (okC_week T) (hr.mono hk) pass0 hab
def sp_cmd (K : Fg) : Sp := fun vs H Q _ => ∃ (c : Addr) (C : Cal) (m : Int), vs = [.ref c, .int m] ∧ CalX K H c C ∧ Q (.int (ml C.ls m)) H
theorem okC_month_days (T : Tx K mg) : FnR P w K mg base CX0 1 (He.ma K (CA K) "month_days") (sp_cmd K) := by
  apply My.two; (focus intro zzI; simp only [↓ My.mkB zzI (by
  clear zzI
  refine (T.fnR 18 (st := s_Calendar_month_days) (at_ := fun K => He.ma K (He.ga K "Calendar") "month_days") rfl sc_Calendar_month_days (fun _ _ _ _ _ _ us hl => match us, hl with | [_, _], _ => rfl)) (fun vs H Q E h => ?_) (fun cdv A outer s H vs Q E hr h => ?_)
  · obtain ⟨c, C, m, rfl, _⟩ := h
    rfl
  · obtain ⟨c, C, m, rfl, ⟨ws, hw, dx, ay, rr, fr, l, st, hc, B, ok⟩, q⟩ := h
    refine ⟨_, (pss_one (ps_ret (pe_ix (ixl T) (fld T (pv 0)) (pe_op op_mod (pv 1) (pe_callB (len_k T) (by rfl) T.n_len (by decide +kernel) (pa_cons (fld T (pv 0)) pa_nil))) (fun _ _ => rfl)))), ?_⟩
    have n0 := ok.ne
    have n1 := ok.le
    have hl := B.l
    have el : (C.ls.map natV).length = C.ls.length := List.length_map ..
    have q0 := Int.emod_nonneg m (show (C.ls.length : Int) ≠ 0 by omega)
    have q1 := Int.emod_lt_of_pos m (show (0 : Int) < (C.ls.length : Int) by omega)
    have ea : atI (C.ls.map natV) (m % (((C.ls.map natV).length : Nat) : Int)) = some (.int (ml C.ls m)) := by
      rw [el]
      refine at_of (j := (m % (C.ls.length : Int)).toNat) (by omega) ?_
      rw [List.getElem?_map, List.getElem?_eq_getElem (by omega)]
      unfold ml natV
      rw [List.getD_eq_getElem?_getD, List.getElem?_eq_getElem (by omega)]
      rfl
    rfl'
    exact q
  )]); intro f; simpa using My.gz f 5 true
theorem mC_month_days {X : Cx} {k : Nat} {o e : Expr} {es : List Expr} {ta : TE} {t : TA} {apos pos : Pos} {pl : Sem Bool} (T : Tx K mg) (hr : Room k X.A) (he : PE X o ta) (ha : PA X (e :: es) t) (hk : 1 ≤ k := by decide) (hK : X.K = K := by rfl) (hm : X.mg = mg := by rfl)
    (hst : starEach (e :: es) X.env = (false, eval e X.env) :: starEach es X.env := by rfl) (hpl : (backTo pos (starEach es X.env)).any (·.1) = false := by rfl)
    (ht : eval (.Call (.Attribute o "month_days" apos) (e :: es) [] pos) X.env = (do
      let ov ← eval o X.env
      standAt apos.atName
      let (f, first) ← holding [ov] (getMethod ov "month_days" pl)
      callWith pos f first (backTo pos (starEach (e :: es) X.env)) (backToKw pos (keywordEach [] X.env))) := by rfl) :
    PE X (.Call (.Attribute o "month_days" apos) (e :: es) [] pos) (tMethR (CA K) "month_days" (sp_cmd K) E0 ta t) := by
  subst hK
  subst hm
  exact pe_methR he T.cl_CA T.me_CA_month_days (okC_month_days T) (hr.mono hk) pass0 ha hst hpl ht
def sp_cml (K : Fg) : Sp := fun vs H Q _ => ∃ (c : Addr) (C : Cal) (y m : Int), vs = [.ref c, .int y, .int m] ∧ CalX K H c C ∧ 1 ≤ m ∧ m ≤ (C.mon : Int) ∧ Q (.int (ml C.ls (y * (C.mon : Int) + m - 1))) H
theorem okC_month_length (T : Tx K mg) : FnR P w K mg base CX0 3 (He.ma K (CA K) "month_length") (sp_cml K) := by
  apply My.two; (focus intro zzI; simp only [↓ My.mkB zzI (by
  clear zzI
  refine (T.fnR 20 (st := s_Calendar_month_length) (at_ := fun K => He.ma K (He.ga K "Calendar") "month_length") rfl sc_Calendar_month_length (fun _ _ _ _ _ _ us hl => match us, hl with | [_, _, _], _ => rfl)) (fun vs H Q E h => ?_) (fun cdv A outer s H vs Q E hr h => ?_)
  · obtain ⟨c, C, y, m, rfl, _⟩ := h
    rfl
  · obtain ⟨c, C, y, m, rfl, hX, m0, m1, q⟩ := h
    refine ⟨_, (pss_cons (ps_if (pt_not (pt_val (c_is_between T hr (pa_cons (pv 2) (pa_cons pe_int (pa_cons (pC_months T hr (pv 0)) pa_nil))))))
 (pss_one ps_never)
 pss_nil)
 (pss_one (ps_ret (mC_month_days T hr (pv 0) (pa_cons (pe_op op_sub (pe_op op_add (pe_op op_mul (pv 1) (pC_months T hr (pv 0))) (pv 2)) pe_int) pa_nil))))), ?_⟩
    obtain ⟨ws, hw, dx, ay, rr, fr, l, st, hc, B, ok⟩ := id hX
    have k1 : (b8 ay rr fr l st C ++ ws).lookup ("months" : Str) = none := b8_none hw
    have k2 : (b8 ay rr fr l st C ++ ws).lookup ("month_days" : Str) = none := b8_none hw
    have o1 := ok.m1
    rfl'
    rw [decide_eq_true m0, decide_eq_true m1, Bool.and_self]
    refine iteF ?_
    rfl'
    exact q
  )]); intro f; simpa using My.gz f 5 true
theorem mC_month_length {X : Cx} {k : Nat} {o e : Expr} {es : List Expr} {ta : TE} {t : TA} {apos pos : Pos} {pl : Sem Bool} (T : Tx K mg) (hr : Room k X.A) (he : PE X o ta) (ha : PA X (e :: es) t) (hk : 3 ≤ k := by decide) (hK : X.K = K := by rfl) (hm : X.mg = mg := by rfl)
    (hst : starEach (e :: es) X.env = (false, eval e X.env) :: starEach es X.env := by rfl) (hpl : (backTo pos (starEach es X.env)).any (·.1) = false := by rfl)
    (ht : eval (.Call (.Attribute o "month_length" apos) (e :: es) [] pos) X.env = (do
      let ov ← eval o X.env
      standAt apos.atName
      let (f, first) ← holding [ov] (getMethod ov "month_length" pl)
      callWith pos f first (backTo pos (starEach (e :: es) X.env)) (backToKw pos (keywordEach [] X.env))) := by rfl) :
    PE X (.Call (.Attribute o "month_length" apos) (e :: es) [] pos) (tMethR (CA K) "month_length" (sp_cml K) E0 ta t) := by
  subst hK
  subst hm
  exact pe_methR he T.cl_CA T.me_CA_month_length (okC_month_length T) (hr.mono hk) pass0 ha hst hpl ht
def RowsL2 (H : Hp) (ts : List Addr) (rows : List (List Nat)) : Prop := Paired (fun t r => H t = some (.lst (r.map natV))) ts rows
theorem RowsL2.rows {H : Hp} : ∀ {ts : List Addr} {rows : List (List Nat)}, RowsL2 H ts rows → RowsV H ts rows
  | _, _, .nil => .nil
  | _, _, .cons h t => .cons (.inl h) (RowsL2.rows t)
theorem RowsL2.same {H H' : Hp} (s : Same H H') : ∀ {ts : List Addr} {rows : List (List Nat)}, RowsL2 H ts rows → RowsL2 H' ts rows
  | _, _, .nil => .nil
  | _, _, .cons h t => .cons (s _ _ h) (RowsL2.same s t)
end
end Lw
namespace Lw
open PySem PySem.Spec PyProof.Rows L2 My
section
variable {P : Program} {w : World} {K : Fg} {mg : Str → Option Value} {base : Heap}
def Un.txt : Un → Str
  | .week => "week" | .month => "month" | .quarter => "quarter" | .year => "year"
def Tw.txt : Tw → Str
  | .after => "after" | .from_ => "from" | .before => "before" | .until_ => "until" | .near => "near"
def Wd.txt : Wd → Str
  | .next => "next" | .last => "last" | .month => "month"
end
end Lw
namespace Lw
open PySem PySem.Spec PyProof.Rows L2 My
section
variable {P : Program} {w : World} {K : Fg} {mg : Str → Option Value} {base : Heap}
structure Rdr where
  c : Addr
  wd : Addr
  cu : Addr
  dx : Addr
  W : List Str
  p : Nat
  d : Nat
  m : Nat
  b : Bool
def rdF (R : Rdr) : List (Str × V) := [("guide", .ref R.c), ("words", .ref R.wd), ("place", natV R.p), ("depth", natV R.d), ("many", natV R.m), ("with_names", .bl R.b), ("cuts", .ref R.cu)]
/-- a reader at r; ws: the words that are left -/
structure RdAt (K : Fg) (H : Hp) (r : Addr) (R : Rdr) (ws : List Str) : Prop where
  o : H r = some (.ins (RD K) R.dx (rdF R))
  w : H R.wd = some (.lst (R.W.map V.str))
  r : R.W.drop R.p = ws
def Rdr.go (R : Rdr) (k : Nat) : Rdr := { R with p := R.p + k }
theorem drop_at {α : Type} {W : List α} {p : Nat} {w : α} {ws : List α} (h : W.drop p = w :: ws) : p < W.length ∧ W[p]? = some w ∧ W.drop (p + 1) = ws := by
  apply My.two; (focus intro zzI; simp only [↓ My.mkB zzI (by
  clear zzI
  have l : p < W.length := by
    rcases Nat.lt_or_ge p W.length with c | c
    · exact c
    · rw [List.drop_eq_nil_of_le c] at h
      cases h
  refine ⟨l, ?_, ?_⟩
  · rw [List.drop_eq_getElem_cons l] at h
    rw [List.getElem?_eq_getElem l, (List.cons.inj h).1]
  · rw [List.drop_eq_getElem_cons l] at h
    exact (List.cons.inj h).2
  )]); intro f; simpa using My.gz f 5 true
theorem RdAt.one {H H1 : Hp} {r : Addr} {R : Rdr} {w : Str} {ws : List Str} (h : RdAt K H r R (w :: ws)) (s : Kx r H H1) (o : H1 r = some (.ins (RD K) R.dx (rdF R))) : RdAt K (upd H1 r (.ins (RD K) R.dx (putF "place" (.int ((R.p : Int) + 1)) (rdF R)))) r (R.go 1) ws ∧ Kx r H (upd H1 r (.ins (RD K) R.dx (putF "place" (.int ((R.p : Int) + 1)) (rdF R)))) := by
  apply My.two; (focus intro zzI; simp only [↓ My.mkB zzI (by
  clear zzI
  have ne : R.wd ≠ r := fun e => by
    have a := h.w
    rw [e, h.o] at a
    cases a
  exact ⟨⟨upd_same, (upd_ne ne).trans (s _ _ h.w ne), (drop_at h.r).2.2⟩, s.trans kx_upd⟩
  )]); intro f; simpa using My.gz f 5 true
theorem RdAt.same {H H1 : Hp} {r : Addr} {R : Rdr} {ws : List Str} (h : RdAt K H r R ws) (s : Same H H1) : RdAt K H1 r R ws := ⟨s _ _ h.o, s _ _ h.w, h.r⟩
theorem RdAt.at_ {H : Hp} {r : Addr} {R : Rdr} {w : Str} {ws : List Str} (h : RdAt K H r R (w :: ws)) : atI (R.W.map V.str) (R.p : Int) = some (.str w) := at_of (j := R.p) rfl (by rw [List.getElem?_map, (drop_at h.r).2.1]; rfl)
theorem CalX.keep {H H' : Hp} {r c : Addr} {C : Cal} {R : Rdr} (hr : H r = some (.ins (RD K) R.dx (rdF R))) (k : Kx r H H') (h : CalX K H c C) : CalX K H' c C := by
  apply My.two; (focus intro zzI; simp only [↓ My.mkB zzI (by
  clear zzI
  have L : ∀ {a : Addr} {xs : List V}, H a = some (.lst xs) → H' a = some (.lst xs) := fun h => k _ _ h fun e => by
    rw [e, hr] at h
    cases h
  have U : ∀ {a : Addr} {xs : List V}, H a = some (.tup xs) → H' a = some (.tup xs) := fun h => k _ _ h fun e => by
    rw [e, hr] at h
    cases h
  have Rw : ∀ {ts : List Addr} {rows : List (List Nat)}, RowsT H ts rows → RowsT H' ts rows := fun {ts rows} h => by
    induction h with
    | nil => exact .nil
    | cons h _ ih => exact .cons (U h) ih
  have Pw : ∀ {ts : List Addr} {rows : List (Int × Int)}, PrT H ts rows → PrT H' ts rows := fun {ts rows} h => by
    induction h with
    | nil => exact .nil
    | cons h _ ih => exact .cons (U h) ih
  obtain ⟨ws, hw, ⟨dx2, ay, rr, fr, l, s, e, ⟨⟨t1, a1, a2⟩, b1, ⟨t2, c1, c2⟩, d1, e1⟩, ok⟩⟩ := h
  exact ⟨ws, hw, dx2, ay, rr, fr, l, s, k _ _ e (fun z => by
    rw [z, hr] at e
    injection e with e
    injection e with e1 e2 e3
    exact absurd (Option.some.inj (congrArg (fun q : List (Str × V) => q.head?.map (·.1)) e3)) (show ¬ ("guide" : Str) = "all_years" by decide +kernel)), ⟨⟨t1, U a1, Rw a2⟩, U b1, ⟨t2, U c1, Pw c2⟩, L d1, L e1⟩, ok⟩
  )]); intro f; simpa using My.gz f 5 true
def Pl.words : Pl → List Str
  | .days n => ["days", numT n]
  | .weeks n => ["weeks", numT n]
  | .months n => ["months", numT n]
  | .years n => ["years", numT n]
  | .over n => ["months", numT n, "over"]
  | .day n => ["day", numT n]
  | .month m => ["month", numT m]
  | .start u => ["start", Un.txt u]
  | .fin u => ["end", Un.txt u]
  | .towk t w => [Tw.txt t, numT w]
  | .nth n w => ["nth", numT n, numT w]
  | .work n => ["work", numT n]
  | .workday t => ["workday", Wd.txt t]
def Pl.vals : Pl → List V
  | .days n => [.str "days", .int n]
  | .weeks n => [.str "weeks", .int n]
  | .months n => [.str "months", .int n]
  | .years n => [.str "years", .int n]
  | .over n => [.str "over", .int n]
  | .day n => [.str "day", .int n]
  | .month m => [.str "month", .int m]
  | .start u => [.str "start", .str (Un.txt u)]
  | .fin u => [.str "end", .str (Un.txt u)]
  | .towk t w => [.str (Tw.txt t), .int w]
  | .nth n w => [.str "nth", .int n, .int w]
  | .work n => [.str "work", .int n]
  | .workday t => [.str "workday", .str (Wd.txt t)]
def Pl.om : Pl → Prop
  | .day _ => True
  | .month _ => True
  | .nth _ _ => True
  | _ => False
theorem num_ok {n : Int} (h : n.natAbs < 10 ^ 12) : 32 ∉ (numT n).cps.toList ∧ (numT n).length ≤ 13 := ⟨numT_free, (numT_len h).2⟩
end
end Lw
namespace Lw
open PySem PySem.Spec PyProof.Rows L2 My
section
variable {P : Program} {w : World} {K : Fg} {mg : Str → Option Value} {base : Heap}
def sepW (s : Str) : List (List Str) → List Str
  | [] => []
  | x :: xs => x ++ xs.flatMap fun y => s :: y
def Lf.words : Lf → List Str
  | .all => ["all"]
  | .none => ["none"]
  | .work => ["work"]
  | .rest => ["rest"]
  | .wkd w => ["weekday", numT w]
  | .mon m => ["month", numT m]
  | .day n => ["day", numT n]
  | .nth n w => ["nth", numT n, numT w]
def Lf.vals : Lf → List V
  | .all => [.str "all"]
  | .none => [.str "none"]
  | .work => [.str "work"]
  | .rest => [.str "rest"]
  | .wkd w => [.str "weekday", .int w]
  | .mon m => [.str "month", .int m]
  | .day n => [.str "day", .int n]
  | .nth n w => [.str "nth", .int n, .int w]
def Pn.words : (n : Nat) → Pn n → List Str
  | 0, l => Lf.words l
  | _ + 1, .inl l => Lf.words l
  | n + 1, .inr ts => "(" :: (sepW "or" (ts.map fun t => sepW "and" (t.map fun f => List.replicate f.1 ("not" : Str) ++ Pn.words n f.2)) ++ [(")" : Str)])
def facW {n : Nat} (f : Nat × Pn n) : List Str := List.replicate f.1 ("not" : Str) ++ Pn.words n f.2
def trmW {n : Nat} (t : List (Nat × Pn n)) : List Str := sepW "and" (t.map facW)
def Cd.words {n : Nat} (c : Cd n) : List Str := sepW "or" (c.map trmW)
def parW (ws : List Str) : List Str := "(" :: (ws ++ [(")" : Str)])
/-- tuples stay -/
def KdT (H H' : Hp) : Prop := ∀ a xs, H a = some (.tup xs) → H' a = some (.tup xs)
theorem KdT.of {H H' : Hp} (s : Same H H') : KdT H H' := fun a _ e => s a _ e
theorem KdT.kx {r : Addr} {H H' : Hp} {c : Addr} {dx : Addr} {fs : List (Str × V)} (hr : H r = some (.ins c dx fs)) (k : Kx r H H') : KdT H H' := fun a xs e => k a _ e fun z => by
  rw [z, hr] at e
  cases e
theorem KdT.trans {H H1 H2 : Hp} (a : KdT H H1) (b : KdT H1 H2) : KdT H H2 := fun x xs e => b x xs (a x xs e)
theorem paired_map {α β : Type} {R S : α → β → Prop} (h : ∀ x y, R x y → S x y) : ∀ {xs : List α} {ys : List β}, Paired R xs ys → Paired S xs ys
  | _, _, .nil => .nil
  | _, _, .cons a t => .cons (h _ _ a) (paired_map h t)
/-- what is read of a row of parts: the one alone, or a tuple of them -/
def RepL (w : Str) {α : Type} (H : Hp) (R : α → V → Prop) (xs : List α) (v : V) : Prop :=
  (∃ x, xs = [x] ∧ R x v) ∨ (2 ≤ xs.length ∧ ∃ (t u : Addr) (vs : List V), v = .ref t ∧ H t = some (.tup [.str w, .ref u]) ∧ H u = some (.tup vs) ∧ Paired R xs vs)
def RepN (H : Hp) (R : V → Prop) (k : Nat) (v : V) : Prop := if k % 2 = 1 then ∃ (t : Addr) (u : V), v = .ref t ∧ H t = some (.tup [.str "not", u]) ∧ R u else R v
def RepP (H : Hp) : (n : Nat) → Pn n → V → Prop
  | 0, l, v => ∃ t, v = .ref t ∧ H t = some (.tup (Lf.vals l))
  | _ + 1, .inl l, v => ∃ t, v = .ref t ∧ H t = some (.tup (Lf.vals l))
  | n + 1, .inr ts, v => RepL "or" H (RepL "and" H fun f v => RepN H (RepP H n f.2) f.1 v) ts v
def RepF (H : Hp) {n : Nat} (f : Nat × Pn n) (v : V) : Prop := RepN H (RepP H n f.2) f.1 v
def RepT (H : Hp) {n : Nat} (t : List (Nat × Pn n)) (v : V) : Prop := RepL "and" H (RepF H) t v
def RepC (H : Hp) {n : Nat} (c : Cd n) (v : V) : Prop := RepL "or" H (RepT H) c v
theorem RepL.mono {w : Str} {α : Type} {H H' : Hp} {R R' : α → V → Prop} (k : KdT H H') (h : ∀ x v, R x v → R' x v) {xs : List α} {v : V} : RepL w H R xs v → RepL w H' R' xs v
  | .inl ⟨x, e, a⟩ => .inl ⟨x, e, h _ _ a⟩
  | .inr ⟨l, t, u, vs, e, f, g, p⟩ => .inr ⟨l, t, u, vs, e, k _ _ f, k _ _ g, paired_map h p⟩
theorem RepN.mono {H H' : Hp} {R R' : V → Prop} (k : KdT H H') (h : ∀ v, R v → R' v) {n : Nat} {v : V} (q : RepN H R n v) : RepN H' R' n v := by
  apply My.two; (focus intro zzI; simp only [↓ My.mkB zzI (by
  clear zzI
  unfold RepN at q ⊢
  split
  · next c =>
    rw [if_pos c] at q
    obtain ⟨t, u, e, f, g⟩ := q
    exact ⟨t, u, e, k _ _ f, h _ g⟩
  · next c =>
    rw [if_neg c] at q
    exact h _ q
  )]); intro f; simpa using My.gz f 5 true
theorem RepP.mono {H H' : Hp} (k : KdT H H') : ∀ (n : Nat) (p : Pn n) (v : V), RepP H n p v → RepP H' n p v
  | 0, _, _, ⟨t, e, f⟩ => ⟨t, e, k _ _ f⟩
  | _ + 1, .inl _, _, ⟨t, e, f⟩ => ⟨t, e, k _ _ f⟩
  | n + 1, .inr _, _, h => RepL.mono k (fun _ _ q => RepL.mono k (fun f _ q => RepN.mono k (fun v q => RepP.mono k n f.2 v q) q) q) h
theorem RepF.mono {H H' : Hp} (k : KdT H H') {n : Nat} {f : Nat × Pn n} {v : V} (h : RepF H f v) : RepF H' f v := RepN.mono k (fun v q => RepP.mono k n f.2 v q) h
theorem RepT.mono {H H' : Hp} (k : KdT H H') {n : Nat} {t : List (Nat × Pn n)} {v : V} (h : RepT H t v) : RepT H' t v := RepL.mono k (fun _ _ q => RepF.mono k q) h
theorem RepC.mono {H H' : Hp} (k : KdT H H') {n : Nat} {c : Cd n} {v : V} (h : RepC H c v) : RepC H' c v := RepL.mono k (fun _ _ q => RepT.mono k q) h
/-- a step that was read -/
def RepS (m : Nat) (H : Hp) : (n : Nat) → Stq m n → V → Prop
  | 0, p, v => ∃ t, v = .ref t ∧ H t = some (.tup (Pl.vals p))
  | _ + 1, .inl p, v => ∃ t, v = .ref t ∧ H t = some (.tup (Pl.vals p))
  | n + 1, .inr (.inl (k, ss)), v => ∃ (t u : Addr) (vs : List V), v = .ref t ∧ H t = some (.tup [.str "times", natV k, .ref u]) ∧ H u = some (.tup vs) ∧ Paired (fun s v => RepS m H n s v) ss vs
  | n + 1, .inr (.inr (c, as, bs)), v => ∃ (t u1 u2 : Addr) (cv : V) (v1 v2 : List V), v = .ref t ∧ H t = some (.tup [.str "if", cv, .ref u1, .ref u2]) ∧ RepC H c cv ∧ H u1 = some (.tup v1) ∧ Paired (fun s v => RepS m H n s v) as v1 ∧ H u2 = some (.tup v2) ∧ Paired (fun s v => RepS m H n s v) bs v2
theorem RepS.mono {m : Nat} {H H' : Hp} (k : KdT H H') : ∀ (n : Nat) (s : Stq m n) (v : V), RepS m H n s v → RepS m H' n s v
  | 0, _, _, ⟨t, e, f⟩ => ⟨t, e, k _ _ f⟩
  | _ + 1, .inl _, _, ⟨t, e, f⟩ => ⟨t, e, k _ _ f⟩
  | n + 1, .inr (.inl _), _, ⟨t, u, vs, e, f, g, p⟩ => ⟨t, u, vs, e, k _ _ f, k _ _ g, paired_map (fun s v q => RepS.mono k n s v q) p⟩
  | n + 1, .inr (.inr _), _, ⟨t, u1, u2, cv, v1, v2, e, f, c, g1, p1, g2, p2⟩ => ⟨t, u1, u2, cv, v1, v2, e, k _ _ f, c.mono k, k _ _ g1, paired_map (fun s v q => RepS.mono k n s v q) p1, k _ _ g2, paired_map (fun s v q => RepS.mono k n s v q) p2⟩
/-- the words behind the first parts -/
def restW (s : Str) (xs : List (List Str)) : List Str := xs.flatMap fun y => s :: y
theorem restW_cons (s : Str) (x : List Str) (xs : List (List Str)) : restW s (x :: xs) = s :: (x ++ restW s xs) := rfl
theorem Rdr.go_go (R : Rdr) (a b : Nat) : (R.go a).go b = R.go (a + b) := by
  unfold Rdr.go
  simp only [Nat.add_assoc]
end
end Lw
end
section
local macro_rules | `(tactic| fail "k") => `(tactic| first | (refine My.Kx.trans (My.kx_same (by assumption)) ?_; fail "k") | fail_if_success skip)
local macro_rules | `(tactic| fail "k") => `(tactic| first | (refine My.Kx.trans (by assumption) ?_; fail "k") | fail_if_success skip)
local macro_rules | `(tactic| fail "k") => `(tactic| first | exact My.Kx.refl _ | fail_if_success skip)
local macro_rules | `(tactic| fail "f") => `(tactic| first | (apply My.Same.use; (focus assumption); fail "f") | fail_if_success skip)
local macro_rules | `(tactic| fail "f") => `(tactic| first | assumption | fail_if_success skip)
local macro_rules | `(tactic| fail "a") => `(tactic| first | (apply My.szl; first | omega | (simp <;> omega)) | fail_if_success skip)
local macro_rules | `(tactic| fail "a") => `(tactic| first | (apply My.sz; first | omega | (simp <;> omega)) | fail_if_success skip)
local macro_rules | `(tactic| fail "a") => `(tactic| first | (apply My.log10 (B := 60) (by decide); omega) | fail_if_success skip)
local macro_rules | `(tactic| fail "a") => `(tactic| first | (show List.length _ ≤ _; simp; done) | fail_if_success skip)
local macro_rules | `(tactic| fail "a") => `(tactic| first | (show 0 < List.length _; simp; done) | fail_if_success skip)
local macro_rules | `(tactic| fail "a") => `(tactic| first | (apply My.mulL; omega) | fail_if_success skip)
local macro_rules | `(tactic| fail "a") => `(tactic| first | (apply My.mulR; omega) | fail_if_success skip)
local macro_rules | `(tactic| fail "a") => `(tactic| first | exact ⟨by omega, by omega⟩ | fail_if_success skip)
local macro_rules | `(tactic| fail "a") => `(tactic| first | decide | fail_if_success skip)
local macro_rules | `(tactic| fail "a") => `(tactic| first | omega | fail_if_success skip)
local macro_rules | `(tactic| fail "a") => `(tactic| first | (show L2.Same _ _; refine My.Same.via (by assumption) ?_; fail "a") | fail_if_success skip)
local macro_rules | `(tactic| fail "a") => `(tactic| first | exact L2.Same.refl _ | fail_if_success skip)
local macro_rules | `(tactic| fail "a") => `(tactic| first | (apply Or.inl; refine ⟨rfl, ?_⟩; apply Exists.intro; apply L2.SqL.of; fail "f") | fail_if_success skip)
local macro_rules | `(tactic| fail "a") => `(tactic| first | (apply My.at_add; assumption) | fail_if_success skip)
local macro_rules | `(tactic| fail "a") => `(tactic| first | (apply L2.at_of rfl; assumption) | fail_if_success skip)
local macro_rules | `(tactic| fail "a") => `(tactic| first | (apply Or.inr; fail "f") | fail_if_success skip)
local macro_rules | `(tactic| fail "a") => `(tactic| first | (apply Or.inl; fail "f") | fail_if_success skip)
local macro_rules | `(tactic| fail "a") => `(tactic| first | (apply Lw.RdAt.same; (focus assumption); fail "a") | fail_if_success skip)
local macro_rules | `(tactic| fail "a") => `(tactic| first | (apply Lw.CalAt.same; (focus assumption); fail "a") | fail_if_success skip)
local macro_rules | `(tactic| fail "a") => `(tactic| first | (apply Lw.CalX.same; (focus assumption); fail "a") | fail_if_success skip)
local macro_rules | `(tactic| fail "a") => `(tactic| first | (apply Lw.SetRows.same; (focus assumption); fail "a") | fail_if_success skip)
local macro_rules | `(tactic| fail "a") => `(tactic| first | (apply Lw.SetAt.same; (focus assumption); fail "a") | fail_if_success skip)
local macro_rules | `(tactic| fail "a") => `(tactic| first | (apply Lw.Tx.no_RD_cuts; assumption) | fail_if_success skip)
local macro_rules | `(tactic| fail "a") => `(tactic| first | (apply Lw.Tx.no_RD_with_names; assumption) | fail_if_success skip)
local macro_rules | `(tactic| fail "a") => `(tactic| first | (apply Lw.Tx.no_RD_many; assumption) | fail_if_success skip)
local macro_rules | `(tactic| fail "a") => `(tactic| first | (apply Lw.Tx.no_RD_depth; assumption) | fail_if_success skip)
local macro_rules | `(tactic| fail "a") => `(tactic| first | (apply Lw.Tx.no_RD_place; assumption) | fail_if_success skip)
local macro_rules | `(tactic| fail "a") => `(tactic| first | (apply Lw.Tx.no_RD_words; assumption) | fail_if_success skip)
local macro_rules | `(tactic| fail "a") => `(tactic| first | (apply Lw.Tx.no_RD_guide; assumption) | fail_if_success skip)
local macro_rules | `(tactic| fail "a") => `(tactic| first | (show PySem.W.notFirst _ _ _ = true; apply And.right; apply Lw.Tx.fst_RD; assumption) | fail_if_success skip)
local macro_rules | `(tactic| fail "a") => `(tactic| first | (apply Lw.Tx.cl_RD; assumption) | fail_if_success skip)
local macro_rules | `(tactic| fail "a") => `(tactic| first | (apply Lw.Tx.no_CA_works; assumption) | fail_if_success skip)
local macro_rules | `(tactic| fail "a") => `(tactic| first | (apply Lw.Tx.no_CA_turn; assumption) | fail_if_success skip)
local macro_rules | `(tactic| fail "a") => `(tactic| first | (apply Lw.Tx.no_CA_starts; assumption) | fail_if_success skip)
local macro_rules | `(tactic| fail "a") => `(tactic| first | (apply Lw.Tx.no_CA_lengths; assumption) | fail_if_success skip)
local macro_rules | `(tactic| fail "a") => `(tactic| first | (apply Lw.Tx.no_CA_free_days; assumption) | fail_if_success skip)
local macro_rules | `(tactic| fail "a") => `(tactic| first | (apply Lw.Tx.no_CA_rests; assumption) | fail_if_success skip)
local macro_rules | `(tactic| fail "a") => `(tactic| first | (apply Lw.Tx.no_CA_begins; assumption) | fail_if_success skip)
local macro_rules | `(tactic| fail "a") => `(tactic| first | (apply Lw.Tx.no_CA_days_of_week; assumption) | fail_if_success skip)
local macro_rules | `(tactic| fail "a") => `(tactic| first | (apply Lw.Tx.no_CA_all_years; assumption) | fail_if_success skip)
local macro_rules | `(tactic| fail "a") => `(tactic| first | (show PySem.W.notFirst _ _ _ = true; apply And.right; apply Lw.Tx.fst_CA; assumption) | fail_if_success skip)
local macro_rules | `(tactic| fail "a") => `(tactic| first | (apply Lw.Tx.cl_CA; assumption) | fail_if_success skip)
local macro_rules | `(tactic| fail "a") => `(tactic| first | (apply Lw.Tx.no_DS_members; assumption) | fail_if_success skip)
local macro_rules | `(tactic| fail "a") => `(tactic| first | (apply Lw.Tx.no_DS_flags; assumption) | fail_if_success skip)
local macro_rules | `(tactic| fail "a") => `(tactic| first | (show PySem.W.notFirst _ _ _ = true; apply And.right; apply Lw.Tx.fst_DS; assumption) | fail_if_success skip)
local macro_rules | `(tactic| fail "a") => `(tactic| first | (apply Lw.Tx.cl_DS; assumption) | fail_if_success skip)
local macro_rules | `(tactic| fail "a") => `(tactic| first | (show ∃ xs : List L2.V, L2.SqT _ _ _ xs; apply Exists.intro; apply L2.SqT.of; fail "f") | fail_if_success skip)
local macro_rules | `(tactic| fail "a") => `(tactic| first | (show ∃ xs : List L2.V, L2.SqL _ _ _ xs; apply Exists.intro; apply L2.SqL.of; fail "f") | fail_if_success skip)
local macro_rules | `(tactic| fail "a") => `(tactic| first | (apply Or.inr; apply L2.SqT.of; fail "f") | fail_if_success skip)
local macro_rules | `(tactic| fail "a") => `(tactic| first | (apply Or.inl; apply L2.SqL.of; fail "f") | fail_if_success skip)
local macro_rules | `(tactic| fail "a") => `(tactic| first | (apply L2.SqT.of; fail "f") | fail_if_success skip)
local macro_rules | `(tactic| fail "a") => `(tactic| first | (apply L2.SqL.of; fail "f") | fail_if_success skip)
local macro_rules | `(tactic| fail "a") => `(tactic| first | (show _ = some _; fail "f") | fail_if_success skip)
local macro_rules | `(tactic| fail "a") => `(tactic| first | assumption | fail_if_success skip)
local macro_rules | `(tactic| fail "a") => `(tactic| first | ((with_reducible show (_ : Int) ≤ _); omega) | fail_if_success skip)
local macro_rules | `(tactic| fail "a") => `(tactic| first | ((with_reducible show (_ : Int) < _); omega) | fail_if_success skip)
local macro_rules | `(tactic| fail "a") => `(tactic| first | with_reducible assumption | fail_if_success skip)
local macro_rules | `(tactic| fail "a") => `(tactic| first | exact rfl | fail_if_success skip)
local macro_rules | `(tactic| fail "c") => `(tactic| first | (apply And.intro; (focus fail "a")) | fail_if_success skip)
local macro_rules | `(tactic| fail "c") => `(tactic| first | (apply Exists.intro; fail "c") | fail_if_success skip)
local macro_rules | `(tactic| rfl') => `(tactic| first | skip | fail_if_success skip)
local macro_rules | `(tactic| rfl') => `(tactic| first | ((with_reducible refine L2.iteF ?_); rfl') | fail_if_success skip)
local macro_rules | `(tactic| rfl') => `(tactic| first | ((with_reducible refine L2.iteT ?_); rfl') | fail_if_success skip)
local macro_rules | `(tactic| rfl') => `(tactic| first | (intro H' (s : L2.Same _ _); rfl') | fail_if_success skip)
local macro_rules | `(tactic| rfl') => `(tactic| first | (intro o H' (s : L2.Same _ _) ho; rfl') | fail_if_success skip)
local macro_rules | `(tactic| rfl') => `(tactic| first | (intro p hp; generalize e : L2.upd _ _ _ = H'; (fail_if_success (refine @Exists.intro (Nat → _) _ ?_ ?_)); (have s := My.newS e hp); (have f := My.newO e); clear e; rfl') | fail_if_success skip)
local macro_rules | `(tactic| rfl') => `(tactic| first | (fail "c"; rfl') | fail_if_success skip)
namespace Lw
open PySem PySem.Spec PyProof.Rows L2 My
section
variable {P : Program} {w : World} {K : Fg} {mg : Str → Option Value} {base : Heap}
def sp_num (K : Fg) : Sp := fun vs H Q _ => ∃ n : Int, vs = [.str (numT n), .int 12] ∧ n.natAbs < 10 ^ 12 ∧ ∀ H' : Hp, Same H H' → Q (.int n) H'
theorem ok_number_in (T : Tx K mg) : FnR P w K mg base CX0 1 (He.ga K "number_in") (sp_num K) := by
  apply My.two; (focus intro zzI; simp only [↓ My.mkB zzI (by
  clear zzI
  refine (T.fnR 51 (st := s_number_in) (at_ := fun K => He.ga K "number_in") rfl sc_number_in (fun _ _ _ _ _ _ us hl => match us, hl with | [_, _], _ => rfl)) (fun vs H Q E h => ?_) (fun cdv A outer s H vs Q E hr h => ?_)
  · obtain ⟨i, rfl, _⟩ := h
    rfl
  · obtain ⟨n, rfl, hi, k⟩ := h
    refine ⟨_, (pss_cons (ps_set (i := 2) sc_number_in.nd rfl (Or.inl rfl) (pe_ifExp (pt_cmpR op_eq (pe_slice sl_str (pv 0) po_none (po_some pe_int)) pe_str (nomark _)) (pe_slice sl_str (pv 0) (po_some pe_int) po_none) (pv 0)))
 (pss_cons (ps_if (PW.pt (pw_or (pt_not (pt_chain op_le op_le pe_int (pe_callB call_len (by rfl) T.n_len (by decide +kernel) (pa_cons (pv 2) pa_nil)) (pv 1))) (pw_or1 (pt_not (pt_val (pe_callB (all_k T rfl) (by rfl) T.n_all (by decide +kernel) (pa_cons (pe_lc (own := [("sign", 3)]) rfl sc_number_in.nd (pi_str (pv 2)) (blkOk_by (own := [("sign", 3)]) (N := N_number_in) (sc := defScope s_number_in) (by decide +kernel)) (fun _ _ _ _ _ => (pg_name (i := 3) sc_number_in.nd rfl (Or.inl rfl))) (fun _ _ _ _ _ => pts_nil) (fun _ _ _ _ _ => (pe_cmpR op_in_str (pv 3) (pe_glob (v := .str "0123456789") rfl (T.g_DIGITS).choose_spec ⟨_, rfl⟩) (by rfl)))) pa_nil)))))))
 (pss_one (ps_ret pe_non))
 pss_nil)
 (pss_one (ps_ret (pe_ifExp (PW.pt (pw_or (pt_cmpR op_eq (pv 0) pe_str (nomark _)) (pw_or1 (pt_cmpR op_ne (pe_ix ix_str (pv 2) pe_int (fun _ _ => rfl)) pe_str (nomark _))))) (pe_callTy call_int_str (by rfl) T.n_int (by decide +kernel) (pa_cons (pv 0) pa_nil)) pe_non))))), ?_⟩
    have al : ∀ n : Nat, (List.replicate n true).all id = true := fun n => by simp
    by_cases hn : n < 0
    case' pos =>
      obtain ⟨m, rfl⟩ : ∃ m : Nat, n = -(m : Int) := ⟨n.natAbs, by omega⟩
      have nn := num_n m (by omega) (by omega)
      obtain ⟨c0, cs, nw⟩ := num_d m (by omega)
      have hit := nn.it
      have hwl := nn.l
      have hz : numT (-(m : Int)) = "0" ∨ (⟨#[c0]⟩ : Str) ≠ "0" := .inr (nw.fz.resolve_left fun z => by
        have it := nw.it
        rw [z, show intText? "0" = some 0 by decide +kernel] at it
        have := Option.some.inj it
        omega)
      have mi := nn.mi
      have re := nn.re
      clear nn
      generalize numT (-(m : Int)) = W at hit hwl hz mi re k ⊢
      rw [← re] at nw
      clear re
      rfl'
      rw [str_yes mi]
      refine iteT ?_
      have l1 : (1 : Int) ≤ ((cutS W (some 1) none).length : Int) := by
        have := nw.l
        omega
      have l12 : ((cutS W (some 1) none).length : Int) ≤ 12 := by
        have := nw.l
        have := nw.l2
        omega
    case' neg =>
      obtain ⟨m, rfl⟩ : ∃ m : Nat, n = (m : Int) := ⟨n.natAbs, by omega⟩
      obtain ⟨c0, cs, nw⟩ := num_d m (by omega)
      have hit := nw.it
      have hwl : (numT (m : Int)).length ≤ 13 := by
        have := nw.l
        have := nw.l2
        omega
      have hz := nw.fz
      have mi := nw.mi
      generalize numT (m : Int) = W at hit hwl hz mi nw k ⊢
      rfl'
      rw [str_no mi]
      refine iteF ?_
      have l1 : (1 : Int) ≤ (W.length : Int) := by
        have := nw.l
        omega
      have l12 : (W.length : Int) ≤ 12 := by
        have := nw.l
        have := nw.l2
        omega
    all_goals
      have wl1 := nw.l
      have wl2 := nw.l2
      rfl'
      refine ⟨⟨Nat.le_trans (show _ ≤ 12 by omega) (by decide), rfl⟩, ?_⟩
      rfl'
      rw [if_pos (decide_eq_true l1)]
      rfl'
      rw [decide_eq_true l12]
      rfl'
      intro D hD
      refine walk_w walk_str (fun j H' => Same H H' ∧ H' D = some (.lst (List.replicate j (V.bl true)))) ⟨same_upd hD, upd_same⟩ (fun j H' _ h => trivial) ?_ ?_
      · rintro j x _ H1 hj ⟨s1, e1⟩ ⟨rfl, c, ec, rfl⟩
        refine ⟨rfl, ?_⟩
        refine yes_t ?_
        rfl'
        have cm : c ∈ c0 :: cs := by
          rw [← nw.e]
          exact List.mem_of_getElem? (by rw [Array.getElem?_toList]; exact ec)
        rw [(nw.dg c cm).2.2]
        have jl : j < cs.length + 1 := by
          rw [← wl1]
          exact hj
        refine ⟨by rw [List.length_replicate, sizeLine_eq]; omega, same_under s1 hD, ?_⟩
        rw [upd_same, List.replicate_succ']
      rintro H1 ⟨s1, e1⟩
      rw [← List.map_replicate (f := V.bl) (a := true)] at e1
      rfl'
      rw [al]
      rfl'
      have fin := k _ s1
      by_cases hz0 : W = "0"
      · rw [str_yes hz0]
        rfl'
        exact fin
      have n0 := hz.resolve_left hz0
      rw [str_no hz0]
      rfl'
      refine ⟨by rw [nw.e]; exact atI_nat (j := 0) rfl, ?_⟩
      refine ⟨rfl, _, rfl, ?_⟩
      dsimp only
      rw [str_no n0]
      rfl'
      exact fin
  )]); intro f; simpa using My.gz f 5 true
theorem c_number_in {X : Cx} {k : Nat} {t : TA} {e : Expr} {es : List Expr} {np pos : Pos} (T : Tx K mg) (hr : Room k X.A) (ha : PA X (e :: es) t) (hk : 1 ≤ k := by decide) (hK : X.K = K := by rfl) (hm : X.mg = mg := by rfl)
    (hg : Gl X "number_in" := by rfl) (hse : starEach (e :: es) X.env = (false, eval e X.env) :: starEach es X.env := by rfl) (hpl : (backTo pos (starEach es X.env)).any (·.1) = false := by rfl) :
    PE X (.Call (.Name "number_in" np) (e :: es) [] pos) (tFn (sp_num K) E0 t) := by
  subst hK
  subst hm
  exact pe_fR (ok_number_in T) T.kp_number_in T.g_number_in (hr.mono hk) pass0 ha hg (by decide) hse hpl
def sp_ris (K : Fg) : Sp := fun vs H Q _ => ∃ (r : Addr) (R : Rdr) (ws : List Str) (x : Str), vs = [.ref r, .str x] ∧ RdAt K H r R ws ∧ Q (.bl (decide (ws.head? = some x))) H
theorem okR_is_next (T : Tx K mg) : FnR P w K mg base CX0 1 (He.ma K (RD K) "is_next") (sp_ris K) := by
  apply My.two; (focus intro zzI; simp only [↓ My.mkB zzI (by
  clear zzI
  refine (T.fnR 26 (st := s_Reader_is_next) (at_ := fun K => He.ma K (He.ga K "Reader") "is_next") rfl sc_Reader_is_next (fun _ _ _ _ _ _ us hl => match us, hl with | [_, _], _ => rfl)) (fun vs H Q E h => ?_) (fun cdv A outer s H vs Q E hr h => ?_)
  · obtain ⟨r, R, ws, x, rfl, _⟩ := h
    rfl
  · obtain ⟨r, R, ws, x, rfl, hR, q⟩ := h
    refine ⟨_, (pss_one (ps_ret (pe_and (pe_cmpR op_lt (fld T (pv 0)) (pe_callB (len_k T) (by rfl) T.n_len (by decide +kernel) (pa_cons (fld T (pv 0)) pa_nil)) (nomark _)) (pe_one (pe_cmpR op_eq (pe_ix (ixl T) (fld T (pv 0)) (fld T (pv 0)) (fun _ _ => rfl)) (pv 1) (nomark _)))))), ?_⟩
    have ho := hR.o
    have hw := hR.w
    have L : (R.W.map V.str).length = R.W.length := List.length_map ..
    rfl'
    rw [L]
    cases ws with
    | nil =>
      have : ¬ R.p < R.W.length := fun z => by
        have e := hR.r
        rw [List.drop_eq_getElem_cons z] at e
        cases e
      rw [if_neg (fun z => this (by have := of_decide_eq_true z; omega))]
      exact q
    | cons y ws =>
      have lt := (drop_at hR.r).1
      have hat := hR.at_
      rw [if_pos (decide_eq_true (show (R.p : Int) < (R.W.length : Int) by omega))]
      rfl'
      have e : decide (V.str y = V.str x) = decide ((y :: ws).head? = some x) := by
        by_cases c : y = x
        · rw [str_yes c, c]
          simp
        · rw [str_no c]
          simp [c]
      rw [e]
      exact q
  )]); intro f; simpa using My.gz f 5 true
theorem mR_is_next {X : Cx} {k : Nat} {o e : Expr} {es : List Expr} {ta : TE} {t : TA} {apos pos : Pos} {pl : Sem Bool} (T : Tx K mg) (hr : Room k X.A) (he : PE X o ta) (ha : PA X (e :: es) t) (hk : 1 ≤ k := by decide) (hK : X.K = K := by rfl) (hm : X.mg = mg := by rfl)
    (hst : starEach (e :: es) X.env = (false, eval e X.env) :: starEach es X.env := by rfl) (hpl : (backTo pos (starEach es X.env)).any (·.1) = false := by rfl)
    (ht : eval (.Call (.Attribute o "is_next" apos) (e :: es) [] pos) X.env = (do
      let ov ← eval o X.env
      standAt apos.atName
      let (f, first) ← holding [ov] (getMethod ov "is_next" pl)
      callWith pos f first (backTo pos (starEach (e :: es) X.env)) (backToKw pos (keywordEach [] X.env))) := by rfl) :
    PE X (.Call (.Attribute o "is_next" apos) (e :: es) [] pos) (tMethR (RD K) "is_next" (sp_ris K) E0 ta t) := by
  subst hK
  subst hm
  exact pe_methR he T.cl_RD T.me_RD_is_next (okR_is_next T) (hr.mono hk) pass0 ha hst hpl ht
def sp_rtk (K : Fg) : Sp := fun vs H Q _ => ∃ (r : Addr) (R : Rdr) (ws : List Str) (x : Str), vs = [.ref r] ∧ RdAt K H r R (x :: ws) ∧ ∀ H' : Hp, Kx r H H' → RdAt K H' r (R.go 1) ws → Q (.str x) H'
theorem okR_taken (T : Tx K mg) : FnR P w K mg base CX0 1 (He.ma K (RD K) "taken") (sp_rtk K) := by
  apply My.two; (focus intro zzI; simp only [↓ My.mkB zzI (by
  clear zzI
  refine (T.fnR 27 (st := s_Reader_taken) (at_ := fun K => He.ma K (He.ga K "Reader") "taken") rfl sc_Reader_taken (fun _ _ _ _ _ _ us hl => match us, hl with | [_], _ => rfl)) (fun vs H Q E h => ?_) (fun cdv A outer s H vs Q E hr h => ?_)
  · obtain ⟨r, R, ws, x, rfl, _⟩ := h
    rfl
  · obtain ⟨r, R, ws, x, rfl, hR, k⟩ := h
    refine ⟨_, (pss_cons (ps_if (pt_cmpR op_eq (fld T (pv 0)) (pe_callB (len_k T) (by rfl) T.n_len (by decide +kernel) (pa_cons (fld T (pv 0)) pa_nil)) (nomark _))
 (pss_one ps_never)
 pss_nil)
 (pss_cons (ps_fldaug (pv 0) pe_int in_add)
 (pss_one (ps_ret (pe_ix (ixl T) (fld T (pv 0)) (pe_op op_sub (fld T (pv 0)) pe_int) (fun _ _ => rfl)))))), ?_⟩
    have ho := hR.o
    have hw := hR.w
    have L : (R.W.map V.str).length = R.W.length := List.length_map ..
    have lt := (drop_at hR.r).1
    have hat := hR.at_
    rfl'
    rw [show decide (natV R.p = V.int ((R.W.map V.str).length : Int)) = false from decide_eq_false fun z => by
      have := V.int.inj z
      omega]
    rfl'
    refine ⟨show 7 < 1000 by decide, ?_⟩
    obtain ⟨h1, k1⟩ := hR.one (Kx.refl H) ho
    generalize upd H r _ = H1 at h1 k1 ⊢
    have ho1 := h1.o
    have hw1 : H1 R.wd = some (.lst (R.W.map V.str)) := h1.w
    have hat1 : atI (R.W.map V.str) ((((R.p + 1 : Nat) : Int)) - 1) = some (.str x) := by
      rw [show (((R.p + 1 : Nat) : Int)) - 1 = (R.p : Int) by omega]
      exact hat
    rfl'
    exact k _ k1 h1
  )]); intro f; simpa using My.gz f 5 true
theorem mR_taken {X : Cx} {k : Nat} {o : Expr} {ta : TE} {apos pos : Pos} {pl : Sem Bool} (T : Tx K mg) (hr : Room k X.A) (he : PE X o ta) (hk : 1 ≤ k := by decide) (hK : X.K = K := by rfl) (hm : X.mg = mg := by rfl)
    (ht : eval (.Call (.Attribute o "taken" apos) [] [] pos) X.env = (do
      let ov ← eval o X.env
      standAt apos.atName
      let (f, first) ← holding [ov] (getMethod ov "taken" pl)
      callWith pos f first (backTo pos (starEach [] X.env)) (backToKw pos (keywordEach [] X.env))) := by rfl) :
    PE X (.Call (.Attribute o "taken" apos) [] [] pos) (tMethR (RD K) "taken" (sp_rtk K) E0 ta tNil) := by
  subst hK
  subst hm
  exact pe_m0R he T.cl_RD T.me_RD_taken (okR_taken T) (hr.mono hk) pass0 ht
def sp_rno (K : Fg) : Sp := fun vs H Q _ => ∃ (r : Addr) (R : Rdr) (ws : List Str) (n : Int), vs = [.ref r] ∧ RdAt K H r R (numT n :: ws) ∧ n.natAbs < 10 ^ 12 ∧ ∀ H' : Hp, Kx r H H' → RdAt K H' r (R.go 1) ws → Q (.int n) H'
theorem okR_read_number (T : Tx K mg) : FnR P w K mg base CX0 2 (He.ma K (RD K) "read_number") (sp_rno K) := by
  apply My.two; (focus intro zzI; simp only [↓ My.mkB zzI (by
  clear zzI
  refine (T.fnR 29 (st := s_Reader_read_number) (at_ := fun K => He.ma K (He.ga K "Reader") "read_number") rfl sc_Reader_read_number (fun _ _ _ _ _ _ us hl => match us, hl with | [_], _ => rfl)) (fun vs H Q E h => ?_) (fun cdv A outer s H vs Q E hr h => ?_)
  · obtain ⟨r, R, ws, n, rfl, _⟩ := h
    rfl
  · obtain ⟨r, R, ws, n, rfl, hR, nb, k⟩ := h
    refine ⟨_, (pss_cons (ps_set (i := 1) sc_Reader_read_number.nd rfl (Or.inl rfl) (pe_ifExp (pt_cmpR op_lt (fld T (pv 0)) (pe_callB (len_k T) (by rfl) T.n_len (by decide +kernel) (pa_cons (fld T (pv 0)) pa_nil)) (nomark _)) (c_number_in T hr (pa_cons (pe_ix (ixl T) (fld T (pv 0)) (fld T (pv 0)) (fun _ _ => rfl)) (pa_cons (pe_glob (v := .int 12) rfl (T.g_MOST_DIGITS).choose_spec ⟨_, rfl⟩) pa_nil))) pe_non))
 (pss_cons (ps_if (pt_cmpR op_isN (pv 1) pe_non (nomark _))
 (pss_one ps_never)
 pss_nil)
 (pss_cons (ps_fldaug (pv 0) pe_int in_add)
 (pss_one (ps_ret (pv 1)))))), ?_⟩
    have ho := hR.o
    have hw := hR.w
    have L : (R.W.map V.str).length = R.W.length := List.length_map ..
    have lt := (drop_at hR.r).1
    have hat := hR.at_
    rfl'
    rw [decide_eq_true (show (R.p : Int) < ((R.W.map V.str).length : Int) by omega)]
    refine iteT ?_
    rfl'
    rename_i H1 s1
    have ho1 := s1 _ _ ho
    rfl'
    refine ⟨show 7 < 1000 by decide, ?_⟩
    obtain ⟨h1, k1⟩ := hR.one (kx_same s1) ho1
    generalize upd H1 r _ = H2 at h1 k1 ⊢
    rfl'
    exact k _ k1 h1
  )]); intro f; simpa using My.gz f 5 true
theorem mR_read_number {X : Cx} {k : Nat} {o : Expr} {ta : TE} {apos pos : Pos} {pl : Sem Bool} (T : Tx K mg) (hr : Room k X.A) (he : PE X o ta) (hk : 2 ≤ k := by decide) (hK : X.K = K := by rfl) (hm : X.mg = mg := by rfl)
    (ht : eval (.Call (.Attribute o "read_number" apos) [] [] pos) X.env = (do
      let ov ← eval o X.env
      standAt apos.atName
      let (f, first) ← holding [ov] (getMethod ov "read_number" pl)
      callWith pos f first (backTo pos (starEach [] X.env)) (backToKw pos (keywordEach [] X.env))) := by rfl) :
    PE X (.Call (.Attribute o "read_number" apos) [] [] pos) (tMethR (RD K) "read_number" (sp_rno K) E0 ta tNil) := by
  subst hK
  subst hm
  exact pe_m0R he T.cl_RD T.me_RD_read_number (okR_read_number T) (hr.mono hk) pass0 ht
theorem RdAt.rw {H : Hp} {r : Addr} {R : Rdr} {ws : List Str} (h : RdAt K H r R ws) : H R.wd = some (.lst (R.W.map V.str)) := h.w
def sp_rbd (K : Fg) : Sp := fun vs H Q _ => ∃ (r : Addr) (R : Rdr) (ws : List Str) (n lo hi : Int), vs = [.ref r, .int lo, .int hi] ∧ RdAt K H r R (numT n :: ws) ∧ n.natAbs < 10 ^ 12 ∧ lo ≤ n ∧ n ≤ hi ∧ (lo < 0 → n ≠ 0) ∧ ∀ H' : Hp, Kx r H H' → RdAt K H' r (R.go 1) ws → Q (.int n) H'
theorem okR_bounded (T : Tx K mg) : FnR P w K mg base CX0 3 (He.ma K (RD K) "bounded") (sp_rbd K) := by
  apply My.two; (focus intro zzI; simp only [↓ My.mkB zzI (by
  clear zzI
  refine (T.fnR 30 (st := s_Reader_bounded) (at_ := fun K => He.ma K (He.ga K "Reader") "bounded") rfl sc_Reader_bounded (fun _ _ _ _ _ _ us hl => match us, hl with | [_, _, _], _ => rfl)) (fun vs H Q E h => ?_) (fun cdv A outer s H vs Q E hr h => ?_)
  · obtain ⟨r, R, ws, n, lo, hi, rfl, _⟩ := h
    rfl
  · obtain ⟨r, R, ws, n, lo, hi, rfl, hR, nb, b1, b2, b3, k⟩ := h
    refine ⟨_, (pss_cons (ps_set (i := 3) sc_Reader_bounded.nd rfl (Or.inl rfl) (mR_read_number T hr (pv 0)))
 (pss_cons (ps_if (PW.pt (pw_or (pt_not (pt_chain op_le op_le (pv 1) (pv 3) (pv 2))) (pw_or1 (PW.pt (pw_and (pt_cmpR op_lt (pv 1) pe_int (nomark _)) (pw_and1 (pt_cmpR op_eq (pv 3) pe_int (nomark _))))))))
 (pss_cons ps_never
 (pss_one ps_never))
 pss_nil)
 (pss_one (ps_ret (pv 3))))), ?_⟩
    have ho := hR.o
    rfl'
    intro H1 k1 h1
    rfl'
    rw [if_pos (decide_eq_true b1)]
    rfl'
    rw [decide_eq_true b2]
    rfl'
    by_cases c : lo < 0
    · rw [decide_eq_true c]
      refine iteT ?_
      rfl'
      rw [show decide (V.int n = V.int 0) = false from decide_eq_false fun z => b3 c (V.int.inj z)]
      rfl'
      exact k _ k1 h1
    · rw [decide_eq_false c]
      refine iteF ?_
      rfl'
      exact k _ k1 h1
  )]); intro f; simpa using My.gz f 5 true
theorem mR_bounded {X : Cx} {k : Nat} {o e : Expr} {es : List Expr} {ta : TE} {t : TA} {apos pos : Pos} {pl : Sem Bool} (T : Tx K mg) (hr : Room k X.A) (he : PE X o ta) (ha : PA X (e :: es) t) (hk : 3 ≤ k := by decide) (hK : X.K = K := by rfl) (hm : X.mg = mg := by rfl)
    (hst : starEach (e :: es) X.env = (false, eval e X.env) :: starEach es X.env := by rfl) (hpl : (backTo pos (starEach es X.env)).any (·.1) = false := by rfl)
    (ht : eval (.Call (.Attribute o "bounded" apos) (e :: es) [] pos) X.env = (do
      let ov ← eval o X.env
      standAt apos.atName
      let (f, first) ← holding [ov] (getMethod ov "bounded" pl)
      callWith pos f first (backTo pos (starEach (e :: es) X.env)) (backToKw pos (keywordEach [] X.env))) := by rfl) :
    PE X (.Call (.Attribute o "bounded" apos) (e :: es) [] pos) (tMethR (RD K) "bounded" (sp_rbd K) E0 ta t) := by
  subst hK
  subst hm
  exact pe_methR he T.cl_RD T.me_RD_bounded (okR_bounded T) (hr.mono hk) pass0 ha hst hpl ht
def sp_rwk (K : Fg) : Sp := fun vs H Q _ => ∃ (r : Addr) (R : Rdr) (ws : List Str) (n : Int) (C : Cal), vs = [.ref r] ∧ RdAt K H r R (numT n :: ws) ∧ CalX K H R.c C ∧ 0 ≤ n ∧ n < (C.week : Int) ∧ ∀ H' : Hp, Kx r H H' → RdAt K H' r (R.go 1) ws → Q (.int n) H'
theorem okR_read_weekday (T : Tx K mg) : FnR P w K mg base CX0 4 (He.ma K (RD K) "read_weekday") (sp_rwk K) := by
  apply My.two; (focus intro zzI; simp only [↓ My.mkB zzI (by
  clear zzI
  refine (T.fnR 31 (st := s_Reader_read_weekday) (at_ := fun K => He.ma K (He.ga K "Reader") "read_weekday") rfl sc_Reader_read_weekday (fun _ _ _ _ _ _ us hl => match us, hl with | [_], _ => rfl)) (fun vs H Q E h => ?_) (fun cdv A outer s H vs Q E hr h => ?_)
  · obtain ⟨r, R, ws, n, C, rfl, _⟩ := h
    rfl
  · obtain ⟨r, R, ws, n, C, rfl, hR, hX, b1, b2, k⟩ := h
    refine ⟨_, (pss_one (ps_ret (mR_bounded T hr (pv 0) (pa_cons pe_int (pa_cons (pe_op op_sub (pC_week T hr (fld T (pv 0))) pe_int) pa_nil))))), ?_⟩
    have ho := hR.o
    obtain ⟨ws2, hw, dx, ay, rr, fr, l, st, hc, B, ok⟩ := id hX
    have w1 := ok.w1
    rfl'
    exact k
  )]); intro f; simpa using My.gz f 5 true
theorem mR_read_weekday {X : Cx} {k : Nat} {o : Expr} {ta : TE} {apos pos : Pos} {pl : Sem Bool} (T : Tx K mg) (hr : Room k X.A) (he : PE X o ta) (hk : 4 ≤ k := by decide) (hK : X.K = K := by rfl) (hm : X.mg = mg := by rfl)
    (ht : eval (.Call (.Attribute o "read_weekday" apos) [] [] pos) X.env = (do
      let ov ← eval o X.env
      standAt apos.atName
      let (f, first) ← holding [ov] (getMethod ov "read_weekday" pl)
      callWith pos f first (backTo pos (starEach [] X.env)) (backToKw pos (keywordEach [] X.env))) := by rfl) :
    PE X (.Call (.Attribute o "read_weekday" apos) [] [] pos) (tMethR (RD K) "read_weekday" (sp_rwk K) E0 ta tNil) := by
  subst hK
  subst hm
  exact pe_m0R he T.cl_RD T.me_RD_read_weekday (okR_read_weekday T) (hr.mono hk) pass0 ht
def sp_rom (K : Fg) : Sp := fun vs H Q _ => ∃ (r : Addr) (R : Rdr) (ws w1 : List Str) (s : Str) (pl : Pl) (C : Cal), vs = [.ref r, .str s] ∧ Pl.words pl = s :: w1 ∧ Pl.om pl ∧ RdAt K H r R (w1 ++ ws) ∧ CalX K H R.c C ∧ pl.ok C ∧
  ∀ (t : Addr) (H' : Hp), Kx r H H' → RdAt K H' r (R.go w1.length) ws → H' t = some (.tup (Pl.vals pl)) → Q (.ref t) H'
theorem okR_of_month (T : Tx K mg) : FnR P w K mg base CX0 5 (He.ma K (RD K) "of_month") (sp_rom K) := by
  apply My.two; (focus intro zzI; simp only [↓ My.mkB zzI (by
  clear zzI
  refine (T.fnR 35 (st := s_Reader_of_month) (at_ := fun K => He.ma K (He.ga K "Reader") "of_month") rfl sc_Reader_of_month (fun _ _ _ _ _ _ us hl => match us, hl with | [_, _], _ => rfl)) (fun vs H Q E h => ?_) (fun cdv A outer s H vs Q E hr h => ?_)
  · obtain ⟨r, R, ws, w1, s, pl, C, rfl, _⟩ := h
    rfl
  · obtain ⟨r, R, ws, w1, s, pl, C, rfl, ew, om, hR, hX, ok, k⟩ := h
    refine ⟨_, (pss_cons (ps_if (pt_cmpR op_eq (pv 1) pe_str (nomark _))
 (pss_one (ps_ret (pe_tup (pa_cons (pv 1) (pa_cons (mR_bounded T hr (pv 0) (pa_cons pe_int (pa_cons (pC_months T hr (fld T (pv 0))) pa_nil))) pa_nil)))))
 pss_nil)
 (pss_cons (ps_set (i := 2) sc_Reader_of_month.nd rfl (Or.inl rfl) (mR_bounded T hr (pv 0) (pa_cons (pe_un un_neg (pe_glob (v := .int 40) rfl (T.g_MAX_DAYS).choose_spec ⟨_, rfl⟩)) (pa_cons (pe_glob (v := .int 40) rfl (T.g_MAX_DAYS).choose_spec ⟨_, rfl⟩) pa_nil))))
 (pss_one (ps_ret (pe_ifExp (pt_cmpR op_eq (pv 1) pe_str (nomark _)) (pe_tup (pa_cons (pv 1) (pa_cons (pv 2) pa_nil))) (pe_tup (pa_cons (pv 1) (pa_cons (pv 2) (pa_cons (mR_read_weekday T hr (pv 0)) pa_nil))))))))), ?_⟩
    have ho := hR.o
    obtain ⟨ws2, hw, dx, ay, rr, fr, l, st, hc, B, ok2⟩ := id hX
    have m1 := ok2.m1
    cases pl
    all_goals try exact absurd om id
    · rename_i n
      obtain ⟨rfl, rfl⟩ := List.cons.inj ew
      obtain ⟨b0, b1⟩ := ok
      rfl'
      intro H1 k1 h1
      rfl'
      exact k _ _ (k1.trans (kx_same (by assumption))) (h1.same (by assumption)) (by assumption)
    · rename_i n
      obtain ⟨rfl, rfl⟩ := List.cons.inj ew
      obtain ⟨b0, b1⟩ := ok
      rfl'
      intro H1 k1 h1
      rfl'
      exact k _ _ (k1.trans (kx_same (by assumption))) (h1.same (by assumption)) (by assumption)
    · rename_i n w2
      obtain ⟨rfl, rfl⟩ := List.cons.inj ew
      obtain ⟨b0, b1, b2, b3⟩ := ok
      rfl'
      intro H1 k1 h1
      replace h1 : RdAt K H1 r (R.go 1) (numT w2 :: ws) := h1
      have hX1 : CalX K H1 (R.go 1).c C := hX.keep ho k1
      have ho1 := h1.o
      rfl'
      intro H2 k2 h2
      rfl'
      exact k _ _ (k1.trans (k2.trans (kx_same (by assumption)))) (h2.same (by assumption)) (by assumption)
  )]); intro f; simpa using My.gz f 5 true
theorem mR_of_month {X : Cx} {k : Nat} {o e : Expr} {es : List Expr} {ta : TE} {t : TA} {apos pos : Pos} {pl : Sem Bool} (T : Tx K mg) (hr : Room k X.A) (he : PE X o ta) (ha : PA X (e :: es) t) (hk : 5 ≤ k := by decide) (hK : X.K = K := by rfl) (hm : X.mg = mg := by rfl)
    (hst : starEach (e :: es) X.env = (false, eval e X.env) :: starEach es X.env := by rfl) (hpl : (backTo pos (starEach es X.env)).any (·.1) = false := by rfl)
    (ht : eval (.Call (.Attribute o "of_month" apos) (e :: es) [] pos) X.env = (do
      let ov ← eval o X.env
      standAt apos.atName
      let (f, first) ← holding [ov] (getMethod ov "of_month" pl)
      callWith pos f first (backTo pos (starEach (e :: es) X.env)) (backToKw pos (keywordEach [] X.env))) := by rfl) :
    PE X (.Call (.Attribute o "of_month" apos) (e :: es) [] pos) (tMethR (RD K) "of_month" (sp_rom K) E0 ta t) := by
  subst hK
  subst hm
  exact pe_methR he T.cl_RD T.me_RD_of_month (okR_of_month T) (hr.mono hk) pass0 ha hst hpl ht
def sp_rfi (K : Fg) : Sp := fun vs H Q _ => ∃ (r : Addr) (R : Rdr), vs = [.ref r] ∧ RdAt K H r R [] ∧ R.m ≤ 60 ∧ Q .non H
theorem okR_finish (T : Tx K mg) : FnR P w K mg base CX0 2 (He.ma K (RD K) "finish") (sp_rfi K) := by
  apply My.two; (focus intro zzI; simp only [↓ My.mkB zzI (by
  clear zzI
  refine (T.fnR 40 (st := s_Reader_finish) (at_ := fun K => He.ma K (He.ga K "Reader") "finish") rfl sc_Reader_finish (fun _ _ _ _ _ _ us hl => match us, hl with | [_], _ => rfl)) (fun vs H Q E h => ?_) (fun cdv A outer s H vs Q E hr h => ?_)
  · obtain ⟨r, R, rfl, _⟩ := h
    rfl
  · obtain ⟨r, R, rfl, hR, m60, q⟩ := h
    refine ⟨_, (pss_cons (ps_if (pt_cmpR op_lt (fld T (pv 0)) (pe_callB (len_k T) (by rfl) T.n_len (by decide +kernel) (pa_cons (fld T (pv 0)) pa_nil)) (nomark _))
 (pss_one ps_never)
 pss_nil)
 (pss_one (ps_if (pt_cmpR op_gt (fld T (pv 0)) (pe_glob (v := .int 60) rfl (T.g_MAX_STEPS).choose_spec ⟨_, rfl⟩) (nomark _))
 (pss_one ps_never)
 pss_nil))), ?_⟩
    have ho := hR.o
    have hw := hR.w
    have L : (R.W.map V.str).length = R.W.length := List.length_map ..
    have lt : ¬ R.p < R.W.length := fun z => by
      have e := hR.r
      rw [List.drop_eq_getElem_cons z] at e
      cases e
    rfl'
    rw [L, decide_eq_false (show ¬ (R.p : Int) < (R.W.length : Int) by omega)]
    rfl'
    rw [decide_eq_false (show ¬ (60 : Int) < (R.m : Int) by omega)]
    rfl'
    exact q
  )]); intro f; simpa using My.gz f 5 true
theorem mR_finish {X : Cx} {k : Nat} {o : Expr} {ta : TE} {apos pos : Pos} {pl : Sem Bool} (T : Tx K mg) (hr : Room k X.A) (he : PE X o ta) (hk : 2 ≤ k := by decide) (hK : X.K = K := by rfl) (hm : X.mg = mg := by rfl)
    (ht : eval (.Call (.Attribute o "finish" apos) [] [] pos) X.env = (do
      let ov ← eval o X.env
      standAt apos.atName
      let (f, first) ← holding [ov] (getMethod ov "finish" pl)
      callWith pos f first (backTo pos (starEach [] X.env)) (backToKw pos (keywordEach [] X.env))) := by rfl) :
    PE X (.Call (.Attribute o "finish" apos) [] [] pos) (tMethR (RD K) "finish" (sp_rfi K) E0 ta tNil) := by
  subst hK
  subst hm
  exact pe_m0R he T.cl_RD T.me_RD_finish (okR_finish T) (hr.mono hk) pass0 ht
end
end Lw
namespace Lw
open PySem PySem.Spec PyProof.Rows L2 My
section
variable {P : Program} {w : World} {K : Fg} {mg : Str → Option Value} {base : Heap}
def Rdr.inn (R : Rdr) : Rdr := { R with p := R.p + 1, d := R.d + 1 }
def Rdr.out (R : Rdr) : Rdr := { R with p := R.p + 1, d := R.d - 1 }
theorem Rdr.back (R : Rdr) (n : Nat) : ((R.inn).go n).out = R.go (1 + n + 1) := by
  unfold Rdr.inn Rdr.out Rdr.go
  simp only [Nat.add_sub_cancel, Nat.add_assoc]
theorem hd_yes {a : Str} {ws : List Str} : decide ((a :: ws).head? = some a) = true := decide_eq_true rfl
theorem kx_newR {p D : Addr} {H H1 : Hp} {o : HO} (k : Kx p H H1) (hD : H D = none) : Kx p H (upd H1 D o) := fun b u e n => by
  rw [upd_ne (fun z => by
    rw [z, hD] at e
    cases e)]
  exact k b u e n
theorem RdAt.upd {H : Hp} {r D : Addr} {R : Rdr} {ws : List Str} {o : HO} (h : RdAt K H r R ws) (n1 : r ≠ D) (n2 : R.wd ≠ D) : RdAt K (L2.upd H D o) r R ws := ⟨(upd_ne n1).trans h.o, (upd_ne n2).trans h.w, h.r⟩
theorem paired_snoc {α β : Type} {R : α → β → Prop} {x : α} {y : β} (h : R x y) : ∀ {xs : List α} {ys : List β}, Paired R xs ys → Paired R (xs ++ [x]) (ys ++ [y])
  | _, _, .nil => .cons h .nil
  | _, _, .cons a t => .cons a (paired_snoc h t)
theorem restW_app (s : Str) (xs ys : List (List Str)) : restW s (xs ++ ys) = restW s xs ++ restW s ys := List.flatMap_append
theorem rest_no {a s : Str} {ws : List Str} {xs : List (List Str)} (h : s ≠ a) (hw : ws.head? ≠ some a) : (restW s xs ++ ws).head? ≠ some a := by
  apply My.two; (focus intro zzI; simp only [↓ My.mkB zzI (by
  clear zzI
  cases xs with
  | nil => exact hw
  | cons x xs => exact fun e => h (Option.some.inj e)
  )]); intro f; simpa using My.gz f 5 true
theorem Pn.words_head : ∀ (n : Nat) (p : Pn n), ∃ y ys, Pn.words n p = y :: ys ∧ y ≠ ("not" : Str)
  | 0, l => by cases l <;> exact ⟨_, _, rfl, by decide +kernel⟩
  | _ + 1, .inl l => by cases l <;> exact ⟨_, _, rfl, by decide +kernel⟩
  | n + 1, .inr c => ⟨_, _, rfl, by decide +kernel⟩
theorem Pn.split (C : Cal) : ∀ (n : Nat) (p : Pn n), (∃ l, Pn.words n p = Lf.words l ∧ (Pn.ok C n p → Lf.ok C l) ∧ ∀ (H : Hp) (v : V), (∃ t, v = .ref t ∧ H t = some (.tup (Lf.vals l))) → RepP H n p v) ∨
    ∃ (m : Nat) (c : Cd m), n = m + 1 ∧ Pn.words n p = ("(" : Str) :: (Cd.words c ++ [(")" : Str)]) ∧ (Pn.ok C n p → Cd.ok C c) ∧ ∀ (H : Hp) (v : V), RepC H c v → RepP H n p v
  | 0, l => .inl ⟨l, rfl, id, fun _ _ => id⟩
  | _ + 1, .inl l => .inl ⟨l, rfl, id, fun _ _ => id⟩
  | n + 1, .inr c => .inr ⟨n, c, rfl, rfl, id, fun _ _ => id⟩
/-- a part that is read, its value made of tuples -/
def spRead (K : Fg) {α : Type} (wds : α → List Str) (good : Cal → α → Prop) (stop : List Str → Prop) (Rep : Hp → α → V → Prop) (dep : Nat) : Sp := fun vs H Q _ => ∃ (r : Addr) (R : Rdr) (ws : List Str) (C : Cal) (x : α), vs = [.ref r] ∧ RdAt K H r R (wds x ++ ws) ∧ CalX K H R.c C ∧ good C x ∧ stop ws ∧ R.d + dep ≤ 6 ∧
  ∀ (v : V) (H' : Hp), Kx r H H' → RdAt K H' r (R.go (wds x).length) ws → Rep H' x v → Q v H'
def sp_rpf (K : Fg) (n : Nat) : Sp := spRead K (Pn.words n) (fun C p => Pn.ok C n p) (fun _ => True) (fun H p v => RepP H n p v) n
def sp_rfa (K : Fg) (n : Nat) : Sp := spRead K (facW (n := n)) (fun C f => Pn.ok C n f.2) (fun _ => True) (fun H f v => RepF H f v) n
def sp_rtm (K : Fg) (n : Nat) : Sp := spRead K (trmW (n := n)) (fun C t => (t ≠ [] ∧ t.length ≤ 100) ∧ ∀ f ∈ t, Pn.ok C n f.2) (fun ws => ws.head? ≠ some ("and" : Str)) (fun H t v => RepT H t v) n
def sp_rcd (K : Fg) (n : Nat) : Sp := spRead K (Cd.words (n := n)) (fun C c => Cd.ok C c) (fun ws => ws.head? ≠ some ("and" : Str) ∧ ws.head? ≠ some ("or" : Str)) (fun H c v => RepC H c v) n
/-- the promise for what stands one level deeper -/
def sp_rcdP (K : Fg) : Nat → Sp
  | 0 => fun _ _ _ _ => False
  | n + 1 => sp_rcd K n
def sp_rne (K : Fg) : Sp := fun vs H Q _ => ∃ (r : Addr) (R : Rdr) (ws : List Str) (x : Str), vs = [.ref r, .str x] ∧ RdAt K H r R (x :: ws) ∧ ∀ H' : Hp, Kx r H H' → RdAt K H' r (R.go 1) ws → Q .non H'
theorem okR_need (T : Tx K mg) : FnR P w K mg base CX0 2 (He.ma K (RD K) "need") (sp_rne K) := by
  apply My.two; (focus intro zzI; simp only [↓ My.mkB zzI (by
  clear zzI
  refine (T.fnR 28 (st := s_Reader_need) (at_ := fun K => He.ma K (He.ga K "Reader") "need") rfl sc_Reader_need (fun _ _ _ _ _ _ us hl => match us, hl with | [_, _], _ => rfl)) (fun vs H Q E h => ?_) (fun cdv A outer s H vs Q E hr h => ?_)
  · obtain ⟨r, R, ws, x, rfl, _⟩ := h
    rfl
  · obtain ⟨r, R, ws, x, rfl, hR, k⟩ := h
    refine ⟨_, (pss_cons (ps_if (pt_not (pt_val (mR_is_next T hr (pv 0) (pa_cons (pv 1) pa_nil))))
 (pss_one ps_never)
 pss_nil)
 (pss_one (ps_fldaug (pv 0) pe_int in_add))), ?_⟩
    have ho := hR.o
    rfl'
    rw [show decide ((x :: ws).head? = some x) = true from decide_eq_true rfl]
    rfl'
    refine ⟨show 7 < 1000 by decide, ?_⟩
    obtain ⟨h1, k1⟩ := hR.one (Kx.refl H) ho
    exact k _ k1 h1
  )]); intro f; simpa using My.gz f 5 true
theorem mR_need {X : Cx} {k : Nat} {o e : Expr} {es : List Expr} {ta : TE} {t : TA} {apos pos : Pos} {pl : Sem Bool} (T : Tx K mg) (hr : Room k X.A) (he : PE X o ta) (ha : PA X (e :: es) t) (hk : 2 ≤ k := by decide) (hK : X.K = K := by rfl) (hm : X.mg = mg := by rfl)
    (hst : starEach (e :: es) X.env = (false, eval e X.env) :: starEach es X.env := by rfl) (hpl : (backTo pos (starEach es X.env)).any (·.1) = false := by rfl)
    (ht : eval (.Call (.Attribute o "need" apos) (e :: es) [] pos) X.env = (do
      let ov ← eval o X.env
      standAt apos.atName
      let (f, first) ← holding [ov] (getMethod ov "need" pl)
      callWith pos f first (backTo pos (starEach (e :: es) X.env)) (backToKw pos (keywordEach [] X.env))) := by rfl) :
    PE X (.Call (.Attribute o "need" apos) (e :: es) [] pos) (tMethR (RD K) "need" (sp_rne K) E0 ta t) := by
  subst hK
  subst hm
  exact pe_methR he T.cl_RD T.me_RD_need (okR_need T) (hr.mono hk) pass0 ha hst hpl ht
def sp_rgi (K : Fg) : Sp := fun vs H Q _ => ∃ (r : Addr) (R : Rdr) (ws : List Str), vs = [.ref r] ∧ RdAt K H r R (("(" : Str) :: ws) ∧ R.d < 6 ∧ ∀ H' : Hp, Kx r H H' → RdAt K H' r R.inn ws → Q .non H'
theorem okR_go_in (T : Tx K mg) : FnR P w K mg base CX0 3 (He.ma K (RD K) "go_in") (sp_rgi K) := by
  apply My.two; (focus intro zzI; simp only [↓ My.mkB zzI (by
  clear zzI
  refine (T.fnR 33 (st := s_Reader_go_in) (at_ := fun K => He.ma K (He.ga K "Reader") "go_in") rfl sc_Reader_go_in (fun _ _ _ _ _ _ us hl => match us, hl with | [_], _ => rfl)) (fun vs H Q E h => ?_) (fun cdv A outer s H vs Q E hr h => ?_)
  · obtain ⟨r, R, ws, rfl, _⟩ := h
    rfl
  · obtain ⟨r, R, ws, rfl, hR, hd, k⟩ := h
    refine ⟨_, (pss_cons (ps_if (pt_cmpR op_eq (fld T (pv 0)) (pe_glob (v := .int 6) rfl (T.g_MAX_DEPTH).choose_spec ⟨_, rfl⟩) (nomark _))
 (pss_one ps_never)
 pss_nil)
 (pss_cons (ps_expr (mR_need T hr (pv 0) (pa_cons pe_str pa_nil)))
 (pss_one (ps_fldaug (pv 0) pe_int in_add)))), ?_⟩
    have ho := hR.o
    rfl'
    rw [show decide (natV R.d = V.int 6) = false from decide_eq_false fun z => by
      have := V.int.inj z
      omega]
    rfl'
    intro H1 k1 h1
    have ho1 := h1.o
    rfl'
    refine ⟨show 7 < 1000 by decide, ?_⟩
    refine k _ (k1.trans kx_upd) ⟨upd_same, (upd_ne fun e => ?_).trans h1.w, h1.r⟩
    have a := h1.w
    rw [show R.inn.wd = (R.go 1).wd from rfl] at e
    rw [e, ho1] at a
    cases a
  )]); intro f; simpa using My.gz f 5 true
theorem mR_go_in {X : Cx} {k : Nat} {o : Expr} {ta : TE} {apos pos : Pos} {pl : Sem Bool} (T : Tx K mg) (hr : Room k X.A) (he : PE X o ta) (hk : 3 ≤ k := by decide) (hK : X.K = K := by rfl) (hm : X.mg = mg := by rfl)
    (ht : eval (.Call (.Attribute o "go_in" apos) [] [] pos) X.env = (do
      let ov ← eval o X.env
      standAt apos.atName
      let (f, first) ← holding [ov] (getMethod ov "go_in" pl)
      callWith pos f first (backTo pos (starEach [] X.env)) (backToKw pos (keywordEach [] X.env))) := by rfl) :
    PE X (.Call (.Attribute o "go_in" apos) [] [] pos) (tMethR (RD K) "go_in" (sp_rgi K) E0 ta tNil) := by
  subst hK
  subst hm
  exact pe_m0R he T.cl_RD T.me_RD_go_in (okR_go_in T) (hr.mono hk) pass0 ht
def sp_rgo (K : Fg) : Sp := fun vs H Q _ => ∃ (r : Addr) (R : Rdr) (ws : List Str), vs = [.ref r] ∧ RdAt K H r R ((")" : Str) :: ws) ∧ 0 < R.d ∧ ∀ H' : Hp, Kx r H H' → RdAt K H' r R.out ws → Q .non H'
theorem okR_go_out (T : Tx K mg) : FnR P w K mg base CX0 3 (He.ma K (RD K) "go_out") (sp_rgo K) := by
  apply My.two; (focus intro zzI; simp only [↓ My.mkB zzI (by
  clear zzI
  refine (T.fnR 34 (st := s_Reader_go_out) (at_ := fun K => He.ma K (He.ga K "Reader") "go_out") rfl sc_Reader_go_out (fun _ _ _ _ _ _ us hl => match us, hl with | [_], _ => rfl)) (fun vs H Q E h => ?_) (fun cdv A outer s H vs Q E hr h => ?_)
  · obtain ⟨r, R, ws, rfl, _⟩ := h
    rfl
  · obtain ⟨r, R, ws, rfl, hR, hd, k⟩ := h
    refine ⟨_, (pss_cons (ps_expr (mR_need T hr (pv 0) (pa_cons pe_str pa_nil)))
 (pss_one (ps_fldaug (pv 0) pe_int in_sub))), ?_⟩
    have ho := hR.o
    rfl'
    intro H1 k1 h1
    have ho1 := h1.o
    rfl'
    refine ⟨show 7 < 1000 by decide, ?_⟩
    have e : V.int (((R.go 1).d : Int) - 1) = natV R.out.d := congrArg V.int (show ((R.d : Nat) : Int) - 1 = ((R.d - 1 : Nat) : Int) by omega)
    refine k _ (k1.trans kx_upd) ⟨upd_same.trans ?_, (upd_ne fun e => ?_).trans h1.w, h1.r⟩
    · show some (HO.ins (RD K) R.dx (putF "depth" (V.int (((R.go 1).d : Int) - 1)) (rdF (R.go 1)))) = _
      rw [e]
      rfl
    have a := h1.w
    rw [show R.out.wd = (R.go 1).wd from rfl] at e
    rw [e, ho1] at a
    cases a
  )]); intro f; simpa using My.gz f 5 true
theorem mR_go_out {X : Cx} {k : Nat} {o : Expr} {ta : TE} {apos pos : Pos} {pl : Sem Bool} (T : Tx K mg) (hr : Room k X.A) (he : PE X o ta) (hk : 3 ≤ k := by decide) (hK : X.K = K := by rfl) (hm : X.mg = mg := by rfl)
    (ht : eval (.Call (.Attribute o "go_out" apos) [] [] pos) X.env = (do
      let ov ← eval o X.env
      standAt apos.atName
      let (f, first) ← holding [ov] (getMethod ov "go_out" pl)
      callWith pos f first (backTo pos (starEach [] X.env)) (backToKw pos (keywordEach [] X.env))) := by rfl) :
    PE X (.Call (.Attribute o "go_out" apos) [] [] pos) (tMethR (RD K) "go_out" (sp_rgo K) E0 ta tNil) := by
  subst hK
  subst hm
  exact pe_m0R he T.cl_RD T.me_RD_go_out (okR_go_out T) (hr.mono hk) pass0 ht
theorem mRh_condition {X : Cx} {k k2 L : Nat} {sp : Sp} {o : Expr} {ta : TE} {apos pos : Pos} {pl : Sem Bool} (F : FnR X.prog X.w X.K X.mg X.base CX0 L (He.ma X.K (RD X.K) "condition") sp) (hr : Room k X.A) (hk : L ≤ k) (T : Tx X.K X.mg) (_ : Room k2 X.A) (he : PE X o ta)
    (ht : eval (.Call (.Attribute o "condition" apos) [] [] pos) X.env = (do
      let ov ← eval o X.env
      standAt apos.atName
      let (f, first) ← holding [ov] (getMethod ov "condition" pl)
      callWith pos f first (backTo pos (starEach [] X.env)) (backToKw pos (keywordEach [] X.env))) := by rfl) :
    PE X (.Call (.Attribute o "condition" apos) [] [] pos) (tMethR (RD X.K) "condition" sp E0 ta tNil) :=
  pe_m0R he T.cl_RD T.me_RD_condition F (hr.mono hk) pass0 ht
theorem mRh_term {X : Cx} {k k2 L : Nat} {sp : Sp} {o : Expr} {ta : TE} {apos pos : Pos} {pl : Sem Bool} (F : FnR X.prog X.w X.K X.mg X.base CX0 L (He.ma X.K (RD X.K) "term") sp) (hr : Room k X.A) (hk : L ≤ k) (T : Tx X.K X.mg) (_ : Room k2 X.A) (he : PE X o ta)
    (ht : eval (.Call (.Attribute o "term" apos) [] [] pos) X.env = (do
      let ov ← eval o X.env
      standAt apos.atName
      let (f, first) ← holding [ov] (getMethod ov "term" pl)
      callWith pos f first (backTo pos (starEach [] X.env)) (backToKw pos (keywordEach [] X.env))) := by rfl) :
    PE X (.Call (.Attribute o "term" apos) [] [] pos) (tMethR (RD X.K) "term" sp E0 ta tNil) :=
  pe_m0R he T.cl_RD T.me_RD_term F (hr.mono hk) pass0 ht
theorem mRh_factor {X : Cx} {k k2 L : Nat} {sp : Sp} {o : Expr} {ta : TE} {apos pos : Pos} {pl : Sem Bool} (F : FnR X.prog X.w X.K X.mg X.base CX0 L (He.ma X.K (RD X.K) "factor") sp) (hr : Room k X.A) (hk : L ≤ k) (T : Tx X.K X.mg) (_ : Room k2 X.A) (he : PE X o ta)
    (ht : eval (.Call (.Attribute o "factor" apos) [] [] pos) X.env = (do
      let ov ← eval o X.env
      standAt apos.atName
      let (f, first) ← holding [ov] (getMethod ov "factor" pl)
      callWith pos f first (backTo pos (starEach [] X.env)) (backToKw pos (keywordEach [] X.env))) := by rfl) :
    PE X (.Call (.Attribute o "factor" apos) [] [] pos) (tMethR (RD X.K) "factor" sp E0 ta tNil) :=
  pe_m0R he T.cl_RD T.me_RD_factor F (hr.mono hk) pass0 ht
theorem mRh_plain_factor {X : Cx} {k k2 L : Nat} {sp : Sp} {o : Expr} {ta : TE} {apos pos : Pos} {pl : Sem Bool} (F : FnR X.prog X.w X.K X.mg X.base CX0 L (He.ma X.K (RD X.K) "plain_factor") sp) (hr : Room k X.A) (hk : L ≤ k) (T : Tx X.K X.mg) (_ : Room k2 X.A) (he : PE X o ta)
    (ht : eval (.Call (.Attribute o "plain_factor" apos) [] [] pos) X.env = (do
      let ov ← eval o X.env
      standAt apos.atName
      let (f, first) ← holding [ov] (getMethod ov "plain_factor" pl)
      callWith pos f first (backTo pos (starEach [] X.env)) (backToKw pos (keywordEach [] X.env))) := by rfl) :
    PE X (.Call (.Attribute o "plain_factor" apos) [] [] pos) (tMethR (RD X.K) "plain_factor" sp E0 ta tNil) :=
  pe_m0R he T.cl_RD T.me_RD_plain_factor F (hr.mono hk) pass0 ht
theorem okR_condition_no (T : Tx K mg) {L : Nat} : FnR P w K mg base CX0 (L + 1) (He.ma K (RD K) "condition") (fun _ _ _ _ => False) := (T.fnR 36 (st := s_Reader_condition) (at_ := fun K => He.ma K (He.ga K "Reader") "condition") rfl sc_Reader_condition (fun _ _ _ _ _ _ us hl => match us, hl with | [_], _ => rfl)) (fun _ _ _ _ h => h.elim) (fun _ _ _ _ _ _ _ _ _ h => h.elim)
theorem okR_plain_factor (T : Tx K mg) (n : Nat) (IH : FnR P w K mg base CX0 (6 + 4 * n) (He.ma K (RD K) "condition") (sp_rcdP K n)) : FnR P w K mg base CX0 (6 + 4 * n + 1) (He.ma K (RD K) "plain_factor") (sp_rpf K n) := by
  apply My.two; (focus intro zzI; simp only [↓ My.mkB zzI (by
  clear zzI
  refine (T.fnR 39 (st := s_Reader_plain_factor) (at_ := fun K => He.ma K (He.ga K "Reader") "plain_factor") rfl sc_Reader_plain_factor (fun _ _ _ _ _ _ us hl => match us, hl with | [_], _ => rfl)) (fun vs H Q E h => ?_) (fun cdv A outer s H vs Q E hrN h => ?_)
  · obtain ⟨r, R, ws, C, x, rfl, _⟩ := h
    rfl
  · have hr : Room 6 _ := hrN.mono (Nat.le_add_right 6 (4 * n))
    obtain ⟨r, R, ws, C, x, rfl, hR, hX, ok, _, hd, k⟩ := h
    refine ⟨_, (pss_cons (ps_if (pt_val (mR_is_next T hr (pv 0) (pa_cons pe_str pa_nil)))
 (pss_cons (ps_expr (mR_go_in T hr (pv 0)))
 (pss_cons (ps_set (i := 1) sc_Reader_plain_factor.nd rfl (Or.inl rfl) ((mRh_condition IH hrN (Nat.le_refl _)) T hr (pv 0)))
 (pss_cons (ps_expr (mR_go_out T hr (pv 0)))
 (pss_one (ps_ret (pv 1))))))
 pss_nil)
 (pss_cons (ps_par (i := 2) (j := 3) (by rfl) sc_Reader_plain_factor.nd rfl rfl (by decide) rfl rfl (pa_cons (fld T (pv 0)) (pa_cons (mR_taken T hr (pv 0)) pa_nil)) (by rfl))
 (pss_cons (ps_if (pt_cmpR (inq T) (pv 3) (pe_tup (pa_cons pe_str (pa_cons pe_str (pa_cons pe_str (pa_cons pe_str pa_nil))))) (by rfl))
 (pss_one (ps_ret (pe_tup (pa_cons (pv 3) pa_nil))))
 pss_nil)
 (pss_cons (ps_if (pt_cmpR op_eq (pv 3) pe_str (nomark _))
 (pss_one (ps_ret (pe_tup (pa_cons (pv 3) (pa_cons (mR_read_weekday T hr (pv 0)) pa_nil)))))
 pss_nil)
 (pss_cons (ps_if (pt_cmpR (inq T) (pv 3) (pe_tup (pa_cons pe_str (pa_cons pe_str (pa_cons pe_str pa_nil)))) (by rfl))
 (pss_one (ps_ret (mR_of_month T hr (pv 0) (pa_cons (pv 3) pa_nil))))
 pss_nil)
 (pss_cons (ps_if (PW.pt (pw_and (pt_cmpR op_eq (pv 3) pe_str (nomark _)) (pw_and1 (pt_val (fld T (pv 0))))))
 (pss_one ps_never)
 pss_nil)
 (pss_cons (ps_fld (pv 0) (pv 2) rfl)
 (pss_one ps_never)))))))), ?_⟩
    have ho := hR.o
    rcases Pn.split C n x with ⟨l, ew, eo, er⟩ | ⟨m, c, rfl, ew, eo, er⟩
    · replace ok := eo ok
      rw [ew] at hR k
      obtain ⟨ws2, hw, dx, ay, rr, fr, l2, st, hc, B, ok2⟩ := id hX
      have m1 := ok2.m1
      have w1 := ok2.w1
      cases l
      all_goals
        dsimp only [Lf.words, List.cons_append, List.nil_append] at hR
        rfl'
        intro H1 k1 h1
        have ho1 := h1.o
        have hX1 : CalX K H1 (R.go 1).c C := hX.keep ho k1
      iterate 4
        next =>
          rfl'
          rename_i p1 n1 H2 s2 f2 p2 n2 H3 s3 f3
          exact k _ _ (k1.trans (kx_same (s2.trans s3))) ((h1.same s2).same s3) (er _ _ ⟨_, rfl, f3⟩)
      · rfl'
        rename_i p1 n1 H2 s2 f2
        obtain ⟨b0, b1⟩ := ok
        refine ⟨b0, b1, fun H3 k3 h3 => ?_⟩
        rfl'
        rename_i p3 n3 H4 s4 f4
        exact k _ _ (k1.trans ((kx_same s2).trans (k3.trans (kx_same s4)))) (h3.same s4) (er _ _ ⟨_, rfl, f4⟩)
      · rename_i m'
        rfl'
        rename_i p2 n2 H2 s2 f2 p3 n3 H3 s3 f3
        refine ⟨(rfl : Pl.words (.month m') = _), trivial, (h1.same s2).same s3, (hX1.same s2).same s3, ok, fun t H4 k4 h4 f4 => ?_⟩
        exact k _ _ (k1.trans ((kx_same (s2.trans s3)).trans k4)) h4 (er _ _ ⟨_, rfl, f4⟩)
      · rename_i m'
        rfl'
        rename_i p2 n2 H2 s2 f2 p3 n3 H3 s3 f3
        refine ⟨(rfl : Pl.words (.day m') = _), trivial, (h1.same s2).same s3, (hX1.same s2).same s3, ok, fun t H4 k4 h4 f4 => ?_⟩
        exact k _ _ (k1.trans ((kx_same (s2.trans s3)).trans k4)) h4 (er _ _ ⟨_, rfl, f4⟩)
      · rename_i m' w'
        rfl'
        rename_i p2 n2 H2 s2 f2 p3 n3 H3 s3 f3
        refine ⟨(rfl : Pl.words (.nth m' w') = _), trivial, (h1.same s2).same s3, (hX1.same s2).same s3, ok, fun t H4 k4 h4 f4 => ?_⟩
        exact k _ _ (k1.trans ((kx_same (s2.trans s3)).trans k4)) h4 (er _ _ ⟨_, rfl, f4⟩)
    · replace ok := eo ok
      rw [ew] at hR k
      replace hR : RdAt K H r R (("(" : Str) :: (Cd.words c ++ (")" : Str) :: ws)) := by
        rw [List.cons_append, List.append_assoc] at hR
        exact hR
      rfl'
      intro H1 k1 h1
      have ho1 := h1.o
      have hX1 : CalX K H1 R.inn.c C := hX.keep ho k1
      rfl'
      refine ⟨⟨fun z => ?_, fun z => ?_⟩, by show R.d + 1 + m ≤ 6; omega, fun v H2 k2 h2 f2 => ?_⟩
      · exact absurd (Option.some.inj z) (by decide +kernel)
      · exact absurd (Option.some.inj z) (by decide +kernel)
      have ho2 := h2.o
      have d2 : 0 < (R.inn.go (Cd.words c).length).d := Nat.succ_pos R.d
      rfl'
      intro H3 k3 h3
      have ho3 := h3.o
      rfl'
      rw [Rdr.back] at h3
      rw [show (("(" : Str) :: (Cd.words c ++ [(")" : Str)])).length = 1 + (Cd.words c).length + 1 by rw [List.length_cons, List.length_append, List.length_singleton]; omega] at k
      exact k _ _ (k1.trans (k2.trans k3)) h3 (er _ _ (f2.mono (KdT.kx ho2 k3)))
  )]); intro f; simpa using My.gz f 5 true
theorem okR_factor (T : Tx K mg) (n : Nat) (F : FnR P w K mg base CX0 (6 + 4 * n + 1) (He.ma K (RD K) "plain_factor") (sp_rpf K n)) : FnR P w K mg base CX0 (6 + 4 * n + 2) (He.ma K (RD K) "factor") (sp_rfa K n) := by
  apply My.two; (focus intro zzI; simp only [↓ My.mkB zzI (by
  clear zzI
  refine (T.fnR 38 (st := s_Reader_factor) (at_ := fun K => He.ma K (He.ga K "Reader") "factor") rfl sc_Reader_factor (fun _ _ _ _ _ _ us hl => match us, hl with | [_], _ => rfl)) (fun vs H Q E h => ?_) (fun cdv A outer s H vs Q E hrN h => ?_)
  · obtain ⟨r, R, ws, C, x, rfl, _⟩ := h
    rfl
  · have hr : Room 6 _ := hrN.mono (by omega)
    obtain ⟨r, R, ws, C, ⟨j, x⟩, rfl, hR, hX, ok, _, hd, k⟩ := h
    refine ⟨_, (pss_cons (ps_set (i := 1) sc_Reader_factor.nd rfl (Or.inl rfl) pe_bl)
 (pss_cons (ps_while PassesOwn.never (pt_val (mR_is_next T hr (pv 0) (pa_cons pe_str pa_nil)))
 (pss_cons (ps_fldaug (pv 0) pe_int in_add)
 (pss_one (ps_set (i := 1) sc_Reader_factor.nd rfl (Or.inl rfl) (pe_not (pv 1))))))
 (pss_cons (ps_set (i := 2) sc_Reader_factor.nd rfl (Or.inl rfl) ((mRh_plain_factor F hrN (Nat.le_refl _)) T hr (pv 0)))
 (pss_one (ps_ret (pe_ifExp (pt_val (pv 1)) (pe_tup (pa_cons pe_str (pa_cons (pv 2) pa_nil))) (pv 2))))))), ?_⟩
    have ho := hR.o
    rfl'
    refine ⟨fun m σ H' => ∃ i : Nat, σ = [some (.ref r), some (.bl (i % 2 == 1)), none] ∧ i + m = j ∧ Kx r H H' ∧ RdAt K H' r (R.go i) (List.replicate m ("not" : Str) ++ Pn.words n x ++ ws), ⟨j, 0, rfl, Nat.zero_add j, Kx.refl H, hR⟩, ?_⟩
    rintro m σ H1 ⟨i, rfl, ij, k1, h1⟩
    have ho1 := h1.o
    have hX1 : CalX K H1 (R.go i).c C := hX.keep ho k1
    cases m with
    | zero =>
      obtain rfl : i = j := ij
      rw [List.replicate_zero, List.nil_append] at h1
      obtain ⟨y, ys, ey, ny⟩ := Pn.words_head n x
      have hx : (Pn.words n x ++ ws).head? ≠ some ("not" : Str) := by
        rw [ey]
        exact fun z => ny (Option.some.inj z)
      rfl'
      rw [decide_eq_false hx]
      refine iteF ?_
      rfl'
      intro v H2 k2 h2 f2
      have h2' : RdAt K H2 r (R.go (facW (i, x)).length) ws := by
        rw [Rdr.go_go] at h2
        unfold facW
        rw [List.length_append, List.length_replicate]
        exact h2
      by_cases c : i % 2 = 1
      · rw [show (i % 2 == 1) = true from by simp [c]]
        rfl'
        rename_i p3 n3 H3 s3 f3
        refine k _ _ (k1.trans (k2.trans (kx_same s3))) (h2'.same s3) ?_
        show RepN _ _ _ _
        unfold RepN
        rw [if_pos c]
        exact ⟨_, _, rfl, f3, RepP.mono (KdT.of s3) _ _ _ f2⟩
      · rw [show (i % 2 == 1) = false from by simp [c]]
        rfl'
        refine k _ _ (k1.trans k2) h2' ?_
        show RepN _ _ _ _
        unfold RepN
        rw [if_neg c]
        exact f2
    | succ m =>
      replace h1 : RdAt K H1 r (R.go i) (("not" : Str) :: (List.replicate m ("not" : Str) ++ Pn.words n x ++ ws)) := h1
      rfl'
      rw [hd_yes]
      refine iteT (wh_go ?_)
      rfl'
      refine ⟨show 7 < 1000 by decide, ?_⟩
      obtain ⟨h2, k2⟩ := h1.one (Kx.refl H1) ho1
      generalize upd H1 r _ = H2 at h2 k2 ⊢
      rfl'
      refine ⟨m, Nat.lt_succ_self m, i + 1, ?_, by omega, k1.trans k2, h2⟩
      rw [show ((i + 1) % 2 == 1) = !(i % 2 == 1) from by rw [Bool.eq_iff_iff]; simp; omega]
      rfl
  )]); intro f; simpa using My.gz f 5 true
theorem okR_term (T : Tx K mg) (n : Nat) (F : FnR P w K mg base CX0 (6 + 4 * n + 2) (He.ma K (RD K) "factor") (sp_rfa K n)) : FnR P w K mg base CX0 (6 + 4 * n + 3) (He.ma K (RD K) "term") (sp_rtm K n) := by
  apply My.two; (focus intro zzI; simp only [↓ My.mkB zzI (by
  clear zzI
  refine (T.fnR 37 (st := s_Reader_term) (at_ := fun K => He.ma K (He.ga K "Reader") "term") rfl sc_Reader_term (fun _ _ _ _ _ _ us hl => match us, hl with | [_], _ => rfl)) (fun vs H Q E h => ?_) (fun cdv A outer s H vs Q E hrN h => ?_)
  · obtain ⟨r, R, ws, C, x, rfl, _⟩ := h
    rfl
  · have hr : Room 6 _ := hrN.mono (by omega)
    obtain ⟨r, R, ws, C, t, rfl, hR, hX, ⟨⟨tn, tl⟩, ok⟩, nx, hd, k⟩ := h
    refine ⟨_, (pss_cons (ps_set (i := 1) sc_Reader_term.nd rfl (Or.inl rfl) (pe_lst (pa_cons ((mRh_factor F hrN (Nat.le_refl _)) T hr (pv 0)) pa_nil)))
 (pss_cons (ps_while PassesOwn.never (pt_val (mR_is_next T hr (pv 0) (pa_cons pe_str pa_nil)))
 (pss_cons (ps_fldaug (pv 0) pe_int in_add)
 (pss_one (ps_expr (bmk T PySem.F.plainAttrs_list PySem.F.slot_list_append PySem.F.type_list_append mt_append (pv 1) (pa_cons ((mRh_factor F hrN (Nat.le_refl _)) T hr (pv 0)) pa_nil))))))
 (pss_one (ps_ret (pe_ifExp (pt_cmpR op_eq (pe_callB (len_k T) (by rfl) T.n_len (by decide +kernel) (pa_cons (pv 1) pa_nil)) pe_int (nomark _)) (pe_ix (ixl T) (pv 1) pe_int (fun _ _ => rfl)) (pe_tup (pa_cons pe_str (pa_cons (pe_callTy (tup_k T) (by rfl) T.n_tuple (by decide +kernel) (pa_cons (pv 1) pa_nil)) pa_nil)))))))), ?_⟩
    have ho := hR.o
    obtain ⟨f0, fs, rfl⟩ : ∃ f0 fs, t = f0 :: fs := by
      cases t with
      | nil => exact absurd rfl tn
      | cons a b => exact ⟨a, b, rfl⟩
    have nx' : ws.head? ≠ some ("and" : Str) := nx
    obtain ⟨L, hL⟩ : ∃ L, L = (trmW (f0 :: fs)).length := ⟨_, rfl⟩
    have hL2 : L = (facW f0).length + (restW "and" (fs.map facW)).length := by
      rw [hL]
      show (facW f0 ++ restW "and" (fs.map facW)).length = _
      rw [List.length_append]
    have hR0 : RdAt K H r R (facW f0 ++ (restW "and" (fs.map facW) ++ ws)) := by
      rw [← List.append_assoc]
      exact hR
    have ok0 := ok f0 (List.mem_cons_self ..)
    rfl'
    refine ⟨trivial, hd, fun v0 H1 k1 h1 f1 => ?_⟩
    have ho1 := h1.o
    have hX1 : CalX K H1 (R.go (facW f0).length).c C := hX.keep ho k1
    rfl'
    intro D hD
    have s2 := same_upd (o := .lst [v0]) hD
    have e2 : upd H1 D (.lst [v0]) D = some (.lst [v0]) := upd_same
    generalize upd H1 D _ = H2 at s2 e2 ⊢
    have hDr : D ≠ r := fun e => by
      rw [e, ho1] at hD
      cases hD
    have hDH : H D = none := by
      cases z : H D with
      | none => rfl
      | some o =>
        have := k1 _ _ z hDr
        rw [hD] at this
        cases this
    refine ⟨fun m σ H' => ∃ (don tod : List _) (vs : List V), fs = don ++ tod ∧ m = tod.length ∧ σ = [some (.ref r), some (.ref D)] ∧ Kx r H H' ∧ RdAt K H' r (R.go (L - (restW "and" (tod.map facW)).length)) (restW "and" (tod.map facW) ++ ws) ∧ H' D = some (.lst vs) ∧ Paired (fun x v => RepF H' x v) (f0 :: don) vs, ⟨_, [], fs, _, rfl, rfl, rfl, k1.trans (kx_same s2), ?_, e2, .cons (RepF.mono (KdT.of s2) f1) .nil⟩, ?_⟩
    · have := h1.same s2
      rw [show L - (restW "and" (fs.map facW)).length = (facW f0).length by omega]
      exact this
    rintro m σ H3 ⟨don, tod, vs, rfl, rfl, rfl, k3, h3, e3, p3⟩
    have ho3 := h3.o
    have hX3 : CalX K H3 (R.go (L - (restW "and" (tod.map facW)).length)).c C := hX.keep ho k3
    have pl := Paired.length p3
    cases tod with
    | nil =>
      rw [List.append_nil] at ok k hL hL2
      have h3' : RdAt K H3 r (R.go (trmW (f0 :: don)).length) ws := by
        rw [← hL]
        exact h3
      rfl'
      rw [decide_eq_false nx']
      refine iteF ?_
      cases don with
      | nil =>
        obtain ⟨v, rfl⟩ : ∃ v, vs = [v] := by
          match vs, pl with
          | [v], _ => exact ⟨v, rfl⟩
        rfl'
        refine k _ _ k3 h3' (.inl ⟨_, rfl, ?_⟩)
        cases p3 with
        | cons a _ => exact a
      | cons x1 don =>
        have l2 : 2 ≤ vs.length := by
          rw [← pl, List.length_cons, List.length_cons]
          omega
        rfl'
        rw [show decide (V.int (vs.length : Int) = V.int 1) = false from decide_eq_false fun z => by
          have := V.int.inj z
          omega]
        refine iteF ?_
        rfl'
        refine .inl ⟨SqL.of e3, fun u nu => ?_⟩
        have s4 := same_upd (o := .tup vs) nu
        have f4 : upd H3 u (.tup vs) u = some (.tup vs) := upd_same
        generalize upd H3 u (.tup vs) = H4 at s4 f4 ⊢
        rfl'
        rename_i t nt H5 s5 f5
        exact k _ _ (k3.trans (kx_same (s4.trans s5))) ((h3'.same s4).same s5) (.inr ⟨by rw [List.length_cons, List.length_cons]; omega, t, u, vs, rfl, f5, s5 _ _ f4, paired_map (fun _ _ q => RepF.mono (KdT.of (s4.trans s5)) q) p3⟩)
    | cons y tod =>
      have oky := ok y (by simp)
      replace h3 : RdAt K H3 r (R.go (L - (restW "and" ((y :: tod).map facW)).length)) (("and" : Str) :: (facW y ++ (restW "and" (tod.map facW) ++ ws))) := by
        rw [← List.append_assoc]
        exact h3
      rfl'
      rw [hd_yes]
      refine iteT (wh_go ?_)
      rfl'
      refine ⟨show 7 < 1000 by decide, ?_⟩
      obtain ⟨h4, k4⟩ := h3.one (Kx.refl H3) ho3
      generalize upd H3 r _ = H4 at h4 k4 ⊢
      have ho4 := h4.o
      have hX4 : CalX K H4 ((R.go (L - (restW "and" ((y :: tod).map facW)).length)).go 1).c C := hX3.keep ho3 k4
      have e4 : H4 D = some (.lst vs) := k4 _ _ e3 hDr
      rfl'
      refine ⟨trivial, hd, fun v5 H5 k5 h5 f5 => ?_⟩
      have e5 : H5 D = some (.lst vs) := k5 _ _ e4 hDr
      have k35 : KdT H3 H5 := KdT.trans (KdT.kx ho3 k4) (KdT.kx ho4 k5)
      have vl : vs.length < sizeLine := by
        rw [← pl, sizeLine_eq]
        rw [List.length_cons, List.length_append] at tl
        rw [List.length_cons]
        omega
      refine ⟨_, _, _, rfl, rfl, e5, vl, ?_⟩
      have ho5 := h5.o
      have hw5 := h5.w
      have wD : R.wd ≠ D := fun e => by
        have := hR.w
        rw [e, hDH] at this
        cases this
      have h6 := h5.upd (o := .lst (vs ++ [v5])) (Ne.symm hDr) wD
      have k6 : KdT H5 (upd H5 D (.lst (vs ++ [v5]))) := fun a xs e => by
        rw [upd_ne fun z => by
          rw [z, e5] at e
          cases e]
        exact e
      refine ⟨tod.length, by rw [List.length_cons]; omega, don ++ [y], tod, vs ++ [v5], by rw [List.append_assoc]; rfl, rfl, rfl, kx_newR (k3.trans (k4.trans k5)) hDH, ?_, upd_same, ?_⟩
      · rw [Rdr.go_go, Rdr.go_go] at h6
        have e : L - (restW "and" ((y :: tod).map facW)).length + (1 + (facW y).length) = L - (restW "and" (tod.map facW)).length := by
          rw [List.map_append, restW_app, List.length_append] at hL2
          rw [List.map_cons, restW_cons, List.length_cons, List.length_append] at hL2 ⊢
          omega
        rw [← e]
        exact h6
      · exact paired_snoc (RepF.mono k6 f5) (paired_map (fun _ _ q => RepF.mono (k35.trans k6) q) p3)
  )]); intro f; simpa using My.gz f 5 true
theorem okR_condition (T : Tx K mg) (n : Nat) (F : FnR P w K mg base CX0 (6 + 4 * n + 3) (He.ma K (RD K) "term") (sp_rtm K n)) : FnR P w K mg base CX0 (6 + 4 * n + 4) (He.ma K (RD K) "condition") (sp_rcd K n) := by
  apply My.two; (focus intro zzI; simp only [↓ My.mkB zzI (by
  clear zzI
  refine (T.fnR 36 (st := s_Reader_condition) (at_ := fun K => He.ma K (He.ga K "Reader") "condition") rfl sc_Reader_condition (fun _ _ _ _ _ _ us hl => match us, hl with | [_], _ => rfl)) (fun vs H Q E h => ?_) (fun cdv A outer s H vs Q E hrN h => ?_)
  · obtain ⟨r, R, ws, C, x, rfl, _⟩ := h
    rfl
  · have hr : Room 6 _ := hrN.mono (by omega)
    obtain ⟨r, R, ws, C, t, rfl, hR, hX, ⟨⟨tn, tl⟩, ok⟩, nx, hd, k⟩ := h
    refine ⟨_, (pss_cons (ps_set (i := 1) sc_Reader_condition.nd rfl (Or.inl rfl) (pe_lst (pa_cons ((mRh_term F hrN (Nat.le_refl _)) T hr (pv 0)) pa_nil)))
 (pss_cons (ps_while PassesOwn.never (pt_val (mR_is_next T hr (pv 0) (pa_cons pe_str pa_nil)))
 (pss_cons (ps_fldaug (pv 0) pe_int in_add)
 (pss_one (ps_expr (bmk T PySem.F.plainAttrs_list PySem.F.slot_list_append PySem.F.type_list_append mt_append (pv 1) (pa_cons ((mRh_term F hrN (Nat.le_refl _)) T hr (pv 0)) pa_nil))))))
 (pss_one (ps_ret (pe_ifExp (pt_cmpR op_eq (pe_callB (len_k T) (by rfl) T.n_len (by decide +kernel) (pa_cons (pv 1) pa_nil)) pe_int (nomark _)) (pe_ix (ixl T) (pv 1) pe_int (fun _ _ => rfl)) (pe_tup (pa_cons pe_str (pa_cons (pe_callTy (tup_k T) (by rfl) T.n_tuple (by decide +kernel) (pa_cons (pv 1) pa_nil)) pa_nil)))))))), ?_⟩
    have ho := hR.o
    obtain ⟨f0, fs, rfl⟩ : ∃ f0 fs, t = f0 :: fs := by
      cases t with
      | nil => exact absurd rfl tn
      | cons a b => exact ⟨a, b, rfl⟩
    have nx' : ws.head? ≠ some ("or" : Str) := nx.2
    obtain ⟨L, hL⟩ : ∃ L, L = (Cd.words (f0 :: fs)).length := ⟨_, rfl⟩
    have hL2 : L = (trmW f0).length + (restW "or" (fs.map trmW)).length := by
      rw [hL]
      show (trmW f0 ++ restW "or" (fs.map trmW)).length = _
      rw [List.length_append]
    have hR0 : RdAt K H r R (trmW f0 ++ (restW "or" (fs.map trmW) ++ ws)) := by
      rw [← List.append_assoc]
      exact hR
    have ok0 := ok f0 (List.mem_cons_self ..)
    rfl'
    refine ⟨(rest_no (by decide +kernel) nx.1), hd, fun v0 H1 k1 h1 f1 => ?_⟩
    have ho1 := h1.o
    have hX1 : CalX K H1 (R.go (trmW f0).length).c C := hX.keep ho k1
    rfl'
    intro D hD
    have s2 := same_upd (o := .lst [v0]) hD
    have e2 : upd H1 D (.lst [v0]) D = some (.lst [v0]) := upd_same
    generalize upd H1 D _ = H2 at s2 e2 ⊢
    have hDr : D ≠ r := fun e => by
      rw [e, ho1] at hD
      cases hD
    have hDH : H D = none := by
      cases z : H D with
      | none => rfl
      | some o =>
        have := k1 _ _ z hDr
        rw [hD] at this
        cases this
    refine ⟨fun m σ H' => ∃ (don tod : List _) (vs : List V), fs = don ++ tod ∧ m = tod.length ∧ σ = [some (.ref r), some (.ref D)] ∧ Kx r H H' ∧ RdAt K H' r (R.go (L - (restW "or" (tod.map trmW)).length)) (restW "or" (tod.map trmW) ++ ws) ∧ H' D = some (.lst vs) ∧ Paired (fun x v => RepT H' x v) (f0 :: don) vs, ⟨_, [], fs, _, rfl, rfl, rfl, k1.trans (kx_same s2), ?_, e2, .cons (RepT.mono (KdT.of s2) f1) .nil⟩, ?_⟩
    · have := h1.same s2
      rw [show L - (restW "or" (fs.map trmW)).length = (trmW f0).length by omega]
      exact this
    rintro m σ H3 ⟨don, tod, vs, rfl, rfl, rfl, k3, h3, e3, p3⟩
    have ho3 := h3.o
    have hX3 : CalX K H3 (R.go (L - (restW "or" (tod.map trmW)).length)).c C := hX.keep ho k3
    have pl := Paired.length p3
    cases tod with
    | nil =>
      rw [List.append_nil] at ok k hL hL2
      have h3' : RdAt K H3 r (R.go (Cd.words (f0 :: don)).length) ws := by
        rw [← hL]
        exact h3
      rfl'
      rw [decide_eq_false nx']
      refine iteF ?_
      cases don with
      | nil =>
        obtain ⟨v, rfl⟩ : ∃ v, vs = [v] := by
          match vs, pl with
          | [v], _ => exact ⟨v, rfl⟩
        rfl'
        refine k _ _ k3 h3' (.inl ⟨_, rfl, ?_⟩)
        cases p3 with
        | cons a _ => exact a
      | cons x1 don =>
        have l2 : 2 ≤ vs.length := by
          rw [← pl, List.length_cons, List.length_cons]
          omega
        rfl'
        rw [show decide (V.int (vs.length : Int) = V.int 1) = false from decide_eq_false fun z => by
          have := V.int.inj z
          omega]
        refine iteF ?_
        rfl'
        refine .inl ⟨SqL.of e3, fun u nu => ?_⟩
        have s4 := same_upd (o := .tup vs) nu
        have f4 : upd H3 u (.tup vs) u = some (.tup vs) := upd_same
        generalize upd H3 u (.tup vs) = H4 at s4 f4 ⊢
        rfl'
        rename_i t nt H5 s5 f5
        exact k _ _ (k3.trans (kx_same (s4.trans s5))) ((h3'.same s4).same s5) (.inr ⟨by rw [List.length_cons, List.length_cons]; omega, t, u, vs, rfl, f5, s5 _ _ f4, paired_map (fun _ _ q => RepT.mono (KdT.of (s4.trans s5)) q) p3⟩)
    | cons y tod =>
      have oky := ok y (by simp)
      replace h3 : RdAt K H3 r (R.go (L - (restW "or" ((y :: tod).map trmW)).length)) (("or" : Str) :: (trmW y ++ (restW "or" (tod.map trmW) ++ ws))) := by
        rw [← List.append_assoc]
        exact h3
      rfl'
      rw [hd_yes]
      refine iteT (wh_go ?_)
      rfl'
      refine ⟨show 7 < 1000 by decide, ?_⟩
      obtain ⟨h4, k4⟩ := h3.one (Kx.refl H3) ho3
      generalize upd H3 r _ = H4 at h4 k4 ⊢
      have ho4 := h4.o
      have hX4 : CalX K H4 ((R.go (L - (restW "or" ((y :: tod).map trmW)).length)).go 1).c C := hX3.keep ho3 k4
      have e4 : H4 D = some (.lst vs) := k4 _ _ e3 hDr
      rfl'
      refine ⟨(rest_no (by decide +kernel) nx.1), hd, fun v5 H5 k5 h5 f5 => ?_⟩
      have e5 : H5 D = some (.lst vs) := k5 _ _ e4 hDr
      have k35 : KdT H3 H5 := KdT.trans (KdT.kx ho3 k4) (KdT.kx ho4 k5)
      have vl : vs.length < sizeLine := by
        rw [← pl, sizeLine_eq]
        rw [List.length_cons, List.length_append] at tl
        rw [List.length_cons]
        omega
      refine ⟨_, _, _, rfl, rfl, e5, vl, ?_⟩
      have ho5 := h5.o
      have hw5 := h5.w
      have wD : R.wd ≠ D := fun e => by
        have := hR.w
        rw [e, hDH] at this
        cases this
      have h6 := h5.upd (o := .lst (vs ++ [v5])) (Ne.symm hDr) wD
      have k6 : KdT H5 (upd H5 D (.lst (vs ++ [v5]))) := fun a xs e => by
        rw [upd_ne fun z => by
          rw [z, e5] at e
          cases e]
        exact e
      refine ⟨tod.length, by rw [List.length_cons]; omega, don ++ [y], tod, vs ++ [v5], by rw [List.append_assoc]; rfl, rfl, rfl, kx_newR (k3.trans (k4.trans k5)) hDH, ?_, upd_same, ?_⟩
      · rw [Rdr.go_go, Rdr.go_go] at h6
        have e : L - (restW "or" ((y :: tod).map trmW)).length + (1 + (trmW y).length) = L - (restW "or" (tod.map trmW)).length := by
          rw [List.map_append, restW_app, List.length_append] at hL2
          rw [List.map_cons, restW_cons, List.length_cons, List.length_append] at hL2 ⊢
          omega
        rw [← e]
        exact h6
      · exact paired_snoc (RepT.mono k6 f5) (paired_map (fun _ _ q => RepT.mono (k35.trans k6) q) p3)
  )]); intro f; simpa using My.gz f 5 true
theorem okR_condition_all (T : Tx K mg) : ∀ n : Nat, FnR P w K mg base CX0 (6 + 4 * n + 4) (He.ma K (RD K) "condition") (sp_rcd K n)
  | 0 => okR_condition T 0 (okR_term T 0 (okR_factor T 0 (okR_plain_factor T 0 (okR_condition_no T (L := 5)))))
  | n + 1 => okR_condition T (n + 1) (okR_term T (n + 1) (okR_factor T (n + 1) (okR_plain_factor T (n + 1) (okR_condition_all T n))))
end
end Lw
namespace Lw
open PySem PySem.Spec PyProof.Rows L2 My
section
variable {P : Program} {w : World} {K : Fg} {mg : Str → Option Value} {base : Heap}
/-- what was read is a set, by the depth of what was read -/
def HoldAt (H : Hp) (C : Cal) : Nat → V → (Int → Bool) → Prop
  | 0, _, _ => False
  | k + 1, v, f => (∃ (t : Addr) (l : Lf), v = .ref t ∧ H t = some (.tup (Lf.vals l)) ∧ l.ok C ∧ f = l.holds C) ∨
    (∃ (t : Addr) (u : V) (g : Int → Bool), v = .ref t ∧ H t = some (.tup [.str "not", u]) ∧ HoldAt H C k u g ∧ f = fun d => !g d) ∨
    (∃ (b : Bool) (t u : Addr) (vs : List V) (gs : List (Int → Bool)), v = .ref t ∧ H t = some (.tup [.str (if b = true then "and" else "or"), .ref u]) ∧ H u = some (.tup vs) ∧ vs.length ≤ 100 ∧ Paired (fun v g => HoldAt H C k v g) vs gs ∧ f = fun d => if b = true then gs.all (fun g => g d) else gs.any (fun g => g d))
theorem HoldAt.mono {H H' : Hp} (kd : KdT H H') {C : Cal} : ∀ (k : Nat) (v : V) (f : Int → Bool), HoldAt H C k v f → HoldAt H' C k v f
  | 0, _, _, h => h
  | k + 1, _, _, .inl ⟨t, l, e, f, o, g⟩ => .inl ⟨t, l, e, kd _ _ f, o, g⟩
  | k + 1, _, _, .inr (.inl ⟨t, u, g, e, f, h, q⟩) => .inr (.inl ⟨t, u, g, e, kd _ _ f, HoldAt.mono kd k u g h, q⟩)
  | k + 1, _, _, .inr (.inr ⟨b, t, u, vs, gs, e, f, g, l, h, q⟩) => .inr (.inr ⟨b, t, u, vs, gs, e, kd _ _ f, kd _ _ g, l, paired_map (fun v g q => HoldAt.mono kd k v g q) h, q⟩)
theorem HoldAt.up {H : Hp} {C : Cal} : ∀ {k : Nat} {v : V} {f : Int → Bool}, HoldAt H C k v f → HoldAt H C (k + 1) v f
  | 0, _, _, h => h.elim
  | k + 1, _, _, .inl h => .inl h
  | k + 1, _, _, .inr (.inl ⟨t, u, g, e, f, h, q⟩) => .inr (.inl ⟨t, u, g, e, f, HoldAt.up h, q⟩)
  | k + 1, _, _, .inr (.inr ⟨b, t, u, vs, gs, e, f, g, l, h, q⟩) => .inr (.inr ⟨b, t, u, vs, gs, e, f, g, l, paired_map (fun _ _ q => HoldAt.up q) h, q⟩)
theorem paired_swap {α : Type} {R : α → V → Prop} {S : V → (Int → Bool) → Prop} {F : α → Int → Bool} : ∀ {xs : List α} {vs : List V}, (∀ x ∈ xs, ∀ v, R x v → S v (F x)) → Paired R xs vs → Paired S vs (xs.map F)
  | _, _, _, .nil => .nil
  | _, _, h, .cons a t => .cons (h _ (List.mem_cons_self ..) _ a) (paired_swap (fun x hx => h x (List.mem_cons_of_mem _ hx)) t)
/-- a row of parts -/
theorem RepL.hold {α : Type} {H : Hp} {C : Cal} {k : Nat} {R : α → V → Prop} {F : α → Int → Bool} (b : Bool) {xs : List α} {v : V} (hl : xs.length ≤ 100) (h : ∀ x ∈ xs, ∀ v, R x v → HoldAt H C k v (F x)) (r : RepL (if b = true then "and" else "or") H R xs v) :
    HoldAt H C (k + 1) v (fun d => if b = true then xs.all (fun x => F x d) else xs.any (fun x => F x d)) := by
  apply My.two; (focus intro zzI; simp only [↓ My.mkB zzI (by
  clear zzI
  rcases r with ⟨x, rfl, a⟩ | ⟨_, t, u, vs, rfl, f, g, p⟩
  · have := HoldAt.up (h x (List.mem_singleton.mpr rfl) v a)
    have e : (fun d => if b = true then [x].all (fun x => F x d) else [x].any (fun x => F x d)) = F x := by
      funext d
      cases b
      · show ([x].any fun x => F x d) = F x d
        rw [List.any_cons, List.any_nil, Bool.or_false]
      · show ([x].all fun x => F x d) = F x d
        rw [List.all_cons, List.all_nil, Bool.and_true]
    rw [e]
    exact this
  · refine .inr (.inr ⟨b, t, u, vs, xs.map F, rfl, f, g, by rw [← Paired.length p]; exact hl, paired_swap h p, ?_⟩)
    funext d
    rw [List.all_map, List.any_map]
    rfl
  )]); intro f; simpa using My.gz f 5 true
theorem RepN.hold {H : Hp} {C : Cal} {k : Nat} {R : V → Prop} {g : Int → Bool} {j : Nat} {v : V} (h : ∀ v, R v → HoldAt H C k v g) (r : RepN H R j v) : HoldAt H C (k + 1) v (fun d => (j % 2 == 1) ^^ g d) := by
  apply My.two; (focus intro zzI; simp only [↓ My.mkB zzI (by
  clear zzI
  unfold RepN at r
  by_cases c : j % 2 = 1
  · rw [if_pos c] at r
    obtain ⟨t, u, e, f, q⟩ := r
    refine .inr (.inl ⟨t, u, g, e, f, h u q, ?_⟩)
    funext d
    show ((j % 2 == 1) ^^ g d) = !g d
    rw [show (j % 2 == 1) = true from beq_iff_eq.mpr c]
    cases g d <;> rfl
  · rw [if_neg c] at r
    have e : (fun d => (j % 2 == 1) ^^ g d) = g := by
      funext d
      show ((j % 2 == 1) ^^ g d) = g d
      rw [show (j % 2 == 1) = false from beq_eq_false_iff_ne.mpr c]
      cases g d <;> rfl
    rw [e]
    exact HoldAt.up (h v r)
  )]); intro f; simpa using My.gz f 5 true
theorem RepP.hold {H : Hp} {C : Cal} : ∀ (n : Nat) (p : Pn n) (v : V), Pn.ok C n p → RepP H n p v → HoldAt H C (1 + 3 * n) v (Pn.holds C n p)
  | 0, l, _, o, ⟨t, e, f⟩ => .inl ⟨t, l, e, f, o, rfl⟩
  | n + 1, .inl l, _, o, ⟨t, e, f⟩ => by
    rw [show 1 + 3 * (n + 1) = 3 + 3 * n + 1 by omega]
    exact .inl ⟨t, l, e, f, o, rfl⟩
  | n + 1, .inr ts, v, o, r => by
    rw [show 1 + 3 * (n + 1) = 1 + 3 * n + 1 + 1 + 1 by omega]
    exact RepL.hold (F := fun t d => t.all fun f => (f.1 % 2 == 1) ^^ Pn.holds C n f.2 d) false o.1.2 (fun t ht v q => RepL.hold (F := fun f d => (f.1 % 2 == 1) ^^ Pn.holds C n f.2 d) true (o.2 t ht).1.2 (fun f hf v q => RepN.hold (fun v q => RepP.hold n f.2 v ((o.2 t ht).2 f hf) q) q) q) r
theorem RepC.hold {H : Hp} {C : Cal} {n : Nat} {c : Cd n} {v : V} (o : c.ok C) (r : RepC H c v) : HoldAt H C (4 + 3 * n) v (c.holds C) := by
  rw [show 4 + 3 * n = 1 + 3 * (n + 1) by omega]
  exact RepP.hold (n + 1) (.inr c) v o r
theorem _root_.My.Cal.ymn (C : Cal) (d : Int) : C.yr d * (C.mon : Int) + C.mth d - 1 = C.num d := by
  apply My.two; (focus intro zzI; simp only [↓ My.mkB zzI (by
  clear zzI
  have := Int.emod_add_mul_ediv (C.num d) (C.mon : Int)
  unfold Cal.yr Cal.mth
  rw [Int.mul_comm]
  omega
  )]); intro f; simpa using My.gz f 5 true
def sp_isn (K : Fg) : Sp := fun vs H Q _ => ∃ (c : Addr) (C : Cal) (d n w : Int), vs = [.ref c, .int d, .int n, .int w] ∧ CalX K H c C ∧ n ≠ 0 ∧ n.natAbs ≤ 40 ∧ ∀ H' : Hp, Same H H' → Q (.bl (Lf.holds C (.nth n w) d)) H'
theorem ok_is_nth (T : Tx K mg) : FnR P w K mg base CX0 6 (He.ga K "is_nth") (sp_isn K) := by
  apply My.two; (focus intro zzI; simp only [↓ My.mkB zzI (by
  clear zzI
  refine (T.fnR 41 (st := s_is_nth) (at_ := fun K => He.ga K "is_nth") rfl sc_is_nth (fun _ _ _ _ _ _ us hl => match us, hl with | [_, _, _, _], _ => rfl)) (fun vs H Q E h => ?_) (fun cdv A outer s H vs Q E hr h => ?_)
  · obtain ⟨c, C, d, n, w, rfl, _⟩ := h
    rfl
  · obtain ⟨c, C, d, n, w, rfl, hX, n0, n1, k⟩ := h
    refine ⟨_, (pss_cons (ps_asg (mC_parts T hr (pv 0) (pa_cons (pv 1) pa_nil)) (pgt T (n := 3) rfl (pgs_cons (pg_name (i := 4) sc_is_nth.nd rfl (Or.inl rfl)) (pgs_cons (pg_name (i := 5) sc_is_nth.nd rfl (Or.inl rfl)) (pgs_cons (pg_name (i := 6) sc_is_nth.nd rfl (Or.inl rfl)) pgs_nil)))))
 (pss_cons (ps_set (i := 7) sc_is_nth.nd rfl (Or.inl rfl) (pe_ifExp (pt_cmpR op_gt (pv 2) pe_int (nomark _)) (pe_op op_sub (pv 6) pe_int) (pe_op op_sub (mC_month_length T hr (pv 0) (pa_cons (pv 4) (pa_cons (pv 5) pa_nil))) (pv 6))))
 (pss_one (ps_ret (pe_and (pe_cmpR op_eq (mC_weekday T hr (pv 0) (pa_cons (pv 1) pa_nil)) (pv 3) (nomark _)) (pe_one (pe_cmpR op_eq (pe_op op_add (pe_op op_fdiv (pv 7) (pC_week T hr (pv 0))) pe_int) (pe_callB call_abs (by rfl) T.n_abs (by decide +kernel) (pa_cons (pv 2) pa_nil)) (nomark _)))))))), ?_⟩
    obtain ⟨ws2, hw, dx, ay, rr, fr, l, st, hc, B, ok⟩ := id hX
    have w0 := ok.w0
    have a1 : (b8 ay rr fr l st C ++ ws2).lookup ("parts" : Str) = none := b8_none hw
    have a2 : (b8 ay rr fr l st C ++ ws2).lookup ("month_length" : Str) = none := b8_none hw
    have a3 : (b8 ay rr fr l st C ++ ws2).lookup ("weekday" : Str) = none := b8_none hw
    have en := C.ymn d
    obtain ⟨m0, m1⟩ := ok.mth0 d
    rfl'
    rename_i t H1 s1 nt
    intro ft
    have hX1 := hX.same s1
    have hc1 := s1 _ _ hc
    have dn : (decide (V.int (C.wkd d) = V.int w)) = decide (C.wkd d = w) := decide_eq_decide.mpr ⟨V.int.inj, congrArg V.int⟩
    have eh : Lf.holds C (.nth n w) d = (decide (C.wkd d = w) && decide ((if 0 < n then C.day d - 1 else ml C.ls (C.num d) - C.day d) / (C.week : Int) + 1 = (n.natAbs : Int))) := rfl
    rfl'
    refine ite2 (fun c1 => ?_) (fun c1 => ?_)
    · have c2 : 0 < n := of_decide_eq_true c1
      rw [if_pos c2] at eh
      rfl'
      rw [dn]
      by_cases c3 : C.wkd d = w
      · rw [decide_eq_true c3] at eh ⊢
        refine iteT ?_
        rfl'
        have w1 := ok.w1
        refine ⟨⟨by omega, by omega⟩, ?_⟩
        rfl'
        have e : decide (V.int ((C.day d - 1) / (C.week : Int) + 1) = V.int (if n < 0 then -n else n)) = Lf.holds C (.nth n w) d := by
          rw [eh, Bool.true_and, show (if n < 0 then -n else n) = (n.natAbs : Int) from by split <;> omega]
          exact decide_eq_decide.mpr ⟨V.int.inj, congrArg V.int⟩
        show Q (.bl (decide (V.int ((C.day d - 1) / (C.week : Int) + 1) = V.int (if n < 0 then -n else n)))) H1
        rw [e]
        exact k _ s1
      · rw [decide_eq_false c3] at eh ⊢
        refine iteF ?_
        rw [Bool.false_and] at eh
        have := k _ s1
        rw [eh] at this
        exact this
    · have c2 : ¬0 < n := fun z => c1 (decide_eq_true z)
      rw [if_neg c2] at eh
      rfl'
      rw [dn]
      by_cases c3 : C.wkd d = w
      · rw [decide_eq_true c3] at eh ⊢
        refine iteT ?_
        rfl'
        have w1 := ok.w1
        refine ⟨⟨by omega, by omega⟩, ?_⟩
        rfl'
        have e : decide (V.int ((ml C.ls (C.yr d * (C.mon : Int) + C.mth d - 1) - C.day d) / (C.week : Int) + 1) = V.int (if n < 0 then -n else n)) = Lf.holds C (.nth n w) d := by
          rw [eh, Bool.true_and, en, show (if n < 0 then -n else n) = (n.natAbs : Int) from by split <;> omega]
          exact decide_eq_decide.mpr ⟨V.int.inj, congrArg V.int⟩
        show Q (.bl (decide (V.int ((ml C.ls (C.yr d * (C.mon : Int) + C.mth d - 1) - C.day d) / (C.week : Int) + 1) = V.int (if n < 0 then -n else n)))) H1
        rw [e]
        exact k _ s1
      · rw [decide_eq_false c3] at eh ⊢
        refine iteF ?_
        rw [Bool.false_and] at eh
        have := k _ s1
        rw [eh] at this
        exact this
  )]); intro f; simpa using My.gz f 5 true
theorem c_is_nth {X : Cx} {k : Nat} {t : TA} {e : Expr} {es : List Expr} {np pos : Pos} (T : Tx K mg) (hr : Room k X.A) (ha : PA X (e :: es) t) (hk : 6 ≤ k := by decide) (hK : X.K = K := by rfl) (hm : X.mg = mg := by rfl)
    (hg : Gl X "is_nth" := by rfl) (hse : starEach (e :: es) X.env = (false, eval e X.env) :: starEach es X.env := by rfl) (hpl : (backTo pos (starEach es X.env)).any (·.1) = false := by rfl) :
    PE X (.Call (.Name "is_nth" np) (e :: es) [] pos) (tFn (sp_isn K) E0 t) := by
  subst hK
  subst hm
  exact pe_fR (ok_is_nth T) T.kp_is_nth T.g_is_nth (hr.mono hk) pass0 ha hg (by decide) hse hpl
def sp_isd (K : Fg) : Sp := fun vs H Q _ => ∃ (c : Addr) (C : Cal) (d n : Int), vs = [.ref c, .int d, .int n] ∧ CalX K H c C ∧ n ≠ 0 ∧ n.natAbs ≤ 40 ∧ ∀ H' : Hp, Same H H' → Q (.bl (Lf.holds C (.day n) d)) H'
theorem ok_is_day (T : Tx K mg) : FnR P w K mg base CX0 6 (He.ga K "is_day") (sp_isd K) := by
  apply My.two; (focus intro zzI; simp only [↓ My.mkB zzI (by
  clear zzI
  refine (T.fnR 42 (st := s_is_day) (at_ := fun K => He.ga K "is_day") rfl sc_is_day (fun _ _ _ _ _ _ us hl => match us, hl with | [_, _, _], _ => rfl)) (fun vs H Q E h => ?_) (fun cdv A outer s H vs Q E hr h => ?_)
  · obtain ⟨c, C, d, n, rfl, _⟩ := h
    rfl
  · obtain ⟨c, C, d, n, rfl, hX, n0, n1, k⟩ := h
    refine ⟨_, (pss_cons (ps_asg (mC_parts T hr (pv 0) (pa_cons (pv 1) pa_nil)) (pgt T (n := 3) rfl (pgs_cons (pg_name (i := 3) sc_is_day.nd rfl (Or.inl rfl)) (pgs_cons (pg_name (i := 4) sc_is_day.nd rfl (Or.inl rfl)) (pgs_cons (pg_name (i := 5) sc_is_day.nd rfl (Or.inl rfl)) pgs_nil)))))
 (pss_one (ps_ret (pe_cmpR op_eq (pv 5) (pe_ifExp (pt_cmpR op_gt (pv 2) pe_int (nomark _)) (pv 2) (pe_op op_add (pe_op op_add (mC_month_length T hr (pv 0) (pa_cons (pv 3) (pa_cons (pv 4) pa_nil))) pe_int) (pv 2))) (nomark _))))), ?_⟩
    obtain ⟨ws2, hw, dx, ay, rr, fr, l, st, hc, B, ok⟩ := id hX
    have a1 : (b8 ay rr fr l st C ++ ws2).lookup ("parts" : Str) = none := b8_none hw
    have a2 : (b8 ay rr fr l st C ++ ws2).lookup ("month_length" : Str) = none := b8_none hw
    have en := C.ymn d
    obtain ⟨m0, m1⟩ := ok.mth0 d
    rfl'
    rename_i t H1 s1 nt
    intro ft
    have hX1 := hX.same s1
    have hc1 := s1 _ _ hc
    have ew : Lf.holds C (.day n) d = decide (C.day d = if 0 < n then n else ml C.ls (C.num d) + 1 + n) := rfl
    rfl'
    refine ite2 (fun c1 => ?_) (fun c1 => ?_)
    · have c2 : 0 < n := of_decide_eq_true c1
      rw [if_pos c2] at ew
      rfl'
      have e : decide (V.int (C.day d) = V.int n) = Lf.holds C (.day n) d := by
        rw [ew]
        exact decide_eq_decide.mpr ⟨V.int.inj, congrArg V.int⟩
      show Q (.bl (decide (V.int (C.day d) = V.int n))) H1
      rw [e]
      exact k _ s1
    · have c2 : ¬0 < n := fun z => c1 (decide_eq_true z)
      rw [if_neg c2] at ew
      rfl'
      have e : decide (V.int (C.day d) = V.int (ml C.ls (C.yr d * (C.mon : Int) + C.mth d - 1) + 1 + n)) = Lf.holds C (.day n) d := by
        rw [ew, en]
        exact decide_eq_decide.mpr ⟨V.int.inj, congrArg V.int⟩
      show Q (.bl (decide (V.int (C.day d) = V.int (ml C.ls (C.yr d * (C.mon : Int) + C.mth d - 1) + 1 + n)))) H1
      rw [e]
      exact k _ s1
  )]); intro f; simpa using My.gz f 5 true
theorem c_is_day {X : Cx} {k : Nat} {t : TA} {e : Expr} {es : List Expr} {np pos : Pos} (T : Tx K mg) (hr : Room k X.A) (ha : PA X (e :: es) t) (hk : 6 ≤ k := by decide) (hK : X.K = K := by rfl) (hm : X.mg = mg := by rfl)
    (hg : Gl X "is_day" := by rfl) (hse : starEach (e :: es) X.env = (false, eval e X.env) :: starEach es X.env := by rfl) (hpl : (backTo pos (starEach es X.env)).any (·.1) = false := by rfl) :
    PE X (.Call (.Name "is_day" np) (e :: es) [] pos) (tFn (sp_isd K) E0 t) := by
  subst hK
  subst hm
  exact pe_fR (ok_is_day T) T.kp_is_day T.g_is_day (hr.mono hk) pass0 ha hg (by decide) hse hpl
def sp_hpl (K : Fg) : Sp := fun vs H Q _ => ∃ (c t : Addr) (C : Cal) (l : Lf) (d : Int), vs = [.ref c, .ref t, .int d] ∧ CalX K H c C ∧ H t = some (.tup (Lf.vals l)) ∧ l.ok C ∧ ∀ H' : Hp, Same H H' → Q (.bl (l.holds C d)) H'
theorem ok_holds_plain (T : Tx K mg) : FnR P w K mg base CX0 7 (He.ga K "holds_plain") (sp_hpl K) := by
  apply My.two; (focus intro zzI; simp only [↓ My.mkB zzI (by
  clear zzI
  refine (T.fnR 43 (st := s_holds_plain) (at_ := fun K => He.ga K "holds_plain") rfl sc_holds_plain (fun _ _ _ _ _ _ us hl => match us, hl with | [_, _, _], _ => rfl)) (fun vs H Q E h => ?_) (fun cdv A outer s H vs Q E hr h => ?_)
  · obtain ⟨c, t, C, l, d, rfl, _⟩ := h
    rfl
  · obtain ⟨c, t, C, l, d, rfl, hX, ht, okl, k⟩ := h
    refine ⟨_, (pss_cons (ps_set (i := 3) sc_holds_plain.nd rfl (Or.inl rfl) (pe_ix (ixt T) (pv 1) pe_int (fun _ _ => rfl)))
 (pss_cons (ps_if (pt_cmpR (inq T) (pv 3) (pe_tup (pa_cons pe_str (pa_cons pe_str pa_nil))) (by rfl))
 (pss_one (ps_ret (pe_cmpR op_eq (mC_is_work T hr (pv 0) (pa_cons (pv 2) pa_nil)) (pe_cmpR op_eq (pv 3) pe_str (nomark _)) (nomark _))))
 pss_nil)
 (pss_cons (ps_if (pt_cmpR op_eq (pv 3) pe_str (nomark _))
 (pss_one (ps_ret (pe_cmpR op_eq (mC_weekday T hr (pv 0) (pa_cons (pv 2) pa_nil)) (pe_ix (ixt T) (pv 1) pe_int (fun _ _ => rfl)) (nomark _))))
 pss_nil)
 (pss_cons (ps_if (pt_cmpR op_eq (pv 3) pe_str (nomark _))
 (pss_one (ps_ret (pe_cmpR op_eq (pe_ix (ixt T) (mC_parts T hr (pv 0) (pa_cons (pv 2) pa_nil)) pe_int (fun _ _ => rfl)) (pe_ix (ixt T) (pv 1) pe_int (fun _ _ => rfl)) (nomark _))))
 pss_nil)
 (pss_cons (ps_if (pt_cmpR op_eq (pv 3) pe_str (nomark _))
 (pss_one (ps_ret (c_is_day T hr (pa_cons (pv 0) (pa_cons (pv 2) (pa_cons (pe_ix (ixt T) (pv 1) pe_int (fun _ _ => rfl)) pa_nil))))))
 pss_nil)
 (pss_cons (ps_if (pt_cmpR op_eq (pv 3) pe_str (nomark _))
 (pss_one (ps_ret (c_is_nth T hr (pa_cons (pv 0) (pa_cons (pv 2) (pa_cons (pe_ix (ixt T) (pv 1) pe_int (fun _ _ => rfl)) (pa_cons (pe_ix (ixt T) (pv 1) pe_int (fun _ _ => rfl)) pa_nil)))))))
 pss_nil)
 (pss_one (ps_ret (pe_cmpR op_eq (pv 3) pe_str (nomark _)))))))))), ?_⟩
    obtain ⟨ws2, hw, dx, ay, rr, fr, l', st, hc, B, ok⟩ := id hX
    have a1 : (b8 ay rr fr l' st C ++ ws2).lookup ("parts" : Str) = none := b8_none hw
    have a2 : (b8 ay rr fr l' st C ++ ws2).lookup ("is_work" : Str) = none := b8_none hw
    have a3 : (b8 ay rr fr l' st C ++ ws2).lookup ("weekday" : Str) = none := b8_none hw
    have fin : ∀ (b : Bool) (H' : Hp), Same H H' → b = Lf.holds C l d → Q (.bl b) H' := fun b H' s e => e ▸ k H' s
    have dI : ∀ x y : Int, decide (V.int x = V.int y) = decide (x = y) := fun x y => decide_eq_decide.mpr ⟨V.int.inj, congrArg V.int⟩
    have w1 : decide (V.str "work" = V.str "work") = true := decide_eq_true rfl
    have w2 : decide (V.str "rest" = V.str "work") = false := str_no (by decide +kernel)
    cases l
    all_goals
      replace ht := ht
      dsimp only [Lf.vals] at ht
      rfl'
    · exact fin _ _ (by fail "a") (decide_eq_true rfl)
    · exact fin _ _ (by fail "a") (str_no (by decide +kernel))
    · refine fin _ _ (by fail "a") ?_
      rw [w1]
      show decide (V.bl (C.isW d) = V.bl true) = C.isW d
      cases C.isW d <;> rfl
    · refine fin _ _ (by fail "a") ?_
      rw [w2]
      show decide (V.bl (C.isW d) = V.bl false) = !C.isW d
      cases C.isW d <;> rfl
    · exact fin _ _ (by fail "a") (dI _ _)
    · rename_i t2 H2 s2 nt
      intro ft
      rfl'
      exact fin _ _ (by fail "a") (dI _ _)
    · exact ⟨okl.1, okl.2, fun H' s' => fin _ _ (by fail "a") rfl⟩
    · exact ⟨okl.1, okl.2.1, fun H' s' => fin _ _ (by fail "a") rfl⟩
  )]); intro f; simpa using My.gz f 5 true
theorem c_holds_plain {X : Cx} {k : Nat} {t : TA} {e : Expr} {es : List Expr} {np pos : Pos} (T : Tx K mg) (hr : Room k X.A) (ha : PA X (e :: es) t) (hk : 7 ≤ k := by decide) (hK : X.K = K := by rfl) (hm : X.mg = mg := by rfl)
    (hg : Gl X "holds_plain" := by rfl) (hse : starEach (e :: es) X.env = (false, eval e X.env) :: starEach es X.env := by rfl) (hpl : (backTo pos (starEach es X.env)).any (·.1) = false := by rfl) :
    PE X (.Call (.Name "holds_plain" np) (e :: es) [] pos) (tFn (sp_hpl K) E0 t) := by
  subst hK
  subst hm
  exact pe_fR (ok_holds_plain T) T.kp_holds_plain T.g_holds_plain (hr.mono hk) pass0 ha hg (by decide) hse hpl
theorem ch_holds {X : Cx} {k k2 L : Nat} {sp : Sp} {t : TA} {e : Expr} {es : List Expr} {np pos : Pos} (F : FnR X.prog X.w X.K X.mg X.base CX0 L (He.ga X.K "holds") sp) (hr : Room k X.A) (hk : L ≤ k) (T : Tx X.K X.mg) (_ : Room k2 X.A) (ha : PA X (e :: es) t)
    (hg : Gl X "holds" := by rfl) (hse : starEach (e :: es) X.env = (false, eval e X.env) :: starEach es X.env := by rfl) (hpl : (backTo pos (starEach es X.env)).any (·.1) = false := by rfl) :
    PE X (.Call (.Name "holds" np) (e :: es) [] pos) (tFn sp E0 t) :=
  pe_fR F T.kp_holds T.g_holds (hr.mono hk) pass0 ha hg (by decide) hse hpl
theorem paired_get {α β : Type} {R : α → β → Prop} : ∀ {xs : List α} {ys : List β}, Paired R xs ys → ∀ {i : Nat} {x : α}, xs[i]? = some x → ∃ y, ys[i]? = some y ∧ R x y
  | _, _, .nil, _, _, e => by cases e
  | _, _, .cons h _, 0, _, e => by
    cases e
    exact ⟨_, rfl, h⟩
  | _, _, .cons _ t, i + 1, _, e => paired_get t (i := i) e
theorem headV : ∀ l : Lf, ∃ (s : Str) (xs : List V), Lf.vals l = .str s :: xs ∧ s ≠ "not" ∧ s ≠ "and" ∧ s ≠ "or" ∧ s ≠ "in" := fun l => by
  cases l <;> exact ⟨_, _, rfl, by decide +kernel, by decide +kernel, by decide +kernel, by decide +kernel⟩
def sp_hold (K : Fg) (k : Nat) : Sp := fun vs H Q _ => ∃ (c kn : Addr) (C : Cal) (v : V) (f : Int → Bool) (d : Int), vs = [.ref c, v, .int d, .ref kn] ∧ CalX K H c C ∧ HoldAt H C k v f ∧ ∀ H' : Hp, Same H H' → Q (.bl (f d)) H'
theorem ok_holds (T : Tx K mg) : ∀ k : Nat, FnR P w K mg base CX0 (k + 8) (He.ga K "holds") (sp_hold K k)
  | 0 => (T.fnR 44 (st := s_holds) (at_ := fun K => He.ga K "holds") rfl sc_holds (fun _ _ _ _ _ _ us hl => match us, hl with | [_, _, _, _], _ => rfl)) (fun _ _ _ _ h => by
      obtain ⟨_, _, _, _, _, _, _, _, h, _⟩ := h
      exact h.elim) (fun _ _ _ _ _ _ _ _ _ h => by
      obtain ⟨_, _, _, _, _, _, _, _, h, _⟩ := h
      exact h.elim)
  | k' + 1 => by
    apply My.two; (focus intro zzI; simp only [↓ My.mkB zzI (by
    clear zzI
    have IH := ok_holds T k'
    refine (T.fnR 44 (st := s_holds) (at_ := fun K => He.ga K "holds") rfl sc_holds (fun _ _ _ _ _ _ us hl => match us, hl with | [_, _, _, _], _ => rfl)) (fun vs H Q E h => ?_) (fun cdv A outer s H vs Q E hrN h => ?_)
    · obtain ⟨c, kn, C, v, f, d, rfl, _⟩ := h
      rfl
    · have hr : Room 7 _ := hrN.mono (by omega)
      obtain ⟨c, kn, C, v, f, d, rfl, hX, hh, k⟩ := h
      refine ⟨_, (pss_cons (ps_set (i := 4) sc_holds.nd rfl (Or.inl rfl) (pe_ix (ixt T) (pv 1) pe_int (fun _ _ => rfl)))
 (pss_cons (ps_if (pt_cmpR op_eq (pv 4) pe_str (nomark _))
 (pss_one (ps_ret (pe_not ((ch_holds IH hrN (Nat.le_refl _)) T hr (pa_cons (pv 0) (pa_cons (pe_ix (ixt T) (pv 1) pe_int (fun _ _ => rfl)) (pa_cons (pv 2) (pa_cons (pv 3) pa_nil))))))))
 pss_nil)
 (pss_cons (ps_if (pt_cmpR op_eq (pv 4) pe_str (nomark _))
 (pss_one (ps_ret (pe_callB (all_k T rfl) (by rfl) T.n_all (by decide +kernel) (pa_cons (pe_lc (own := [("one", 5)]) rfl sc_holds.nd (pit T (pe_ix (ixt T) (pv 1) pe_int (fun _ _ => rfl))) (blkOk_by (own := [("one", 5)]) (N := N_holds) (sc := defScope s_holds) (by decide +kernel)) (fun _ _ _ _ _ => (pg_name (i := 5) sc_holds.nd rfl (Or.inl rfl))) (fun _ _ _ _ _ => pts_nil) (fun _ _ _ _ _ => ((ch_holds IH hrN (Nat.le_refl _)) T hr (pa_cons (pv 0) (pa_cons (pv 5) (pa_cons (pv 2) (pa_cons (pv 3) pa_nil))))))) pa_nil))))
 pss_nil)
 (pss_cons (ps_if (pt_cmpR op_eq (pv 4) pe_str (nomark _))
 (pss_one (ps_ret (pe_callB (cr_any rfl) (by rfl) T.n_any (by decide +kernel) (pa_cons (pe_lc (own := [("one", 5)]) rfl sc_holds.nd (pit T (pe_ix (ixt T) (pv 1) pe_int (fun _ _ => rfl))) (blkOk_by (own := [("one", 5)]) (N := N_holds) (sc := defScope s_holds) (by decide +kernel)) (fun _ _ _ _ _ => (pg_name (i := 5) sc_holds.nd rfl (Or.inl rfl))) (fun _ _ _ _ _ => pts_nil) (fun _ _ _ _ _ => ((ch_holds IH hrN (Nat.le_refl _)) T hr (pa_cons (pv 0) (pa_cons (pv 5) (pa_cons (pv 2) (pa_cons (pv 3) pa_nil))))))) pa_nil))))
 pss_nil)
 (pss_cons (ps_if (pt_cmpR op_eq (pv 4) pe_str (nomark _))
 (pss_one ps_never)
 pss_nil)
 (pss_one (ps_ret (c_holds_plain T hr (pa_cons (pv 0) (pa_cons (pv 1) (pa_cons (pv 2) pa_nil))))))))))), ?_⟩
      rcases hh with ⟨t, l, rfl, ht, okl, rfl⟩ | ⟨t, u, g, rfl, ht, hu, rfl⟩ | ⟨b, t, u, xs, gs, rfl, ht, hu, ul, ps, rfl⟩
      · obtain ⟨s0, xs, es, n1, n2, n3, n4⟩ := headV l
        have ht2 := ht
        rw [es] at ht2
        have ea : atI (V.str s0 :: xs) 0 = some (V.str s0) := atI_nat (j := 0) rfl
        rfl'
        rw [str_no n1]
        rfl'
        rw [str_no n2]
        rfl'
        rw [str_no n3]
        rfl'
        rw [str_no n4]
        rfl'
        exact k _ (by fail "a")
      · rfl'
        exact k _ (by fail "a")
      · cases b
        · rfl'
          intro D hD
          refine walk_w (walk_tup (xs := xs)) (fun j H' => Same H H' ∧ H' D = some (.lst (((gs.map fun g => g d).take j).map V.bl))) ⟨same_upd hD, upd_same⟩ (fun j H' _ h => SqT.of (h.1 _ _ hu)) ?_ ?_
          · rintro j v _ H1 hj ⟨s1, e1⟩ ⟨rfl, ev⟩
            obtain ⟨g, eg, hg⟩ := paired_get ps ev
            have hX1 := hX.same s1
            refine ⟨rfl, ?_⟩
            refine yes_t ?_
            rfl'
            refine ⟨HoldAt.mono (KdT.of s1) k' v g hg, fun H2 s2 => ⟨_, s2 _ _ e1, ?_, same_under (s1.trans s2) hD, ?_⟩⟩
            · rw [List.length_map, List.length_take, sizeLine_eq]
              omega
            · rw [upd_same, List.take_add_one, List.getElem?_map, eg, List.map_append]
              rfl
          rintro H1 ⟨s1, e1⟩
          rw [List.take_of_length_le (by rw [List.length_map, Paired.length ps]; exact Nat.le_refl _)] at e1
          rfl'
          show Q (.bl ((gs.map fun g => g d).any id)) H1
          rw [List.any_map]
          exact k _ s1
        · rfl'
          intro D hD
          refine walk_w (walk_tup (xs := xs)) (fun j H' => Same H H' ∧ H' D = some (.lst (((gs.map fun g => g d).take j).map V.bl))) ⟨same_upd hD, upd_same⟩ (fun j H' _ h => SqT.of (h.1 _ _ hu)) ?_ ?_
          · rintro j v _ H1 hj ⟨s1, e1⟩ ⟨rfl, ev⟩
            obtain ⟨g, eg, hg⟩ := paired_get ps ev
            have hX1 := hX.same s1
            refine ⟨rfl, ?_⟩
            refine yes_t ?_
            rfl'
            refine ⟨HoldAt.mono (KdT.of s1) k' v g hg, fun H2 s2 => ⟨_, s2 _ _ e1, ?_, same_under (s1.trans s2) hD, ?_⟩⟩
            · rw [List.length_map, List.length_take, sizeLine_eq]
              omega
            · rw [upd_same, List.take_add_one, List.getElem?_map, eg, List.map_append]
              rfl
          rintro H1 ⟨s1, e1⟩
          rw [List.take_of_length_le (by rw [List.length_map, Paired.length ps]; exact Nat.le_refl _)] at e1
          rfl'
          show Q (.bl ((gs.map fun g => g d).all id)) H1
          rw [List.all_map]
          exact k _ s1
    )]); intro f; simpa using My.gz f 5 true
end
end Lw
namespace Lw
open PySem PySem.Spec PyProof.Rows L2 My
section
variable {P : Program} {w : World} {K : Fg} {mg : Str → Option Value} {base : Heap}
def WOk (y : Str) : Prop := 32 ∉ y.cps.toList ∧ y.length ≤ 13
theorem wlit {y : Str} (h : (y.cps.toList.all (fun c => decide (c ≠ 32)) && decide (y.length ≤ 13)) = true) : WOk y := by
  rw [Bool.and_eq_true] at h
  exact ⟨fun z => of_decide_eq_true (List.all_eq_true.mp h.1 _ z) rfl, of_decide_eq_true h.2⟩
theorem sepW_mem {s y : Str} : ∀ {xs : List (List Str)}, y ∈ sepW s xs → y = s ∨ ∃ x ∈ xs, y ∈ x
  | x :: xs, h => by
    apply My.two; (focus intro zzI; simp only [↓ My.mkB zzI (by
    clear zzI
    rcases List.mem_append.mp h with h | h
    · exact .inr ⟨x, List.mem_cons_self .., h⟩
    · obtain ⟨z, hz, h⟩ := List.mem_flatMap.mp h
      rcases List.mem_cons.mp h with h | h
      · exact .inl h
      · exact .inr ⟨z, List.mem_cons_of_mem _ hz, h⟩
    )]); intro f; simpa using My.gz f 5 true
theorem Lf.words_ok {C : Cal} (o : C.Ok) {l : Lf} (h : l.ok C) : ∀ y ∈ Lf.words l, WOk y := fun y hy => by
  have w1 := o.w1
  have m1 := o.m1
  cases l <;> simp only [Lf.words, List.mem_cons, List.not_mem_nil, or_false] at hy <;> simp only [Lf.ok] at h
  case all => rw [hy]; exact wlit (by decide +kernel)
  case none => rw [hy]; exact wlit (by decide +kernel)
  case work => rw [hy]; exact wlit (by decide +kernel)
  case rest => rw [hy]; exact wlit (by decide +kernel)
  case wkd v => rcases hy with rfl | rfl; exact wlit (by decide +kernel); exact num_ok (by omega)
  case mon v => rcases hy with rfl | rfl; exact wlit (by decide +kernel); exact num_ok (by omega)
  case day v => rcases hy with rfl | rfl; exact wlit (by decide +kernel); exact num_ok (by omega)
  case nth v u => rcases hy with rfl | rfl | rfl; exact wlit (by decide +kernel); exact num_ok (by omega); exact num_ok (by omega)
theorem notsW {j : Nat} {y : Str} (h : y ∈ List.replicate j ("not" : Str)) : WOk y := by
  rw [List.eq_of_mem_replicate h]
  exact wlit (by decide +kernel)
theorem Pn.words_ok {C : Cal} (o : C.Ok) : ∀ (n : Nat) (p : Pn n), Pn.ok C n p → ∀ y ∈ Pn.words n p, WOk y
  | 0, l, h => Lf.words_ok o h
  | _ + 1, .inl l, h => Lf.words_ok (l := l) o h
  | n + 1, .inr c, h => fun y hy => by
    apply My.two; (focus intro zzI; simp only [↓ My.mkB zzI (by
    clear zzI
    rcases List.mem_cons.mp hy with rfl | hy
    · exact wlit (by decide +kernel)
    rcases List.mem_append.mp hy with hy | hy
    · rcases sepW_mem hy with rfl | ⟨x, hx, hy⟩
      · exact wlit (by decide +kernel)
      obtain ⟨t, ht, rfl⟩ := List.mem_map.mp hx
      rcases sepW_mem hy with rfl | ⟨x, hx, hy⟩
      · exact wlit (by decide +kernel)
      obtain ⟨f, hf, rfl⟩ := List.mem_map.mp hx
      rcases List.mem_append.mp hy with hy | hy
      · exact notsW hy
      · exact Pn.words_ok o n f.2 ((h.2 t ht).2 f hf) y hy
    · rw [List.mem_singleton.mp hy]
      exact wlit (by decide +kernel)
    )]); intro f; simpa using My.gz f 5 true
theorem Cd.words_ok {C : Cal} (o : C.Ok) {n : Nat} {c : Cd n} (h : c.ok C) : ∀ y ∈ Cd.words c, WOk y := fun y hy => by
  rcases sepW_mem hy with rfl | ⟨x, hx, hy⟩
  · exact wlit (by decide +kernel)
  obtain ⟨t, ht, rfl⟩ := List.mem_map.mp hx
  rcases sepW_mem hy with rfl | ⟨x, hx, hy⟩
  · exact wlit (by decide +kernel)
  obtain ⟨f, hf, rfl⟩ := List.mem_map.mp hx
  rcases List.mem_append.mp hy with hy | hy
  · exact notsW hy
  · exact Pn.words_ok o n f.2 ((h.2 t ht).2 f hf) y hy
theorem join_split_ok {ws : List Str} (h : ∀ y ∈ ws, WOk y) (ne : ws ≠ []) (hl : ws.length ≤ 20000) : Txt.split (Txt.join " " ws) " " = ws ∧ (Txt.join " " ws).length ≤ 1000000 ∧ (ws.map (·.length)).sum + ws.length * (" " : Str).length ≤ 1000000 := by
  apply My.two; (focus intro zzI; simp only [↓ My.mkB zzI (by
  clear zzI
  have l : (ws.map (·.length)).sum + ws.length * (" " : Str).length ≤ 1000000 := by
    have := sum_len (B := 13) (ys := ws) fun y hy => (h y hy).2
    rw [show (" " : Str).length = 1 by decide +kernel]
    omega
  refine ⟨?_, Nat.le_trans (join_len _ _) l, l⟩
  cases ws with
  | nil => exact absurd rfl ne
  | cons p ps =>
    rw [space_eq]
    exact split_join fun x hx => (h x hx).1
  )]); intro f; simpa using My.gz f 5 true
def sp_rii (K : Fg) : Sp := fun vs H Q _ => ∃ (x dx c : Addr) (tt : Str) (b : Bool), vs = [.ref x, .ref c, .str tt, .bl b] ∧ H x = some (.ins (RD K) dx []) ∧ tt.length ≤ 1000000 ∧
  ∀ (R : Rdr) (H' : Hp), Kx x H H' → RdAt K H' x R (Txt.split tt " ") → R.c = c → R.W = Txt.split tt " " → R.p = 0 → R.d = 0 → R.m = 0 → H' R.cu = some (.lst []) → H R.cu = none → Q .non H'
theorem okR_init (T : Tx K mg) : FnR P w K mg base CX0 1 (He.ma K (RD K) "__init__") (sp_rii K) := by
  apply My.two; (focus intro zzI; simp only [↓ My.mkB zzI (by
  clear zzI
  refine (T.fnR 24 (st := s_Readeru_initu) (at_ := fun K => He.ma K (He.ga K "Reader") "__init__") rfl sc_Readeru_initu (fun _ _ _ _ _ _ us hl => match us, hl with | [_, _, _, _], _ => rfl)) (fun vs H Q E h => ?_) (fun cdv A outer s H vs Q E hr h => ?_)
  · obtain ⟨x, dx, c, tt, b, rfl, _⟩ := h
    rfl
  · obtain ⟨x, dx, c, tt, b, rfl, hx, hl, k⟩ := h
    refine ⟨_, (pss_cons (ps_fld (pv 0) (pv 1) rfl)
 (pss_cons (ps_fld (pv 0) (pe_split (pv 2) pe_str) rfl)
 (pss_cons (ps_fld (pv 0) pe_int rfl)
 (pss_cons (ps_fld (pv 0) pe_int rfl)
 (pss_cons (ps_fld (pv 0) pe_int rfl)
 (pss_cons (ps_fld (pv 0) (pv 3) rfl)
 (pss_one (ps_fld (pv 0) (pe_lst pa_nil) rfl)))))))), ?_⟩
    have I0 : Ini (RD K) H H x dx [] [] := ⟨hx, Kx.refl _, fun F h => by cases h⟩
    refine ⟨_, rfl, _, rfl, x, _, dx, _, rfl, I0.at_, T.cl_RD, T.no_RD_guide, (by show 0 < 1000; decide), ?_⟩
    have I1 := I0.put (gs := [("guide", V.ref c)])
    refine Ini.go (R := tSeq _ _ _ _) I1 fun H1 I1 => ?_
    have o1 := I1.at_
    rfl'
    refine ⟨⟨_, rfl⟩, ?_⟩
    rfl'
    refine ⟨by rw [sizeLine_eq]; omega, ?_⟩
    rfl'
    rename_i p hp H2 s2 f2
    refine ⟨show 1 < 1000 by decide, ?_⟩
    have I2 := ((I1.same s2).add si_lst f2).put (gs := [("guide", V.ref c), ("words", V.ref p)])
    refine Ini.go (R := tSeq _ _ _ _) I2 fun H3 I3 => ?_
    have o3 := I3.at_
    clear I2 I1 I0 o1
    rfl'
    refine ⟨show 2 < 1000 by decide, ?_⟩
    have I13 := I3.put (gs := [("guide", V.ref c), ("words", V.ref p), ("place", natV 0)])
    refine Ini.go (R := tSeq _ _ _ _) I13 fun H4 I4 => ?_
    have o4 := I4.at_
    rfl'
    refine ⟨show 3 < 1000 by decide, ?_⟩
    have I14 := I4.put (gs := [("guide", V.ref c), ("words", V.ref p), ("place", natV 0), ("depth", natV 0)])
    refine Ini.go (R := tSeq _ _ _ _) I14 fun H5 I5 => ?_
    have o5 := I5.at_
    rfl'
    refine ⟨show 4 < 1000 by decide, ?_⟩
    have I15 := I5.put (gs := [("guide", V.ref c), ("words", V.ref p), ("place", natV 0), ("depth", natV 0), ("many", natV 0)])
    refine Ini.go (R := tSeq _ _ _ _) I15 fun H6 I6 => ?_
    have o6 := I6.at_
    rfl'
    refine ⟨show 5 < 1000 by decide, ?_⟩
    have I7 := I6.put (gs := putF "with_names" (V.bl b) [("guide", V.ref c), ("words", V.ref p), ("place", natV 0), ("depth", natV 0), ("many", natV 0)])
    generalize upd H6 x (HO.ins (RD K) dx (putF "with_names" (V.bl b) [("guide", V.ref c), ("words", V.ref p), ("place", natV 0), ("depth", natV 0), ("many", natV 0)])) = H7 at I7 ⊢
    have o7 := I7.at_
    rfl'
    rename_i q hq H8 s8 f8
    refine ⟨show 6 < 1000 by decide, ?_⟩
    have I9 := ((I7.same s8).add si_lst f8).put (gs := rdF ⟨c, p, q, dx, Txt.split tt " ", 0, 0, 0, b⟩)
    exact k ⟨c, p, q, dx, Txt.split tt " ", 0, 0, 0, b⟩ _ I9.kx ⟨I9.at_, I9.get 1, rfl⟩ rfl rfl rfl rfl rfl (I9.get 0) (I7.free hq)
  )]); intro f; simpa using My.gz f 5 true
theorem mk_Reader {X : Cx} {k : Nat} {t : TA} {e : Expr} {es : List Expr} {np pos : Pos} (T : Tx K mg) (hr : Room k X.A) (ha : PA X (e :: es) t) (hk : 2 ≤ k := by decide) (hK : X.K = K := by rfl) (hm : X.mg = mg := by rfl)
    (hg : Gl X "Reader" := by rfl) (hse : starEach (e :: es) X.env = (false, eval e X.env) :: starEach es X.env := by rfl) (hpl : (backTo pos (starEach es X.env)).any (·.1) = false := by rfl) :
    PE X (.Call (.Name "Reader" np) (e :: es) [] pos) (StX.tMakeR (RD K) (sp_rii K) E0 t) := by
  subst hK
  subst hm
  exact StX.pe_makeR T.mk_RD (okR_init T) (hr.mono hk) hg T.g_Reader pass0 ha (by decide) hse hpl
end
end Lw
namespace Lw
open PySem PySem.Spec PyProof.Rows L2 My
section
variable {P : Program} {w : World} {K : Fg} {mg : Str → Option Value} {base : Heap}
/-- the depth of this law's sets -/
abbrev QS : Nat := 6
theorem sepW_ne {s : Str} {xs : List (List Str)} (h : xs ≠ []) (h2 : ∀ x ∈ xs, x ≠ []) : sepW s xs ≠ [] := by
  apply My.two; (focus intro zzI; simp only [↓ My.mkB zzI (by
  clear zzI
  cases xs with
  | nil => exact absurd rfl h
  | cons x xs => exact fun z => h2 x (List.mem_cons_self ..) (List.append_eq_nil_iff.mp z).1
  )]); intro f; simpa using My.gz f 5 true
theorem Cd.words_ne {C : Cal} {n : Nat} {c : Cd n} (h : c.ok C) : Cd.words c ≠ [] := by
  apply My.two; (focus intro zzI; simp only [↓ My.mkB zzI (by
  clear zzI
  refine sepW_ne (fun z => h.1.1 (List.map_eq_nil_iff.mp z)) fun x hx => ?_
  obtain ⟨t, ht, rfl⟩ := List.mem_map.mp hx
  refine sepW_ne (fun z => (h.2 t ht).1.1 (List.map_eq_nil_iff.mp z)) fun y hy => ?_
  obtain ⟨f, hf, rfl⟩ := List.mem_map.mp hy
  intro z
  obtain ⟨a, b, e, _⟩ := Pn.words_head n f.2
  have := (List.append_eq_nil_iff.mp z).2
  rw [e] at this
  cases this
  )]); intro f; simpa using My.gz f 5 true
def sp_setin (K : Fg) (n : Nat) : Sp := fun vs H Q _ => ∃ (c : Addr) (C : Cal) (x : Cd n), vs = [.ref c, .str (Txt.join " " (Cd.words x)), .bl false] ∧ CalX K H c C ∧ x.ok C ∧ (Cd.words x).length ≤ 20000 ∧
  ∀ (v : V) (H' : Hp), Same H H' → RepC H' x v → Q v H'
theorem oka_set_in (T : Tx K mg) (n : Nat) (n6 : n ≤ 6) : FnA P w K mg base (11 + 4 * n + 1) (He.ga K "set_in") "set_in" "set_in" s_set_in [V.bl false] [("calendar" : Str), ("text" : Str), ("with_names" : Str)] (sp_setin K n) := by
  apply My.two; (focus intro zzI; simp only [↓ My.mkB zzI (by
  clear zzI
  refine (T.fnA 60 (st := s_set_in) (at_ := fun K => He.ga K "set_in") rfl sc_set_in) (fun vs H Q E h => ?_) (fun cdv A outer s H vs Q E hrN h => ?_)
  · obtain ⟨c, C, x, rfl, _⟩ := h
    rfl
  · have hr : Room 6 _ := hrN.mono (by omega)
    obtain ⟨c, C, x, rfl, hX, ok, wl, k⟩ := h
    have FR := okR_condition_all T n (P := P) (w := w) (base := base)
    refine ⟨_, (pss_cons (ps_if (pt_not (pt_val (pe_callB (isi_k T) (by rfl) T.n_isinstance (by decide +kernel) (pa_cons (pv 1) (pa_cons (pe_bltn (v := .ty "str") (u := .type "str") rfl T.n_str (by decide +kernel) rfl) pa_nil)))))
 (pss_one ps_never)
 pss_nil)
 (pss_cons (ps_set (i := 3) sc_set_in.nd rfl (Or.inl rfl) (mk_Reader T hr (pa_cons (pv 0) (pa_cons (pv 1) (pa_cons (pv 2) pa_nil)))))
 (pss_cons (ps_set (i := 4) sc_set_in.nd rfl (Or.inl rfl) ((mRh_condition FR hrN (by omega)) T hr (pv 3)))
 (pss_cons (ps_expr (mR_finish T hr (pv 3)))
 (pss_one (ps_ret (pv 4))))))), ?_⟩
    obtain ⟨ws0, hw0, dx0, ay0, rr0, fr0, l0, st0, hc0, B0, okC⟩ := id hX
    obtain ⟨sp, jl, sl⟩ := join_split_ok (Cd.words_ok okC ok) (Cd.words_ne ok) wl
    obtain ⟨W, hW⟩ : ∃ W, W = Txt.join " " (Cd.words x) := ⟨_, rfl⟩
    rw [← hW] at sp jl ⊢
    rfl'
    refine ⟨.ty _, .base (.str _), (kit_ty (by decide +kernel) : PySem.W.kitOne K (.type "str") (.type "str") = some true), ?_⟩
    rfl'
    intro a dx nx nd ne
    have s0 : Same H (upd (upd H dx (.own a)) a (.ins (RD K) dx [])) := fun b u e => by
      rw [upd_ne (ne_of_none e nx), upd_ne (ne_of_none e nd)]
      exact e
    refine ⟨a, dx, c, W, false, rfl, upd_same, jl, ?_⟩
    rw [sp]
    intro R H1 k1 h1 rc rW rp rd rm hcu ncu
    have hs1 : ∀ b o, H b = some o → H1 b = some o := fun b o e => k1 b o (s0 b o e) (ne_of_none e nx)
    have hX1 : CalX K H1 R.c C := by
      rw [rc]
      exact hX.same hs1
    have o1 := h1.o
    refine ⟨rfl, ?_⟩
    have h1' : RdAt K H1 a R (Cd.words x ++ []) := by
      rw [List.append_nil]
      exact h1
    have dn : R.d + n ≤ 6 := by omega
    rfl'
    intro v H2 k2 h2 f2
    have o2 := h2.o
    have m60 : (R.go (Cd.words x).length).m ≤ 60 := by
      show R.m ≤ 60
      omega
    rfl'
    exact k v H2 (fun b o e => k2 _ _ (hs1 b o e) (ne_of_none e nx)) f2
  )]); intro f; simpa using My.gz f 5 true
theorem ok_set_in (T : Tx K mg) : FnR P w K mg base CX0 36 (He.ga K "set_in") (fun vs H Q E => sp_setin K QS (vs ++ [V.bl false]) H Q E) := by
  obtain ⟨fd1, F1⟩ := T.fund 60
  exact ((oka_set_in T QS (by decide)).dfl1 F1 2 (fun z => by cases z) rfl (fun T kV doc pm an cdv ct us its h1 h2 => match us, its, h1, h2 with | [_, _], [_], _, _ => ⟨_, rfl, rfl⟩)).mono (by decide)
theorem c_set_in {X : Cx} {k : Nat} {t : TA} {e : Expr} {es : List Expr} {np pos : Pos} (T : Tx K mg) (hr : Room k X.A) (ha : PA X (e :: es) t) (hk : 36 ≤ k := by decide) (hK : X.K = K := by rfl) (hm : X.mg = mg := by rfl)
    (hg : Gl X "set_in" := by rfl) (hse : starEach (e :: es) X.env = (false, eval e X.env) :: starEach es X.env := by rfl) (hpl : (backTo pos (starEach es X.env)).any (·.1) = false := by rfl) :
    PE X (.Call (.Name "set_in" np) (e :: es) [] pos) (tFn (fun vs H Q E => sp_setin K QS (vs ++ [V.bl false]) H Q E) E0 t) := by
  subst hK
  subst hm
  exact pe_fR (ok_set_in T) T.kp_set_in T.g_set_in (hr.mono hk) pass0 ha hg (by decide) hse hpl
def sp_sread (K : Fg) (n : Nat) : Sp := fun vs H Q _ => ∃ (c : Addr) (C : Cal) (x : Cd n), vs = [.ref (DS K), .ref c, .str (Txt.join " " (Cd.words x))] ∧ CalX K H c C ∧ x.ok C ∧ (Cd.words x).length ≤ 20000 ∧ C.per ≤ 4000 ∧
  ∀ (s : Addr) (H' : Hp), Same H H' → H s = none → SetAt K H' s (off ((List.range C.per).map fun i : Nat => if x.holds C (i : Int) = true then 1 else 0)) → Q (.ref s) H'
theorem okq_read (T : Tx K mg) : FnQ P w K mg base 37 (He5.wf K (DS K) "classmethod" "read") "read" "DaySet.read" s_DaySet_read [("cls" : Str), ("calendar" : Str), ("text" : Str)] (sp_sread K QS) := by
  apply My.two; (focus intro zzI; simp only [↓ My.mkB zzI (by
  clear zzI
  refine (T.fnQ 5 (st := s_DaySet_read) (at_ := fun K => He5.wf K (He.ga K "DaySet") "classmethod" "read") rfl sc_DaySet_read (fun _ _ _ _ _ _ us hl => match us, hl with | [_, _, _], _ => rfl)) (fun vs H Q E h => ?_) (fun cdv A outer s H vs Q E hr h => ?_)
  · obtain ⟨c, C, x, rfl, _⟩ := h
    rfl
  · obtain ⟨c, C, x, rfl, hX, ok, wl, p4, k⟩ := h
    have FH := ok_holds T (4 + 3 * QS) (P := P) (w := w) (base := base)
    refine ⟨_, (pss_cons (ps_asg (pe_tup (pa_cons (c_set_in T hr (pa_cons (pv 1) (pa_cons (pv 2) pa_nil))) (pa_cons (pC_period T hr (pv 1)) pa_nil))) (pgt T (n := 2) rfl (pgs_cons (pg_name (i := 3) sc_DaySet_read.nd rfl (Or.inr rfl)) (pgs_cons (pg_name (i := 4) sc_DaySet_read.nd rfl (Or.inl rfl)) pgs_nil))))
 (pss_one (ps_ret (mkVS T hr (pa_cons (pv 4) (pa_cons (pe_lc (own := [("day", 5)]) rfl sc_DaySet_read.nd (pi_range1 rfl T.n_range (pa_cons (pv 4) pa_nil)) (blkOk_by (own := [("day", 5)]) (N := N_DaySet_read) (sc := defScope s_DaySet_read) (by decide +kernel)) (fun _ _ _ _ _ => (pg_name (i := 5) sc_DaySet_read.nd rfl (Or.inl rfl))) (fun _ _ _ _ _ => (pts_one (pt_val ((ch_holds FH hr (by decide)) T hr (pa_cons (pv 1) (pa_cons (pv 3) (pa_cons (pv 5) (pa_cons pe_dnewK pa_nil)))))))) (fun _ _ _ _ _ => (pv 5))) pa_nil)))))), ?_⟩
    obtain ⟨ws0, hw0, dx0, ay0, rr0, fr0, l0, st0, hc0, B0, okC⟩ := id hX
    have k1 : (b8 ay0 rr0 fr0 l0 st0 C ++ ws0).lookup ("period" : Str) = none := b8_none hw0
    rfl'
    rename_i v H1 s1 f1 tp ntp H2 s2 e2
    obtain ⟨r, hrr⟩ : ∃ r : List Int, ((List.range C.per).map fun i : Nat => if x.holds C (i : Int) = true then (1 : Int) else 0) = r := ⟨_, rfl⟩
    have rl : r.length = C.per := by rw [← hrr, List.length_map, List.length_range]
    have ro : ∀ i : Nat, i < C.per → off r (i : Int) = if x.holds C (i : Int) = true then 1 else 0 := fun i hi => by
      have h := off_nat (r := r) (i := i) (by omega)
      have h2 : r[i]? = some (if x.holds C (i : Int) = true then 1 else 0) := by
        rw [← hrr, List.getElem?_map, List.getElem?_range hi]
        rfl
      rw [h2] at h
      exact (Option.some.inj h).symm
    have rb : Bits r := fun z hz => by
      rw [← hrr] at hz
      obtain ⟨i, _, rfl⟩ := List.mem_map.mp hz
      split
      · exact .inr rfl
      · exact .inl rfl
    rw [hrr] at k
    have r0 : 0 < r.length := by
      rw [rl]
      exact okC.p0
    have s12 := s1.trans s2
    clear ntp
    intro D hD
    refine walk_w walk_range (fun i H' => Same H2 H' ∧ H' D = some (.lst ((mem1 r i).map V.int))) ⟨same_upd hD, upd_same⟩ (fun _ _ _ _ => trivial) ?_ ?_
    · rintro i y _ H3 hi ⟨s3, e3⟩ ⟨rfl, rfl⟩
      rw [Int.toNat_natCast] at hi
      have hX3 : CalX K H3 c C := hX.same (s12.trans s3)
      have hh : HoldAt H3 C (4 + 3 * QS) v (x.holds C) := RepC.hold ok (RepC.mono (KdT.of (s2.trans s3)) f1)
      have ml := mem1_len r i
      refine ⟨rfl, ?_⟩
      have dI : (x.holds C (0 + (i : Int)) = true) ↔ off r (i : Int) = 1 := by
        rw [Int.zero_add, ro i hi]
        split
        · next q => exact ⟨fun _ => rfl, fun _ => q⟩
        · next q => exact ⟨fun z => absurd z q, fun z => absurd z (by decide)⟩
      rfl'
      rename_i q nq H4 s4 f4
      refine ⟨HoldAt.mono (KdT.of s4) _ _ _ hh, fun H5 s5 => ⟨_, rfl, ?_⟩⟩
      refine ite2 (fun cc => ?_) (fun cc => ?_)
      · refine ⟨_, rfl, _, s5 _ _ (s4 _ _ e3), szl (by rw [List.length_map]; omega), same_under (s3.trans (s4.trans s5)) hD, ?_⟩
        rw [upd_same, mem1_yes (dI.mp cc), List.map_append]
        show some (HO.lst (_ ++ [V.int (0 + (i : Int))])) = _
        rw [Int.zero_add]
        rfl
      · refine ⟨s3.trans (s4.trans s5), ?_⟩
        rw [mem1_no (fun z => cc (dI.mpr z))]
        exact s5 _ _ (s4 _ _ e3)
    rintro H3 ⟨s3, e3⟩
    rw [Int.toNat_natCast] at e3
    have ml := mem1_len r C.per
    have asc := mem1_asc r C.per
    intro y dx nx nd ne
    refine smake_in nx nd ne (.inl e3) okC.p0 (by omega) (fun d hd => ?_) (asc.imp fun h => Int.ne_of_lt h) (by omega) fun H6 s6 m => ⟨rfl, ?_⟩
    · obtain ⟨j, hj, rfl, _⟩ := mem1_in.mp hd
      omega
    rw [show flg C.per (mem1 r C.per) = r by rw [← rl]; exact flg_mem rb r0 fun _ => Iff.rfl] at m
    exact k y H6 (s12.trans (s3.trans s6)) ((s12.trans s3).free nx) m
  )]); intro f; simpa using My.gz f 5 true
theorem okD_read (T : Tx K mg) : FnR P w K mg base CX0 37 (He5.wf K (DS K) "classmethod" "read") (sp_sread K QS) := (okq_read T).r
theorem cm_read {X : Cx} {k : Nat} {o e : Expr} {es : List Expr} {ta : TE} {t : TA} {apos pos : Pos} {pl : Sem Bool} (T : Tx K mg) (hr : Room k X.A) (he : PE X o ta) (ha : PA X (e :: es) t) (hk : 37 ≤ k := by decide) (hK : X.K = K := by rfl) (hm : X.mg = mg := by rfl)
    (hst : starEach (e :: es) X.env = (false, eval e X.env) :: starEach es X.env := by rfl) (hpl : (backTo pos (starEach es X.env)).any (·.1) = false := by rfl)
    (ht : eval (.Call (.Attribute o "read" apos) (e :: es) [] pos) X.env = (do
      let ov ← eval o X.env
      standAt apos.atName
      let (f, first) ← holding [ov] (getMethod ov "read" pl)
      callWith pos f first (backTo pos (starEach (e :: es) X.env)) (backToKw pos (keywordEach [] X.env))) := by rfl) :
    PE X (.Call (.Attribute o "read" apos) (e :: es) [] pos) (ClX.tCMeth (DS K) (sp_sread K QS) E0 ta t) := by
  subst hK
  subst hm
  exact ClX.pe_cmeth he T.cr_DS T.cm_DS_read (okD_read T) (hr.mono hk) pass0 ha hst hpl ht
theorem cmk_read_text_calendar {X : Cx} {k : Nat} {o : Expr} {ta : TE} {tk : TA} {kws : List Keyword} {apos pos : Pos} {pl : Sem Bool} (T : Tx K mg) (hr : Room k X.A) (he : PE X o ta) (hkw : PK X kws tk) (hk : 37 ≤ k := by decide) (hK : X.K = K := by rfl) (hm : X.mg = mg := by rfl)
    (hall : (backToKw pos (keywordEach kws X.env)).all (·.1.isSome) = true := by rfl) (hks : (backToKw pos (keywordEach kws X.env)).filterMap (·.1) = [("text" : Str), ("calendar" : Str)] := by rfl)
    (hpl : ((backTo pos (starEach [] X.env)).any (·.1) || (backToKw pos (keywordEach kws X.env)).any (·.1.isNone)) = false := by rfl)
    (ht : eval (.Call (.Attribute o "read" apos) [] kws pos) X.env = (do
      let ov ← eval o X.env
      standAt apos.atName
      let (f, first) ← holding [ov] (getMethod ov "read" pl)
      callWith pos f first (backTo pos (starEach [] X.env)) (backToKw pos (keywordEach kws X.env))) := by rfl) :
    PE X (.Call (.Attribute o "read" apos) [] kws pos) (tCMK0 (DS K) 2 [0, 2, 1] (sp_sread K QS) E0 ta tk) := by
  subst hK
  subst hm
  exact pe_cmK0 (ks := [("text" : Str), ("calendar" : Str)]) he T.cr_DS T.cm_DS_read ((okq_read T).kw 1 [("text" : Str), ("calendar" : Str)] [0, 2, 1] (fun _ _ _ _ _ _ us ws h1 h2 => match us, ws, h1, h2 with | [_], [_, _], _, _ => rfl)) (hr.mono hk) pass0 hkw hall hks hpl ht
end
end Lw
namespace Lw
open PySem PySem.Spec PyProof.Rows L2 My
def penD (l : Addr) (t z : Int) : List (Key × V) := [(.inr "cells", .ref l), (.inr "used", .int t), (.inr "left", .int z)]
theorem k_ct : ¬ (("cells" : Str) = "used") := by decide +kernel
theorem k_cl : ¬ (("cells" : Str) = "left") := by decide +kernel
theorem k_tl : ¬ (("used" : Str) = "left") := by decide +kernel
theorem kk {a b : Str} (h : ¬ a = b) : ¬ ((Sum.inr a : Key) = Sum.inr b) := fun e => h (Sum.inr.inj e)
section
variable {l : Addr} {t z t' z' : Int} {H : Hp} {p : Addr}
theorem pen_cells : valV (penD l t z) (.inr "cells") = some (.ref l) := valV_pos rfl
theorem pen_turn : valV (penD l t z) (.inr "used") = some (.int t) := (valV_neg (kk k_ct)).trans (valV_pos rfl)
theorem pen_left : valV (penD l t z) (.inr "left") = some (.int z) := (valV_neg (kk k_cl)).trans ((valV_neg (kk k_tl)).trans (valV_pos rfl))
theorem pen_setT : putK (penD l t z) (.inr "used") (.int t') = penD l t' z := by
  have h1 : ¬ (("left" : Str) = "used") := fun e => k_tl e.symm
  simp [putK, penD, k_ct, h1]
theorem pen_setL : putK (penD l t z) (.inr "left") (.int z') = penD l t z' := by
  simp [putK, penD, k_cl, k_tl]
theorem dg_cells (h : H p = some (.dK (penD l t z))) : DGet H p (.str "cells") (some (.ref l)) := by
  rw [← pen_cells]
  exact DGet.k (k := .inr "cells") h
theorem dg_turn (h : H p = some (.dK (penD l t z))) : DGet H p (.str "used") (some (.int t)) := by
  rw [← pen_turn (l := l) (t := t) (z := z)]
  exact DGet.k (k := .inr "used") h
theorem dg_left (h : H p = some (.dK (penD l t z))) : DGet H p (.str "left") (some (.int z)) := by
  rw [← pen_left (l := l) (t := t) (z := z)]
  exact DGet.k (k := .inr "left") h
theorem dp_turn (h : H p = some (.dK (penD l t z))) : DPut H p (.str "used") (.int t') (upd H p (.dK (penD l t' z))) := by
  apply My.two; (focus intro zzI; simp only [↓ My.mkB zzI (by
  clear zzI
  have e := DPut.k (k := .inr "used") (v := .int t') h (by show 3 < sizeLine; decide)
  rw [pen_setT] at e
  exact e
  )]); intro f; simpa using My.gz f 5 true
theorem dp_left (h : H p = some (.dK (penD l t z))) : DPut H p (.str "left") (.int z') (upd H p (.dK (penD l t z'))) := by
  apply My.two; (focus intro zzI; simp only [↓ My.mkB zzI (by
  clear zzI
  have e := DPut.k (k := .inr "left") (v := .int z') h (by show 3 < sizeLine; decide)
  rw [pen_setL] at e
  exact e
  )]); intro f; simpa using My.gz f 5 true
end
/-- a pen at p, its cells at l, that has drawn from at most n cells -/
def PenAt (H : Hp) (p l : Addr) (n : Nat) : Prop := ∃ (cs : List Int) (t z : Int), H p = some (.dK (penD l t z)) ∧ H l = some (.lst (cs.map V.int)) ∧ cs.length ≤ 63 ∧ 0 ≤ t ∧ t ≤ (n : Int) ∧ 0 ≤ z
section
variable {H H' : Hp} {p l q : Addr} {n m : Nat}
theorem PenAt.mono (h : PenAt H p l n) (hm : n ≤ m) : PenAt H p l m := by
  obtain ⟨cs, t, z, h1, h2, h3, h4, h5, h6⟩ := h
  exact ⟨cs, t, z, h1, h2, h3, h4, by omega, h6⟩
theorem PenAt.same (h : PenAt H p l n) (s : Same H H') : PenAt H' p l n := by
  obtain ⟨cs, t, z, h1, h2, h3⟩ := h
  exact ⟨cs, t, z, s _ _ h1, s _ _ h2, h3⟩
theorem PenAt.dict (h : PenAt H p l n) : ∃ kvs, H p = some (.dK kvs) := by
  obtain ⟨cs, t, z, h1, _⟩ := h
  exact ⟨_, h1⟩
theorem PenAt.cells (h : PenAt H p l n) : ∃ xs, H l = some (.lst xs) := by
  obtain ⟨cs, t, z, h1, h2, _⟩ := h
  exact ⟨_, h2⟩
theorem PenAt.ne (h : PenAt H p l n) {o : HO} (hq : H q = some o) (ho : ∀ kvs, o ≠ .dK kvs) : q ≠ p := by
  obtain ⟨kvs, hk⟩ := h.dict
  exact ne_dict hk hq (ho kvs)
theorem PenAt.free (h : PenAt H' p l n) (k : Kx p H H') {a : Addr} (ha : H' a = none) : H a = none := by
  obtain ⟨kvs, hk⟩ := h.dict
  exact k.free (by rw [hk]; intro e; cases e) ha
/-- a new address is none of the pen's -/
theorem PenAt.new (h : PenAt H p l n) {a : Addr} (ha : H a = none) : a ≠ p ∧ a ≠ l := by
  apply My.two; (focus intro zzI; simp only [↓ My.mkB zzI (by
  clear zzI
  obtain ⟨kvs, hk⟩ := h.dict
  obtain ⟨xs, hx⟩ := h.cells
  exact ⟨(ne_of_none hk ha).symm, (ne_of_none hx ha).symm⟩
  )]); intro f; simpa using My.gz f 5 true
/-- another object is written -/
theorem PenAt.set (h : PenAt H p l n) {a : Addr} {o : HO} (h1 : a ≠ p) (h2 : a ≠ l) : PenAt (upd H a o) p l n := by
  obtain ⟨cs, t, z, e1, e2, h3⟩ := h
  exact ⟨cs, t, z, by rw [upd_ne h1.symm]; exact e1, by rw [upd_ne h2.symm]; exact e2, h3⟩
theorem PenAt.keepL (h : PenAt H p l n) (k : Kx p H H') {xs : List V} (hq : H q = some (.lst xs)) : H' q = some (.lst xs) := k _ _ hq (h.ne hq (by intro kvs z; cases z))
theorem PenAt.keepT (h : PenAt H p l n) (k : Kx p H H') {xs : List V} (hq : H q = some (.tup xs)) : H' q = some (.tup xs) := k _ _ hq (h.ne hq (by intro kvs z; cases z))
end
theorem kx_new {p D : Addr} {H H1 : Hp} {o : HO} (k : Kx p H H1) (hD : H D = none) : Kx p H (upd H1 D o) := fun b u e n => by
  rw [upd_ne (ne_of_none e hD)]
  exact k b u e n
section
variable {P : Program} {w : World} {K : Fg} {mg : Str → Option Value} {base : Heap}
def sp_pen (K : Fg) : Sp := fun vs H Q _ => ∃ (a : Addr) (ns : List Int), vs = [.ref a] ∧ SqL K H a (ns.map V.int) ∧ ∀ (p l : Addr) (H' : Hp), Same H H' → H p = none → PenAt H' p l 0 → Q (.ref p) H'
theorem ok__law_pen (T : Tx K mg) : FnR P w K mg base CX0 1 (He.ga K "_law_pen") (sp_pen K) := by
  apply My.two; (focus intro zzI; simp only [↓ My.mkB zzI (by
  clear zzI
  refine (T.fnR 69 (st := s__law_pen) (at_ := fun K => He.ga K "_law_pen") rfl sc__law_pen (fun _ _ _ _ _ _ us hl => match us, hl with | [_], _ => rfl)) (fun vs H Q E h => ?_) (fun cdv A outer s H vs Q E hr h => ?_)
  · obtain ⟨a, ns, rfl, _⟩ := h
    rfl
  · obtain ⟨a, ns, rfl, hS, k⟩ := h
    refine ⟨_, (pss_one (ps_ret (pe_disp (pps_cons pe_str (pe_callTy (lst_k T) (by rfl) T.n_list (by decide +kernel) (pa_cons (pe_slice (sll T) (pv 0) po_none (po_some pe_int)) pa_nil)) (pps_cons pe_str pe_int (pps_cons pe_str pe_int pps_nil))) (by rfl) (by rfl) (fun z => by cases z) (by decide)))), ?_⟩
    intro p hp
    have s1 := same_upd (o := .dK []) hp
    refine ⟨_, rfl, _, rfl, a, _, rfl, s1.seq hS, fun l hl => ?_⟩
    have s2 := same_upd (o := .lst (cutV (ns.map V.int) none (some 63))) hl
    refine ⟨l, _, rfl, .inl (SqL.of upd_same), fun l2 hl2 => ?_⟩
    have s3 := same_upd (o := .lst (cutV (ns.map V.int) none (some 63))) hl2
    have hp3 := (s2.trans s3) _ _ (upd_same (H := H) (a := p) (o := .dK []))
    have hne : p ≠ l2 := ne_of_none (s2 _ _ (upd_same (H := H) (a := p) (o := .dK []))) hl2
    refine ⟨hp3, penD l2 0 0, rfl, (by show 3 ≤ 15; decide), ?_⟩
    have em : mergeK [] (penD l2 0 0) = penD l2 0 0 := by
      simp [mergeK, penD, putK, k_ct, k_cl, k_tl]
    rw [em]
    refine k p l2 _ ?_ hp ⟨ns.take 63, 0, 0, upd_same, ?_, ?_, by omega, by omega, by omega⟩
    · exact same_under (s1.trans (s2.trans s3)) hp
    · rw [upd_ne hne.symm, upd_same, show (63 : Int) = ((63 : Nat) : Int) from rfl, cut_to, mapInt_take]
    · rw [List.length_take]
      omega
  )]); intro f; simpa using My.gz f 5 true
theorem c__law_pen {X : Cx} {k : Nat} {t : TA} {e : Expr} {es : List Expr} {np pos : Pos} (T : Tx K mg) (hr : Room k X.A) (ha : PA X (e :: es) t) (hk : 1 ≤ k := by decide) (hK : X.K = K := by rfl) (hm : X.mg = mg := by rfl)
    (hg : Gl X "_law_pen" := by rfl) (hse : starEach (e :: es) X.env = (false, eval e X.env) :: starEach es X.env := by rfl) (hpl : (backTo pos (starEach es X.env)).any (·.1) = false := by rfl) :
    PE X (.Call (.Name "_law_pen" np) (e :: es) [] pos) (tFn (sp_pen K) E0 t) := by
  subst hK
  subst hm
  exact pe_fR (ok__law_pen T) T.kp__law_pen T.g__law_pen (hr.mono hk) pass0 ha hg (by decide) hse hpl
def sp_draw : Sp := fun vs H Q _ => ∃ (p l : Addr) (many : Int) (n : Nat), vs = [.ref p, .int many] ∧ PenAt H p l n ∧ n ≤ 1000000000000 ∧ 0 < many ∧ many < 1073741824 ∧
  ∀ (r : Int) (H' : Hp), 0 ≤ r → r < many → PenAt H' p l (n + 1) → Kx p H H' → Q (.int r) H'
theorem ok__law_draw (T : Tx K mg) : FnR P w K mg base CX0 1 (He.ga K "_law_draw") sp_draw := by
  apply My.two; (focus intro zzI; simp only [↓ My.mkB zzI (by
  clear zzI
  refine (T.fnR 70 (st := s__law_draw) (at_ := fun K => He.ga K "_law_draw") rfl sc__law_draw (fun _ _ _ _ _ _ us hl => match us, hl with | [_, _], _ => rfl)) (fun vs H Q E h => ?_) (fun cdv A outer s H vs Q E hr h => ?_)
  · obtain ⟨p, l, many, n, rfl, _⟩ := h
    rfl
  · obtain ⟨p, l, many, n, rfl, ⟨cs, t, z, hp, hl, hc, ht0, htn, hz⟩, hn, hm0, hm1, k⟩ := h
    refine ⟨_, (pss_cons (ps_if (pt_cmpR op_gt (pe_dget (hu_of hr) (pv 0) pe_str (fun _ _ => rfl)) pe_int (nomark _))
 (pss_cons (ps_set (i := 2) sc__law_draw.nd rfl (Or.inl rfl) (pe_op op_mod (pe_dget (hu_of hr) (pv 0) pe_str (fun _ _ => rfl)) (pv 1)))
 (pss_cons (ps_dput (hu_of hr) (pv 0) pe_str (pe_op op_fdiv (pe_dget (hu_of hr) (pv 0) pe_str (fun _ _ => rfl)) (pv 1)) rfl)
 (pss_one (ps_ret (pv 2)))))
 pss_nil)
 (pss_cons (ps_set (i := 3) sc__law_draw.nd rfl (Or.inl rfl) (pe_dget (hu_of hr) (pv 0) pe_str (fun _ _ => rfl)))
 (pss_cons (ps_dput (hu_of hr) (pv 0) pe_str (pe_op op_add (pv 3) pe_int) rfl)
 (pss_cons (ps_set (i := 4) sc__law_draw.nd rfl (Or.inl rfl) (pe_op op_add (pe_op op_mul pe_int (pv 3)) pe_int))
 (pss_mid (ps_if (pt_cmpR (nei T hr.units) (pe_dget (hu_of hr) (pv 0) pe_str (fun _ _ => rfl)) (pe_lst pa_nil) (nomark _))
 (pss_one (ps_set (i := 4) sc__law_draw.nd rfl (Or.inl rfl) (pe_ix (ixl T) (pe_dget (hu_of hr) (pv 0) pe_str (fun _ _ => rfl)) (pe_op op_mod (pv 3) (pe_callB (len_k T) (by rfl) T.n_len (by decide +kernel) (pa_cons (pe_dget (hu_of hr) (pv 0) pe_str (fun _ _ => rfl)) pa_nil))) (fun _ _ => rfl))))
 pss_nil)
 (pss_mid (ps_if (PW.pt (pw_and (pt_cmpR op_lt (pv 3) (pe_callB (len_k T) (by rfl) T.n_len (by decide +kernel) (pa_cons (pe_dget (hu_of hr) (pv 0) pe_str (fun _ _ => rfl)) pa_nil)) (nomark _)) (pw_and1 (pt_cmpR op_ge (pe_callB call_abs (by rfl) T.n_abs (by decide +kernel) (pa_cons (pv 4) pa_nil)) (pe_op op_pow pe_int pe_int) (nomark _)))))
 (pss_cons (ps_dput (hu_of hr) (pv 0) pe_str (pe_op op_fdiv (pe_op op_sub (pe_callB call_abs (by rfl) T.n_abs (by decide +kernel) (pa_cons (pv 4) pa_nil)) (pe_op op_pow pe_int pe_int)) (pv 1)) rfl)
 (pss_one (ps_ret (pe_op op_mod (pe_op op_sub (pe_callB call_abs (by rfl) T.n_abs (by decide +kernel) (pa_cons (pv 4) pa_nil)) (pe_op op_pow pe_int pe_int)) (pv 1)))))
 pss_nil)
 (pss_cons (ps_set (i := 5) sc__law_draw.nd rfl (Or.inl rfl) (pe_op op_mod (pe_op op_add (pe_op op_add (pe_op op_add (pe_op op_mul (pe_op op_mod (pv 4) pe_int) pe_int) (pe_op op_mul (pe_op op_mul pe_int (pv 3)) (pv 3))) (pe_op op_mul pe_int (pv 3))) pe_int) pe_int))
 (pss_cons (ps_set (i := 5) sc__law_draw.nd rfl (Or.inl rfl) (pe_op op_mod (pe_op op_add (pe_op op_add (pe_op op_add (pe_op op_mul (pv 5) (pv 5)) (pe_op op_mul pe_int (pv 5))) (pe_op op_mul pe_int (pv 3))) pe_int) pe_int))
 (pss_one (ps_ret (pe_op op_mod (pe_op op_fdiv (pe_op op_mod (pe_op op_mul (pv 5) (pe_op op_add (pv 5) pe_int)) pe_int) pe_int) (pv 1)))))))))))), ?_⟩
    have hlp : l ≠ p := ne_dict hp hl (by intro q; cases q)
    refine ⟨_, rfl, p, _, rfl, dg_left hp, _, _, rfl, rfl, _, rfl, ?_⟩
    refine ite2 (fun hc1 => ?_) (fun hc1 => ?_)
    · refine ⟨_, rfl, p, _, rfl, dg_left hp, _, rfl, _, _, rfl, rfl, hm0, ?_⟩
      refine ⟨_, rfl, p, _, rfl, dg_left hp, _, rfl, _, _, rfl, rfl, ⟨hm0, hm1⟩, _, rfl, p, _, rfl, dp_left hp, ?_⟩
      refine ⟨_, rfl, ?_⟩
      refine k _ _ (Int.emod_nonneg _ (by omega)) (Int.emod_lt_of_pos _ hm0) ⟨cs, t, z / many, upd_same, by rw [upd_ne hlp]; exact hl, hc, ht0, by omega, Int.ediv_nonneg hz (by omega)⟩ kx_upd
    · refine ⟨_, rfl, p, _, rfl, dg_turn hp, ?_⟩
      refine ⟨_, rfl, _, _, rfl, rfl, _, rfl, p, _, rfl, dp_turn hp, ?_⟩
      have hp1 : upd H p (.dK (penD l (t + 1) z)) p = some (.dK (penD l (t + 1) z)) := upd_same
      have hl1 : upd H p (.dK (penD l (t + 1) z)) l = some (.lst (cs.map V.int)) := by rw [upd_ne hlp]; exact hl
      have kx1 : Kx p H (upd H p (.dK (penD l (t + 1) z))) := kx_upd
      generalize upd H p (.dK (penD l (t + 1) z)) = H1 at hp1 hl1 kx1
      refine ⟨_, rfl, _, _, rfl, rfl, .inl ⟨by decide, by decide⟩, _, _, rfl, rfl, ?_⟩
      refine ⟨fun σ H2 => ∃ cell : Int, σ = [some (.ref p), some (.int many), none, some (.int t), some (.int cell), none] ∧ Same H1 H2, ?_, ?_⟩
      · refine ⟨_, rfl, p, _, rfl, dg_cells hp1, by show 0 ≤ sizeLine; decide, fun e he => ?_⟩
        have s2 := same_upd (o := .lst []) he
        refine ⟨l, e, cs, [], rfl, rfl, .inl ⟨SqL.of (s2 _ _ hl1), SqL.of upd_same⟩, _, rfl, ?_⟩
        refine ite2 (fun hne => ?_) (fun hne => ?_)
        · have hcs : 0 < cs.length := by
            cases cs with
            | nil => simp at hne
            | cons c r => simp
          have h0 : 0 ≤ t % (cs.length : Int) := Int.emod_nonneg _ (by omega)
          have hx := off_get hcs t
          refine ⟨_, rfl, p, _, rfl, dg_cells (s2 _ _ hp1), _, rfl, _, rfl, p, _, rfl, dg_cells (s2 _ _ hp1), l, _, rfl, .inl (SqL.of (s2 _ _ hl1)), _, _, rfl, rfl, ?_, l, _, _, V.int (off cs t), rfl, rfl, SqL.of (s2 _ _ hl1), at_of (j := (t % (cs.length : Int)).toNat) ?_ (mapInt_get hx), ?_⟩
          · rw [List.length_map]
            omega
          · rw [List.length_map, Int.toNat_of_nonneg h0]
          · exact ⟨_, rfl, s2⟩
        · exact ⟨_, rfl, s2⟩
      · rintro σ H2 ⟨cell, rfl, s2⟩
        have hp2 := s2 _ _ hp1
        have hl2 := s2 _ _ hl1
        have kx2 := kx1.trans (kx_same s2)
        refine ⟨fun σ H3 => σ = [some (.ref p), some (.int many), none, some (.int t), some (.int cell), none] ∧ H3 = H2, ?_, ?_⟩
        · refine ⟨_, rfl, _, rfl, p, _, rfl, dg_cells hp2, l, _, rfl, .inl (SqL.of hl2), _, _, rfl, rfl, _, rfl, ?_⟩
          refine ite2 (fun h1 => ?_) (fun h1 => ?_)
          · refine ⟨_, rfl, _, rfl, _, _, rfl, rfl, ⟨by decide, by decide, by decide⟩, _, _, rfl, rfl, _, rfl, ?_⟩
            refine ite2 (fun h2 => ?_) (fun h2 => ?_)
            · have hge : (0 : Int) ≤ (if cell < 0 then -cell else cell) - 10 ^ (18 : Int).toNat := by
                have h3 := of_decide_eq_true h2
                omega
              refine ⟨_, rfl, _, rfl, _, _, rfl, rfl, ⟨by decide, by decide, by decide⟩, _, _, rfl, rfl, _, rfl, _, _, rfl, rfl, ⟨hm0, hm1⟩, _, rfl, p, _, rfl, dp_left hp2, ?_⟩
              have hlp2 : l ≠ p := hlp
              refine ⟨_, rfl, _, rfl, _, _, rfl, rfl, ⟨by decide, by decide, by decide⟩, _, _, rfl, rfl, _, rfl, _, _, rfl, rfl, hm0, ?_⟩
              refine k _ _ (Int.emod_nonneg _ (by omega)) (Int.emod_lt_of_pos _ hm0) ⟨cs, t + 1, _, upd_same, by rw [upd_ne hlp2]; exact hl2, hc, by omega, by omega, Int.ediv_nonneg hge (by omega)⟩ (kx2.trans kx_upd)
            · exact ⟨rfl, rfl⟩
          · exact ⟨rfl, rfl⟩
        · rintro σ H3 ⟨rfl, rfl⟩
          refine ⟨_, rfl, _, _, rfl, rfl, (by show (0 : Int) < 2147483629; decide), _, _, rfl, rfl, .inr ⟨by decide, by decide⟩, _, rfl, _, _, rfl, rfl, .inl ⟨by decide, by decide⟩, _, rfl, _, _, rfl, rfl, .inr ⟨by omega, by omega⟩, _, _, rfl, rfl, _, rfl, _, _, rfl, rfl, .inl ⟨by decide, by decide⟩, _, _, rfl, rfl, _, _, rfl, rfl, _, _, rfl, rfl, (by show (0 : Int) < 2147483647; decide), ?_⟩
          have d0 : 0 ≤ (cell % 2147483629 * 48271 + 30011 * t * t + 7919 * t + 17) % 2147483647 := Int.emod_nonneg _ (by decide)
          have d1 : (cell % 2147483629 * 48271 + 30011 * t * t + 7919 * t + 17) % 2147483647 < 2147483647 := Int.emod_lt_of_pos _ (by decide)
          generalize hd : (cell % 2147483629 * 48271 + 30011 * t * t + 7919 * t + 17) % 2147483647 = dr at d0 d1
          dsimp only
          rw [hd]
          refine ⟨_, rfl, _, rfl, _, _, rfl, rfl, .inl ⟨by omega, by omega⟩, _, rfl, _, _, rfl, rfl, .inl ⟨by decide, by decide⟩, _, _, rfl, rfl, _, rfl, _, _, rfl, rfl, .inl ⟨by decide, by decide⟩, _, _, rfl, rfl, _, _, rfl, rfl, _, _, rfl, rfl, (by show (0 : Int) < 2147483587; decide), ?_⟩
          have f0 : 0 ≤ (dr * dr + 69621 * dr + 11 * t + 3) % 2147483587 := Int.emod_nonneg _ (by decide)
          have f1 : (dr * dr + 69621 * dr + 11 * t + 3) % 2147483587 < 2147483587 := Int.emod_lt_of_pos _ (by decide)
          generalize hf : (dr * dr + 69621 * dr + 11 * t + 3) % 2147483587 = df at f0 f1
          dsimp only
          rw [hf]
          refine ⟨_, rfl, _, rfl, _, _, rfl, rfl, _, _, rfl, rfl, .inl ⟨by omega, by omega⟩, _, _, rfl, rfl, (by show (0 : Int) < 2147483563; decide), _, _, rfl, rfl, ⟨by decide, by decide⟩, _, rfl, _, _, rfl, rfl, hm0, ?_⟩
          exact k _ _ (Int.emod_nonneg _ (by omega)) (Int.emod_lt_of_pos _ hm0) ⟨cs, t + 1, z, hp2, hl2, hc, by omega, by omega, hz⟩ kx2
  )]); intro f; simpa using My.gz f 5 true
theorem c__law_draw {X : Cx} {k : Nat} {t : TA} {e : Expr} {es : List Expr} {np pos : Pos} (T : Tx K mg) (hr : Room k X.A) (ha : PA X (e :: es) t) (hk : 1 ≤ k := by decide) (hK : X.K = K := by rfl) (hm : X.mg = mg := by rfl)
    (hg : Gl X "_law_draw" := by rfl) (hse : starEach (e :: es) X.env = (false, eval e X.env) :: starEach es X.env := by rfl) (hpl : (backTo pos (starEach es X.env)).any (·.1) = false := by rfl) :
    PE X (.Call (.Name "_law_draw" np) (e :: es) [] pos) (tFn sp_draw E0 t) := by
  subst hK
  subst hm
  exact pe_fR (ok__law_draw T) T.kp__law_draw T.g__law_draw (hr.mono hk) pass0 ha hg (by decide) hse hpl
end
end Lw
namespace Lw
open PySem PySem.Spec PyProof.Rows L2 My
section
variable {P : Program} {w : World} {K : Fg} {mg : Str → Option Value} {base : Heap}
def sp_pick (K : Fg) : Sp := fun vs H Q _ => ∃ (p l a : Addr) (xs : List V) (n : Nat), vs = [.ref p, .ref a] ∧ PenAt H p l n ∧ H a = some (.lst xs) ∧ n ≤ 1000000000000 ∧ 0 < xs.length ∧ xs.length ≤ 1000000 ∧
  ∀ (v : V) (j : Nat) (H' : Hp), xs[j]? = some v → PenAt H' p l (n + 1) → Kx p H H' → Q v H'
theorem ok__law_pick (T : Tx K mg) : FnR P w K mg base CX0 2 (He.ga K "_law_pick") (sp_pick K) := by
  apply My.two; (focus intro zzI; simp only [↓ My.mkB zzI (by
  clear zzI
  refine (T.fnR 71 (st := s__law_pick) (at_ := fun K => He.ga K "_law_pick") rfl sc__law_pick (fun _ _ _ _ _ _ us hl => match us, hl with | [_, _], _ => rfl)) (fun vs H Q E h => ?_) (fun cdv A outer s H vs Q E hr h => ?_)
  · obtain ⟨p, l, a, xs, n, rfl, _⟩ := h
    rfl
  · obtain ⟨p, l, a, xs, n, rfl, hp, ha, hn, h0, h1, k⟩ := h
    refine ⟨_, (pss_one (ps_ret (pe_ix (ixl T) (pv 1) (c__law_draw T hr (pa_cons (pv 0) (pa_cons (pe_callB (len_k T) (by rfl) T.n_len (by decide +kernel) (pa_cons (pv 1) pa_nil)) pa_nil))) (fun _ _ => rfl)))), ?_⟩
    refine ⟨_, rfl, _, rfl, _, rfl, a, _, rfl, .inl (SqL.of ha), p, l, _, n, rfl, hp, hn, by omega, by omega, fun r H1 r0 r1 hp1 k1 => ?_⟩
    have hj : r.toNat < xs.length := by omega
    refine ⟨a, xs, r, xs[r.toNat], rfl, rfl, SqL.of (hp.keepL k1 ha), at_of (j := r.toNat) (by omega) (List.getElem?_eq_getElem hj), ?_⟩
    exact k _ r.toNat H1 (List.getElem?_eq_getElem hj) hp1 k1
  )]); intro f; simpa using My.gz f 5 true
theorem c__law_pick {X : Cx} {k : Nat} {t : TA} {e : Expr} {es : List Expr} {np pos : Pos} (T : Tx K mg) (hr : Room k X.A) (ha : PA X (e :: es) t) (hk : 2 ≤ k := by decide) (hK : X.K = K := by rfl) (hm : X.mg = mg := by rfl)
    (hg : Gl X "_law_pick" := by rfl) (hse : starEach (e :: es) X.env = (false, eval e X.env) :: starEach es X.env := by rfl) (hpl : (backTo pos (starEach es X.env)).any (·.1) = false := by rfl) :
    PE X (.Call (.Name "_law_pick" np) (e :: es) [] pos) (tFn (sp_pick K) E0 t) := by
  subst hK
  subst hm
  exact pe_fR (ok__law_pick T) T.kp__law_pick T.g__law_pick (hr.mono hk) pass0 ha hg (by decide) hse hpl
def sp_shuffled (K : Fg) : Sp := fun vs H Q _ => ∃ (p l a : Addr) (xs : List Int) (n : Nat), vs = [.ref p, .ref a] ∧ PenAt H p l n ∧ H a = some (.lst (xs.map V.int)) ∧ n + xs.length ≤ 1000000000000 ∧ xs.length ≤ 1000000 ∧
  ∀ (b : Addr) (ys : List Int) (H' : Hp), ys.Perm xs → H b = none → H' b = some (.lst (ys.map V.int)) → PenAt H' p l (n + xs.length) → Kx p H H' → Q (.ref b) H'
theorem ok__law_shuffled (T : Tx K mg) : FnR P w K mg base CX0 2 (He.ga K "_law_shuffled") (sp_shuffled K) := by
  apply My.two; (focus intro zzI; simp only [↓ My.mkB zzI (by
  clear zzI
  refine (T.fnR 72 (st := s__law_shuffled) (at_ := fun K => He.ga K "_law_shuffled") rfl sc__law_shuffled (fun _ _ _ _ _ _ us hl => match us, hl with | [_, _], _ => rfl)) (fun vs H Q E h => ?_) (fun cdv A outer s H vs Q E hr h => ?_)
  · obtain ⟨p, l, a, xs, n, rfl, _⟩ := h
    rfl
  · obtain ⟨p, l, a, xs, n, rfl, hp, ha, hn, h1, k⟩ := h
    refine ⟨_, (pss_cons (ps_par (i := 2) (j := 3) (by rfl) sc__law_shuffled.nd rfl rfl (by decide) rfl rfl (pa_cons (pe_callTy (lst_k T) (by rfl) T.n_list (by decide +kernel) (pa_cons (pv 1) pa_nil)) (pa_cons (pe_lst pa_nil) pa_nil)) (by rfl))
 (pss_cons (ps_while PassesOwn.never (pt_cmpR (nei T hr.units) (pv 2) (pe_lst pa_nil) (nomark _))
 (pss_one (ps_expr (bmk T PySem.F.plainAttrs_list PySem.F.slot_list_append PySem.F.type_list_append mt_append (pv 3) (pa_cons (bmk T PySem.F.plainAttrs_list PySem.F.slot_list_pop PySem.F.type_list_pop mt_popAt (pv 2) (pa_cons (c__law_draw T hr (pa_cons (pv 0) (pa_cons (pe_callB (len_k T) (by rfl) T.n_len (by decide +kernel) (pa_cons (pv 2) pa_nil)) pa_nil))) pa_nil)) pa_nil)))))
 (pss_one (ps_ret (pv 3))))), ?_⟩
    refine ⟨_, rfl, a, _, rfl, .inl (SqL.of ha), fun L hL => ?_⟩
    have s1 := same_upd (o := .lst (xs.map V.int)) hL
    refine ⟨by show 0 ≤ sizeLine; decide, fun F hF => ?_⟩
    have s2 := same_upd (o := .lst ([] : List V)) hF
    have hF0 : H F = none := s1.free hF
    have hLF : L ≠ F := fun e => by
      rw [← e, upd_same] at hF
      cases hF
    have nL := hp.new hL
    have nF := hp.new hF0
    refine ⟨_, _, rfl, ?_⟩
    refine ⟨fun m σ H' => ∃ (left found : List Int), σ = [some (.ref p), some (.ref a), some (.ref L), some (.ref F)] ∧ H' L = some (.lst (left.map V.int)) ∧ H' F = some (.lst (found.map V.int)) ∧ (found ++ left).Perm xs ∧
      PenAt H' p l (n + found.length) ∧ Kx p H H' ∧ m = left.length, ⟨_, xs, [], rfl, ?_, upd_same, by simp, (hp.same (s1.trans s2)), kx_same (s1.trans s2), rfl⟩, ?_⟩
    · rw [upd_ne hLF, upd_same]
    · rintro m σ H' ⟨left, found, rfl, eL, eF, perm, hp', kx, rfl⟩
      refine ⟨_, rfl, by show 0 ≤ sizeLine; decide, fun z hz => ?_⟩
      have s3 := same_upd (o := .lst ([] : List V)) hz
      have eL3 := s3 _ _ eL
      have eF3 := s3 _ _ eF
      have hp3 := hp'.same s3
      have kx3 := kx.trans (kx_same s3)
      have ez : upd H' z (.lst ([] : List V)) z = some (.lst (([] : List Int).map V.int)) := upd_same
      generalize upd H' z (.lst ([] : List V)) = H3 at s3 eL3 eF3 hp3 kx3 ez
      have pl : found.length + left.length = xs.length := by
        have := perm.length_eq
        rw [List.length_append] at this
        exact this
      refine ⟨L, z, left, [], rfl, rfl, .inl ⟨SqL.of eL3, SqL.of ez⟩, _, rfl, ?_⟩
      refine ite2 (fun hc => wh_go ?_) (fun hc => ?_)
      · have hl0 : 0 < left.length := by
          cases left with
          | nil => simp at hc
          | cons c r => simp
        refine ⟨_, rfl, .inl ⟨rfl, _, SqL.of eF3⟩, _, rfl, .inl ⟨rfl, _, SqL.of eL3⟩, _, rfl, _, rfl, L, _, rfl, .inl (SqL.of eL3), p, l, _, n + found.length, rfl, hp3, by omega, by rw [List.length_map]; omega, by rw [List.length_map]; omega, fun r H4 r0 r1 hp4 kx4 => ?_⟩
        rw [List.length_map] at r1
        have hj : r.toNat < left.length := by omega
        have eL4 := hp3.keepL kx4 eL3
        have eF4 := hp3.keepL kx4 eF3
        refine ⟨L, _, r, r.toNat, V.int left[r.toNat], rfl, rfl, eL4, by omega, by omega, PySem.seqIndex_of r0 (by rw [List.length_map]; exact r1), mapInt_get (List.getElem?_eq_getElem hj), ?_⟩
        have eF5 : upd H4 L (.lst ((left.map V.int).eraseIdx r.toNat)) F = some (.lst (found.map V.int)) := by rw [upd_ne hLF.symm]; exact eF4
        refine ⟨F, _, _, rfl, rfl, eF5, by rw [List.length_map]; exact szl (by omega), ?_⟩
        have er : (left.map V.int).eraseIdx r.toNat = (left.eraseIdx r.toNat).map V.int := map_erase V.int left r.toNat
        refine ⟨(left.eraseIdx r.toNat).length, by rw [List.length_eraseIdx_of_lt hj]; omega, left.eraseIdx r.toNat, found ++ [left[r.toNat]], rfl, ?_, ?_, ?_, ?_, ?_, rfl⟩
        · rw [upd_ne hLF, upd_same, er]
        · rw [upd_same, List.map_append]
          rfl
        · refine List.Perm.trans ?_ perm
          rw [List.append_assoc]
          refine List.Perm.append_left _ ?_
          exact erase_perm left r.toNat hj
        · rw [List.length_append, List.length_singleton, ← Nat.add_assoc]
          exact (hp4.set nL.1 nL.2).set nF.1 nF.2
        · exact kx_new (kx_new (kx3.trans kx4) hL) hF0
      · have hl0 : left = [] := by
          cases left with
          | nil => rfl
          | cons c r => simp at hc
        subst hl0
        rw [List.append_nil] at perm
        refine ⟨_, rfl, ?_⟩
        refine k F found H3 perm hF0 eF3 ?_ kx3
        rw [← perm.length_eq]
        exact hp3
  )]); intro f; simpa using My.gz f 5 true
theorem c__law_shuffled {X : Cx} {k : Nat} {t : TA} {e : Expr} {es : List Expr} {np pos : Pos} (T : Tx K mg) (hr : Room k X.A) (ha : PA X (e :: es) t) (hk : 2 ≤ k := by decide) (hK : X.K = K := by rfl) (hm : X.mg = mg := by rfl)
    (hg : Gl X "_law_shuffled" := by rfl) (hse : starEach (e :: es) X.env = (false, eval e X.env) :: starEach es X.env := by rfl) (hpl : (backTo pos (starEach es X.env)).any (·.1) = false := by rfl) :
    PE X (.Call (.Name "_law_shuffled" np) (e :: es) [] pos) (tFn (sp_shuffled K) E0 t) := by
  subst hK
  subst hm
  exact pe_fR (ok__law_shuffled T) T.kp__law_shuffled T.g__law_shuffled (hr.mono hk) pass0 ha hg (by decide) hse hpl
end
end Lw
namespace Lw
open PySem PySem.Spec PyProof.Rows L2 My
/-- the list at D so far: its items are told by Pr; the pen has drawn at most c times an item -/
def AccP (H1 : Hp) (p l D : Addr) (n c : Nat) (Pr : Nat → Int → Prop) (i : Nat) (H : Hp) : Prop :=
  Kx p H1 H ∧ PenAt H p l (n + c * i) ∧ ∃ acc : List Int, H D = some (.lst (acc.map V.int)) ∧ acc.length = i ∧ ∀ (j : Nat) (v : Int), acc[j]? = some v → Pr j v
section
variable {H1 H H4 : Hp} {p l D : Addr} {n c i : Nat} {Pr : Nat → Int → Prop}
theorem AccP.start (hp : PenAt H1 p l n) (hD : H1 D = none) : AccP H1 p l D n c Pr 0 (upd H1 D (.lst [])) :=
  ⟨kx_same (same_upd hD), hp.same (same_upd hD), [], upd_same, rfl, fun j v h => by simp at h⟩
theorem AccP.push {v : Int} (a : AccP H1 p l D n c Pr i H) (hp : PenAt H1 p l n) (hD : H1 D = none) (k : Kx p H H4) (hp4 : PenAt H4 p l (n + c * i + c)) (hi : i < 1000000) (e : Pr i v) :
    ∃ acc, H4 D = some (.lst acc) ∧ acc.length < sizeLine ∧ AccP H1 p l D n c Pr (i + 1) (upd H4 D (.lst (acc ++ [V.int v]))) := by
  apply My.two; (focus intro zzI; simp only [↓ My.mkB zzI (by
  clear zzI
  obtain ⟨k1, hp1, acc, h1, h2, h3⟩ := a
  have nD := hp.new hD
  refine ⟨acc.map V.int, hp1.keepL k h1, by rw [List.length_map]; exact szl (by omega), kx_new (k1.trans k) hD, ?_, acc ++ [v], ?_, ?_, ?_⟩
  · rw [Nat.mul_succ, ← Nat.add_assoc]
    exact hp4.set nD.1 nD.2
  · rw [upd_same, List.map_append]
    rfl
  · rw [List.length_append, List.length_singleton, h2]
  · intro j u hj
    by_cases hlt : j < acc.length
    · rw [List.getElem?_append_left hlt] at hj
      exact h3 j u hj
    · rw [List.getElem?_append_right (by omega)] at hj
      have e0 : j - acc.length = 0 := by
        rcases Nat.eq_zero_or_pos (j - acc.length) with h | h
        · exact h
        · rw [List.getElem?_eq_none (by rw [List.length_singleton]; omega)] at hj
          cases hj
      rw [e0] at hj
      obtain rfl : v = u := Option.some.inj hj
      have : j = i := by omega
      rw [this]
      exact e
  )]); intro f; simpa using My.gz f 5 true
end
end Lw
namespace Lw
open PySem PySem.Spec PyProof.Rows L2 My
section
variable {P : Program} {w : World} {K : Fg} {mg : Str → Option Value} {base : Heap}
def sp_far : Sp := fun vs H Q _ => ∃ (p l : Addr) (d n : Nat), vs = [.ref p, .int (d : Int)] ∧ PenAt H p l n ∧ n + 60 ≤ 1000000000000 ∧ 0 < d ∧ d ≤ 50 ∧
  ∀ (r : Int) (H' : Hp), r.natAbs ≤ 10 ^ d + 30 → PenAt H' p l (n + 60) → Kx p H H' → Q (.int r) H'
def sp_farS : Sp := fun vs H Q _ => ∃ (p l : Addr) (d n : Nat), vs = [.ref p, .int (d : Int)] ∧ PenAt H p l n ∧ n + 60 ≤ 1000000000000 ∧ 0 < d ∧ d ≤ 50 ∧
  ∀ (r : Int) (H' : Hp), (r.natAbs ≤ 30 ∨ r.natAbs ≤ 10 ^ d) → PenAt H' p l (n + 60) → Kx p H H' → Q (.int r) H'
theorem ok__law_farS (T : Tx K mg) : FnR P w K mg base CX0 2 (He.ga K "_law_far") sp_farS := by
  apply My.two; (focus intro zzI; simp only [↓ My.mkB zzI (by
  clear zzI
  refine (T.fnR 73 (st := s__law_far) (at_ := fun K => He.ga K "_law_far") rfl sc__law_far (fun _ _ _ _ _ _ us hl => match us, hl with | [_, _], _ => rfl)) (fun vs H Q E h => ?_) (fun cdv A outer s H vs Q E hr h => ?_)
  · obtain ⟨p, l, d, n, rfl, _⟩ := h
    rfl
  · obtain ⟨p, l, d, n, rfl, hp, hn, d0, d1, k⟩ := h
    refine ⟨_, (pss_cons (ps_if (pt_cmpR op_eq (c__law_draw T hr (pa_cons (pv 0) (pa_cons pe_int pa_nil))) pe_int (nomark _))
 (pss_one (ps_ret (pe_op op_sub (c__law_draw T hr (pa_cons (pv 0) (pa_cons pe_int pa_nil))) pe_int)))
 pss_nil)
 (pss_cons (ps_set (i := 2) sc__law_far.nd rfl (Or.inl rfl) pe_int)
 (pss_cons (ps_for PassesOwn.never rfl (pi_range1 rfl T.n_range (pa_cons (pe_op op_add pe_int (c__law_draw T hr (pa_cons (pv 0) (pa_cons (pv 1) pa_nil)))) pa_nil)) (pg_name (i := 3) sc__law_far.nd rfl (Or.inl rfl))
 (pss_one (ps_set (i := 2) sc__law_far.nd rfl (Or.inl rfl) (pe_op op_add (pe_op op_mul pe_int (pv 2)) (c__law_draw T hr (pa_cons (pv 0) (pa_cons pe_int pa_nil)))))))
 (pss_one (ps_ret (pe_op op_mul (pv 2) (pe_ix (ixl T) (pe_lst (pa_cons pe_int (pa_cons (pe_un un_neg pe_int) pa_nil))) (c__law_draw T hr (pa_cons (pv 0) (pa_cons pe_int pa_nil))) (fun _ _ => rfl)))))))), ?_⟩
    refine ⟨_, rfl, p, l, 2, n, rfl, hp, by omega, by decide, by decide, fun z H1 z0 z1 hp1 k1 => ?_⟩
    refine ⟨rfl, _, rfl, ?_⟩
    refine ite2 (fun _ => ?_) (fun _ => ?_)
    · refine ⟨_, rfl, p, l, 61, _, rfl, hp1, by omega, by decide, by decide, fun y H2 y0 y1 hp2 k2 => ?_⟩
      refine ⟨_, _, rfl, rfl, ?_⟩
      exact k _ H2 (.inl (show (y - 30).natAbs ≤ 30 by omega)) (hp2.mono (by omega)) (k1.trans k2)
    · refine ⟨_, rfl, _, rfl, p, l, _, _, rfl, hp1, by omega, by omega, by omega, fun y H2 y0 y1 hp2 k2 => ?_⟩
      refine ⟨_, _, rfl, rfl, _, rfl, by omega, by omega, ?_⟩
      obtain ⟨m, hm, m1⟩ : ∃ m : Nat, (1 + y).toNat = m ∧ m ≤ d := ⟨_, rfl, by omega⟩
      rw [hm]
      refine for_range (n := m) (fun i σ H' => ∃ (f : Int) (v3 : Option V), σ = [some (.ref p), some (.int (d : Int)), some (.int f), v3] ∧ 0 ≤ f ∧ f < ((10 ^ i : Nat) : Int) ∧ PenAt H' p l (n + 2 + i) ∧ Kx p H H') ⟨0, none, rfl, by decide, by decide, hp2, k1.trans k2⟩ ?_ ?_
      · rintro i σ H3 hi ⟨f, v3, rfl, f0, f1, hp3, k3⟩
        refine ⟨_, rfl, _, _, rfl, rfl, .inl ⟨by decide, by decide⟩, _, rfl, p, l, 10, _, rfl, hp3, by omega, by decide, by decide, fun u H4 u0 u1 hp4 k4 => ?_⟩
        refine ⟨_, _, rfl, rfl, ?_⟩
        refine ⟨10 * f + u, _, rfl, by omega, ?_, hp4, k3.trans k4⟩
        rw [Nat.pow_succ, Int.natCast_mul]
        generalize ((10 ^ i : Nat) : Int) = A at f1
        omega
      · rintro σ H3 ⟨f, v3, rfl, f0, f1, hp3, k3⟩
        refine ⟨_, rfl, _, rfl, by show 2 ≤ sizeLine; decide, fun lo hlo => ?_⟩
        have s4 := same_upd (o := .lst [V.int 1, V.int (-1)]) hlo
        refine ⟨_, rfl, p, l, 2, _, rfl, hp3.same s4, by omega, by decide, by decide, fun u H5 u0 u1 hp5 k5 => ?_⟩
        have elo := (hp3.same s4).keepL k5 (upd_same (H := H3) (a := lo) (o := .lst [V.int 1, V.int (-1)]))
        obtain ⟨sg, hsg, hs2⟩ : ∃ sg : Int, ([V.int 1, V.int (-1)] : List V)[u.toNat]? = some (V.int sg) ∧ (sg = 1 ∨ sg = -1) := by
          have : u.toNat = 0 ∨ u.toNat = 1 := by omega
          rcases this with e | e <;> rw [e]
          · exact ⟨1, rfl, .inl rfl⟩
          · exact ⟨-1, rfl, .inr rfl⟩
        refine ⟨lo, _, _, V.int sg, rfl, rfl, SqL.of elo, at_of (j := u.toNat) (by omega) hsg, _, _, rfl, rfl, .inr ⟨by omega, by omega⟩, ?_⟩
        have hfa : f.natAbs ≤ 10 ^ d := by
          have hpow : 10 ^ m ≤ 10 ^ d := Nat.pow_le_pow_right (by decide) m1
          generalize 10 ^ m = A at hpow f1
          generalize 10 ^ d = B at hpow
          omega
        refine k _ H5 ?_ (hp5.mono (by omega)) (k3.trans ((kx_same s4).trans k5))
        refine .inr ?_
        rcases hs2 with rfl | rfl
        · rw [Int.mul_one]
          exact hfa
        · rw [Int.mul_neg, Int.mul_one, Int.natAbs_neg]
          exact hfa
  )]); intro f; simpa using My.gz f 5 true
theorem ok__law_far (T : Tx K mg) : FnR P w K mg base CX0 2 (He.ga K "_law_far") sp_far := (ok__law_farS T).imp fun vs H Q E h => by
  obtain ⟨p, l, d, n, rfl, hp, hn, d0, d1, k⟩ := h
  exact ⟨p, l, d, n, rfl, hp, hn, d0, d1, fun r H' hr => k r H' (by generalize 10 ^ d = B at hr ⊢; omega)⟩
theorem c__law_far {X : Cx} {k : Nat} {t : TA} {e : Expr} {es : List Expr} {np pos : Pos} (T : Tx K mg) (hr : Room k X.A) (ha : PA X (e :: es) t) (hk : 2 ≤ k := by decide) (hK : X.K = K := by rfl) (hm : X.mg = mg := by rfl)
    (hg : Gl X "_law_far" := by rfl) (hse : starEach (e :: es) X.env = (false, eval e X.env) :: starEach es X.env := by rfl) (hpl : (backTo pos (starEach es X.env)).any (·.1) = false := by rfl) :
    PE X (.Call (.Name "_law_far" np) (e :: es) [] pos) (tFn sp_far E0 t) := by
  subst hK
  subst hm
  exact pe_fR (ok__law_far T) T.kp__law_far T.g__law_far (hr.mono hk) pass0 ha hg (by decide) hse hpl
end
end Lw
namespace Lw
open PySem PySem.Spec PyProof.Rows L2 My
section
variable {P : Program} {w : World} {K : Fg} {mg : Str → Option Value} {base : Heap}
def sp_gcd : Sp := fun vs H Q _ => ∃ a b : Nat, vs = [.int (a : Int), .int (b : Int)] ∧ Q (.int (Nat.gcd a b : Nat)) H
theorem ok__law_gcd (T : Tx K mg) : FnR P w K mg base CX0 1 (He.ga K "_law_gcd") sp_gcd := by
  apply My.two; (focus intro zzI; simp only [↓ My.mkB zzI (by
  clear zzI
  refine (T.fnR 74 (st := s__law_gcd) (at_ := fun K => He.ga K "_law_gcd") rfl sc__law_gcd (fun _ _ _ _ _ _ us hl => match us, hl with | [_, _], _ => rfl)) (fun vs H Q E h => ?_) (fun cdv A outer s H vs Q E hr h => ?_)
  · obtain ⟨a, b, rfl, _⟩ := h
    rfl
  · obtain ⟨a, b, rfl, q⟩ := h
    refine ⟨_, (pss_cons (ps_par (i := 0) (j := 1) (by rfl) sc__law_gcd.nd rfl rfl (by decide) rfl rfl (pa_cons (pe_callB call_abs (by rfl) T.n_abs (by decide +kernel) (pa_cons (pv 0) pa_nil)) (pa_cons (pe_callB call_abs (by rfl) T.n_abs (by decide +kernel) (pa_cons (pv 1) pa_nil)) pa_nil)) (by rfl))
 (pss_cons (ps_while PassesOwn.never (pt_cmpR op_gt (pv 1) pe_int (nomark _))
 (pss_one (ps_par (i := 0) (j := 1) (by rfl) sc__law_gcd.nd rfl rfl (by decide) rfl rfl (pa_cons (pv 1) (pa_cons (pe_op op_mod (pv 0) (pv 1)) pa_nil)) (by rfl))))
 (pss_one (ps_ret (pv 0))))), ?_⟩
    refine ⟨_, rfl, _, rfl, _, rfl, _, rfl, _, _, rfl, ?_⟩
    refine ⟨fun m σ H' => ∃ x y : Nat, σ = [some (.int (x : Int)), some (.int (y : Int))] ∧ H' = H ∧ Nat.gcd x y = Nat.gcd a b ∧ m = y, ⟨b, a, b, ?_, rfl, rfl, rfl⟩, ?_⟩
    · rw [abs_nat, abs_nat]
      rfl
    · rintro m σ H' ⟨x, y, rfl, rfl, hg, rfl⟩
      refine ⟨_, rfl, _, _, rfl, rfl, _, rfl, ?_⟩
      refine ite2 (fun hc => wh_go ?_) (fun hc => ?_)
      · have hy : 0 < m := by
          have := of_decide_eq_true hc
          omega
        refine ⟨_, rfl, _, rfl, _, rfl, _, _, rfl, rfl, (by show (0 : Int) < (m : Int); omega), _, _, rfl, ?_⟩
        refine ⟨x % m, Nat.mod_lt _ hy, m, x % m, ?_, rfl, ?_, rfl⟩
        · show [some (V.int (m : Int)), some (V.int ((x : Int) % (m : Int)))] = _
          rw [Int.natCast_emod]
        · rw [← hg, Nat.gcd_comm x m, Nat.gcd_rec m x]
          exact Nat.gcd_comm _ _
      · have hy : m = 0 := by
          have := of_decide_eq_false (Bool.eq_false_iff.mpr hc)
          omega
        subst hy
        refine ⟨_, rfl, ?_⟩
        rw [Nat.gcd_zero_right] at hg
        rw [hg]
        exact q
  )]); intro f; simpa using My.gz f 5 true
theorem c__law_gcd {X : Cx} {k : Nat} {t : TA} {e : Expr} {es : List Expr} {np pos : Pos} (T : Tx K mg) (hr : Room k X.A) (ha : PA X (e :: es) t) (hk : 1 ≤ k := by decide) (hK : X.K = K := by rfl) (hm : X.mg = mg := by rfl)
    (hg : Gl X "_law_gcd" := by rfl) (hse : starEach (e :: es) X.env = (false, eval e X.env) :: starEach es X.env := by rfl) (hpl : (backTo pos (starEach es X.env)).any (·.1) = false := by rfl) :
    PE X (.Call (.Name "_law_gcd" np) (e :: es) [] pos) (tFn sp_gcd E0 t) := by
  subst hK
  subst hm
  exact pe_fR (ok__law_gcd T) T.kp__law_gcd T.g__law_gcd (hr.mono hk) pass0 ha hg (by decide) hse hpl
def sp_lmul : Sp := fun vs H Q _ => ∃ a b : Nat, vs = [.int (a : Int), .int (b : Int)] ∧ 0 < a ∧ 0 < b ∧ a ≤ 200000 ∧ b ≤ 200000 ∧ Q (.int (Nat.lcm a b : Nat)) H
theorem ok__law_multiple (T : Tx K mg) : FnR P w K mg base CX0 2 (He.ga K "_law_multiple") sp_lmul := by
  apply My.two; (focus intro zzI; simp only [↓ My.mkB zzI (by
  clear zzI
  refine (T.fnR 75 (st := s__law_multiple) (at_ := fun K => He.ga K "_law_multiple") rfl sc__law_multiple (fun _ _ _ _ _ _ us hl => match us, hl with | [_, _], _ => rfl)) (fun vs H Q E h => ?_) (fun cdv A outer s H vs Q E hr h => ?_)
  · obtain ⟨a, b, rfl, _⟩ := h
    rfl
  · obtain ⟨a, b, rfl, ha, hb, la, lb, q⟩ := h
    refine ⟨_, (pss_one (ps_ret (pe_op op_mul (pe_op op_fdiv (pv 0) (c__law_gcd T hr (pa_cons (pv 0) (pa_cons (pv 1) pa_nil)))) (pv 1)))), ?_⟩
    have hg : 0 < Nat.gcd a b := Nat.gcd_pos_of_pos_left _ ha
    have hg2 : Nat.gcd a b ≤ a := Nat.gcd_le_left _ ha
    refine ⟨_, rfl, _, rfl, _, rfl, a, b, rfl, _, _, rfl, rfl, ⟨by omega, by omega⟩, _, rfl, _, _, rfl, rfl, .inr ⟨by omega, by omega⟩, ?_⟩
    have e : ((a : Int) / ((Nat.gcd a b : Nat) : Int)) * (b : Int) = ((Nat.lcm a b : Nat) : Int) := by
      rw [← Int.natCast_ediv, ← Int.natCast_mul, Nat.lcm, Nat.mul_comm (a / Nat.gcd a b) b, ← Nat.mul_div_assoc _ (Nat.gcd_dvd_left a b), Nat.mul_comm]
    show Q (.int (((a : Int) / ((Nat.gcd a b : Nat) : Int)) * (b : Int))) H
    rw [e]
    exact q
  )]); intro f; simpa using My.gz f 5 true
theorem c__law_multiple {X : Cx} {k : Nat} {t : TA} {e : Expr} {es : List Expr} {np pos : Pos} (T : Tx K mg) (hr : Room k X.A) (ha : PA X (e :: es) t) (hk : 2 ≤ k := by decide) (hK : X.K = K := by rfl) (hm : X.mg = mg := by rfl)
    (hg : Gl X "_law_multiple" := by rfl) (hse : starEach (e :: es) X.env = (false, eval e X.env) :: starEach es X.env := by rfl) (hpl : (backTo pos (starEach es X.env)).any (·.1) = false := by rfl) :
    PE X (.Call (.Name "_law_multiple" np) (e :: es) [] pos) (tFn sp_lmul E0 t) := by
  subst hK
  subst hm
  exact pe_fR (ok__law_multiple T) T.kp__law_multiple T.g__law_multiple (hr.mono hk) pass0 ha hg (by decide) hse hpl
end
end Lw
namespace Lw
open PySem PySem.Spec PyProof.Rows L2 My
def Stay (p : Addr) (F : Hp → Prop) : Prop := ∀ (H H' : Hp) (l : Addr) (n : Nat), PenAt H p l n → Kx p H H' → F H → F H'
structure Bd (H : Hp) (p l : Addr) (n : Nat) (Fs : List (Hp → Prop)) : Prop where
  pen : PenAt H p l n
  all : ∀ F ∈ Fs, Stay p F ∧ F H
section
variable {H H' : Hp} {p l q a : Addr} {n m : Nat} {Fs Gs : List (Hp → Prop)} {F : Hp → Prop} {K : Fg} {f : Int → Int} {xs : List V}
theorem Bd.start (h : PenAt H p l n) : Bd H p l n [] := ⟨h, fun F h => by cases h⟩
theorem Bd.drawn (b : Bd H p l n Fs) (k : Kx p H H') (hp : PenAt H' p l m) : Bd H' p l m Fs := ⟨hp, fun F h => ⟨(b.all F h).1, (b.all F h).1 H H' l n b.pen k (b.all F h).2⟩⟩
theorem Bd.same (b : Bd H p l n Fs) (s : Same H H') : Bd H' p l n Fs := b.drawn (kx_same s) (b.pen.same s)
theorem Bd.mono (b : Bd H p l n Fs) (h : n ≤ m) : Bd H p l m Fs := ⟨b.pen.mono h, b.all⟩
theorem Bd.add (b : Bd H p l n Fs) (s : Stay p F) (h : F H) : Bd H p l n (F :: Fs) := ⟨b.pen, fun G hG => by
  rcases List.mem_cons.mp hG with rfl | hG
  · exact ⟨s, h⟩
  · exact b.all G hG⟩
theorem Bd.at_ (b : Bd H p l n Fs) (i : Nat) (h : Fs[i]? = some F := by rfl) : F H := (b.all F (List.mem_of_getElem? h)).2
theorem Bd.sub (b : Bd H p l n Fs) (h : ∀ F ∈ Gs, F ∈ Fs) : Bd H p l n Gs := ⟨b.pen, fun F hF => b.all F (h F hF)⟩
theorem Bd.last (b : Bd H p l n (Fs ++ Gs)) : Bd H p l n Gs := b.sub fun F h => List.mem_append_right _ h
theorem Bd.tl (b : Bd H p l n (F :: Fs)) : Bd H p l n Fs := b.sub fun F h => List.mem_cons_of_mem _ h
theorem stay_lst : Stay p (fun H => H a = some (.lst xs)) := fun _ _ _ _ hp k h => hp.keepL k h
theorem stay_tup : Stay p (fun H => H a = some (.tup xs)) := fun _ _ _ _ hp k h => hp.keepT k h
theorem Bd.addL (b : Bd H p l n Fs) (h : H a = some (.lst xs)) : Bd H p l n ((fun H => H a = some (.lst xs)) :: Fs) := b.add stay_lst h
theorem Bd.addT (b : Bd H p l n Fs) (h : H a = some (.tup xs)) : Bd H p l n ((fun H => H a = some (.tup xs)) :: Fs) := b.add stay_tup h
theorem stay_setR {r : List Int} : Stay p (fun H => SetRows K H q r) := fun _ _ _ _ hp k m => by
  obtain ⟨dx, a, t, h1, h2, h3⟩ := m
  exact ⟨dx, a, t, k _ _ h1 (hp.ne h1 (by intro kvs z; cases z)), hp.keepL k h2, hp.keepT k h3⟩
theorem stay_set : Stay p (fun H => SetAt K H q f) := fun _ _ _ _ hp k m => by
  obtain ⟨r, h1, h4⟩ := m
  exact ⟨r, stay_setR _ _ _ _ hp k h1, h4⟩
theorem Bd.addS (b : Bd H p l n Fs) (h : SetAt K H q f) : Bd H p l n ((fun H => SetAt K H q f) :: Fs) := b.add stay_set h
end
def Stil (F : Hp → Prop) : Prop := ∀ H H' : Hp, Same H H' → F H → F H'
def Bs (H : Hp) (Fs : List (Hp → Prop)) : Prop := ∀ F ∈ Fs, Stil F ∧ F H
section
variable {H H' : Hp} {q a : Addr} {Fs Gs : List (Hp → Prop)} {F : Hp → Prop} {K : Fg} {f : Int → Int} {xs : List V}
theorem Bs.start : Bs H [] := fun F h => by cases h
theorem Bs.same (b : Bs H Fs) (s : Same H H') : Bs H' Fs := fun F h => ⟨(b F h).1, (b F h).1 H H' s (b F h).2⟩
theorem Bs.add (b : Bs H Fs) (s : Stil F) (h : F H) : Bs H (F :: Fs) := fun G hG => by
  rcases List.mem_cons.mp hG with rfl | hG
  · exact ⟨s, h⟩
  · exact b G hG
theorem Bs.at_ (b : Bs H Fs) (i : Nat) (h : Fs[i]? = some F := by rfl) : F H := (b F (List.mem_of_getElem? h)).2
theorem Bs.tl (b : Bs H (F :: Fs)) : Bs H Fs := fun G hG => b G (List.mem_cons_of_mem _ hG)
theorem Bs.addL (b : Bs H Fs) (h : H a = some (.lst xs)) : Bs H ((fun H => H a = some (.lst xs)) :: Fs) := b.add (fun _ _ s h => s _ _ h) h
theorem Bs.addT (b : Bs H Fs) (h : H a = some (.tup xs)) : Bs H ((fun H => H a = some (.tup xs)) :: Fs) := b.add (fun _ _ s h => s _ _ h) h
theorem Bs.addS (b : Bs H Fs) (h : SetAt K H q f) : Bs H ((fun H => SetAt K H q f) :: Fs) := b.add (fun _ _ s h => h.same s) h
end
end Lw
namespace Lw
open PySem PySem.Spec PyProof.Rows L2 My
section
variable {H H' H1 : Hp} {p l q a : Addr} {n m : Nat} {Fs : List (Hp → Prop)} {F : Hp → Prop} {K : Fg} {f : Int → Int} {xs : List V} {o : HO}
theorem stay_ins {C dx : Addr} {fs : List (Str × V)} : Stay p (fun H => H a = some (.ins C dx fs)) := fun _ _ _ _ hp k h => k _ _ h (hp.ne h (by intro kvs z; cases z))
theorem map1 {a1 : Int} (h : H a = some (.lst [V.int a1])) : H a = some (.lst ([a1].map V.int)) := h
theorem map2 {a1 a2 : Int} (h : H a = some (.lst [V.int a1, V.int a2])) : H a = some (.lst ([a1, a2].map V.int)) := h
theorem map3 {a1 a2 a3 : Int} (h : H a = some (.lst [V.int a1, V.int a2, V.int a3])) : H a = some (.lst ([a1, a2, a3].map V.int)) := h
theorem map4 {a1 a2 a3 a4 : Int} (h : H a = some (.lst [V.int a1, V.int a2, V.int a3, V.int a4])) : H a = some (.lst ([a1, a2, a3, a4].map V.int)) := h
theorem map5 {a1 a2 a3 a4 a5 : Int} (h : H a = some (.lst [V.int a1, V.int a2, V.int a3, V.int a4, V.int a5])) : H a = some (.lst ([a1, a2, a3, a4, a5].map V.int)) := h
def insD : Option HO → Addr
  | some (.ins _ dx _) => dx
  | _ => 0
def insF : Option HO → List (Str × V)
  | some (.ins _ _ fs) => fs
  | _ => []
theorem ins_any {C dx : Addr} {fs : List (Str × V)} (h : H q = some (.ins C dx fs)) : H q = some (.ins C (insD (H q)) (insF (H q))) := by rw [h]; rfl
theorem sqNil (h : H a = some (.lst [])) : SqL K H a (([] : List Int).map V.int) := SqL.of h
/-- in a text's hypotheses: the walker keeps of each list that it was new -/
def KeepNone : Prop := True
theorem Bd.ob (i : Nat) (b : Bd H p l n Fs) (h : Fs[i]? = some fun H => H a = some o) : H a = some o := b.at_ (F := fun H => H a = some o) i h
theorem Bd.newL (b : Bd H p l n Fs) (e : upd H a (.lst xs) = H') (h : H a = none) : Bd H' p l n ((fun H => H a = some (.lst xs)) :: Fs) := (b.same (newS e h)).addL (newO e)
theorem Bd.newT (b : Bd H p l n Fs) (e : upd H a (.tup xs) = H') (h : H a = none) : Bd H' p l n ((fun H => H a = some (.tup xs)) :: Fs) := (b.same (newS e h)).addT (newO e)
theorem stay_dct {kvs : List (Key × V)} (ne : a ≠ p) : Stay p (fun H => H a = some (.dK kvs)) := fun _ _ _ _ _ k h => k _ _ h ne
theorem Bd.newD {kvs : List (Key × V)} (b : Bd H p l n Fs) (e : upd H a (.dK kvs) = H') (h : H a = none) : Bd H' p l n ((fun H => H a = some (.dK kvs)) :: Fs) := (b.same (newS e h)).add (stay_dct (b.pen.new h).1) (newO e)
theorem stay_kx {H0 : Hp} : Stay p (fun H => Kx p H0 H) := fun _ _ _ _ _ k h => h.trans k
theorem ins_ds (m : SetAt K H q f) : H q = some (.ins (DS K) (insD (H q)) (insF (H q))) := by
  obtain ⟨r, ⟨dx, l, t, h1, _⟩, _⟩ := m
  exact ins_any h1
theorem look_ds {x : Str} (m : SetAt K H q f) (h : ∀ l t, (sfs l t).lookup x = none) : (insF (H q)).lookup x = none := by
  apply My.two; (focus intro zzI; simp only [↓ My.mkB zzI (by
  clear zzI
  obtain ⟨r, ⟨dx, l, t, h1, _⟩, _⟩ := m
  rw [h1]
  exact h l t
  )]); intro f; simpa using My.gz f 5 true
theorem set_via (s : Same H H') (m : SetAt K H q f) : SetAt K H' q f := m.same s
theorem Bd.st (i : Nat) (b : Bd H p l n Fs) (h : Fs[i]? = some fun H => SetAt K H q f) : SetAt K H q f := b.at_ (F := fun H => SetAt K H q f) i h
end
end Lw
namespace Lw
open PySem PySem.Spec PyProof.Rows L2 My
/-- the list of flags at D so far -/
def AccF (H1 : Hp) (p l D : Addr) (n : Nat) (i : Nat) (H : Hp) : Prop :=
  Kx p H1 H ∧ PenAt H p l (n + i) ∧ ∃ acc : List Int, H D = some (.lst (acc.map vB)) ∧ acc.length = i ∧ Bits acc
section
variable {H1 H H4 : Hp} {p l D : Addr} {n i : Nat}
theorem AccF.start (hp : PenAt H1 p l n) (hD : H1 D = none) : AccF H1 p l D n 0 (upd H1 D (.lst [])) :=
  ⟨kx_same (same_upd hD), hp.same (same_upd hD), [], upd_same, rfl, fun v h => by simp at h⟩
theorem AccF.push {b : Bool} (a : AccF H1 p l D n i H) (hp : PenAt H1 p l n) (hD : H1 D = none) (k : Kx p H H4) (hp4 : PenAt H4 p l (n + i + 1)) (hi : i < 1000000) :
    ∃ acc, H4 D = some (.lst acc) ∧ acc.length < sizeLine ∧ AccF H1 p l D n (i + 1) (upd H4 D (.lst (acc ++ [V.bl b]))) := by
  apply My.two; (focus intro zzI; simp only [↓ My.mkB zzI (by
  clear zzI
  obtain ⟨k1, hp1, acc, h1, h2, h3⟩ := a
  have nD := hp.new hD
  refine ⟨acc.map vB, hp1.keepL k h1, by rw [List.length_map]; exact szl (by omega), kx_new (k1.trans k) hD, hp4.set nD.1 nD.2, acc ++ [if b then 1 else 0], ?_, ?_, ?_⟩
  · rw [upd_same, List.map_append]
    cases b <;> rfl
  · rw [List.length_append, List.length_singleton, h2]
  · intro v hv
    rcases List.mem_append.mp hv with h | h
    · exact h3 v h
    · obtain rfl := List.mem_singleton.mp h
      cases b
      · exact .inl rfl
      · exact .inr rfl
  )]); intro f; simpa using My.gz f 5 true
end
theorem flat_memB {r : List Int} {k : Nat} {v : Int} (h : v ∈ (List.replicate k r).flatten) : v ∈ r := by
  apply My.two; (focus intro zzI; simp only [↓ My.mkB zzI (by
  clear zzI
  obtain ⟨l0, h1, h2⟩ := List.mem_flatten.mp h
  rw [(List.mem_replicate.mp h1).2] at h2
  exact h2
  )]); intro f; simpa using My.gz f 5 true
section
variable {P : Program} {w : World} {K : Fg} {mg : Str → Option Value} {base : Heap}
def sp_members (K : Fg) : Sp := fun vs H Q _ => ∃ (a : Addr) (r : List Int), vs = [.ref a] ∧ SqL K H a (r.map vB) ∧ r.length ≤ 200000 ∧ ∀ (b : Addr) (H' : Hp), Same H H' → H b = none → H' b = some (.lst ((mem1 r r.length).map V.int)) → Q (.ref b) H'
theorem ok__law_members (T : Tx K mg) : FnR P w K mg base CX0 1 (He.ga K "_law_members") (sp_members K) := by
  apply My.two; (focus intro zzI; simp only [↓ My.mkB zzI (by
  clear zzI
  refine (T.fnR 77 (st := s__law_members) (at_ := fun K => He.ga K "_law_members") rfl sc__law_members (fun _ _ _ _ _ _ us hl => match us, hl with | [_], _ => rfl)) (fun vs H Q E h => ?_) (fun cdv A outer s H vs Q E hr h => ?_)
  · obtain ⟨a, r, rfl, _⟩ := h
    rfl
  · obtain ⟨a, r, rfl, hA, r1, k⟩ := h
    refine ⟨_, (pss_one (ps_ret (pe_lc (own := [("_law_day", 1)]) rfl sc__law_members.nd (pi_range1 rfl T.n_range (pa_cons (pe_callB (len_k T) (by rfl) T.n_len (by decide +kernel) (pa_cons (pv 0) pa_nil)) pa_nil)) (blkOk_by (own := [("_law_day", 1)]) (N := N__law_members) (sc := defScope s__law_members) (by decide +kernel)) (fun _ _ _ _ _ => (pg_name (i := 1) sc__law_members.nd rfl (Or.inl rfl))) (fun _ _ _ _ _ => (pts_one (pt_val (pe_ix (ixl T) (pv 0) (pv 1) (fun _ _ => rfl))))) (fun _ _ _ _ _ => (pv 1))))), ?_⟩
    have el : (r.map vB).length = r.length := List.length_map ..
    refine ⟨_, rfl, a, _, rfl, .inl hA, _, rfl, by rw [el]; omega, by rw [el]; omega, fun D hD => ?_⟩
    rw [el, Int.toNat_natCast]
    refine walk_w walk_range (fun i H' => Same H H' ∧ H' D = some (.lst ((mem1 r i).map V.int))) ⟨same_upd hD, upd_same⟩ (fun _ _ _ _ => trivial) ?_ ?_
    · rintro i x H2 H3 hi ⟨s2, e2⟩ ⟨rfl, rfl⟩
      refine ⟨rfl, ?_⟩
      refine ⟨_, rfl, _, rfl, a, _, _, vB (off r (i : Int)), rfl, rfl, sqL_same hA s2, at_of (j := i) (Int.zero_add _) (mapB_get (off_nat hi)), _, rfl, ?_⟩
      have ml := mem1_len r i
      refine ite2 (fun hc => ?_) (fun hc => ?_)
      · have hc1 : off r (i : Int) = 1 := of_decide_eq_true hc
        refine ⟨_, rfl, _, e2, szl (by rw [List.length_map]; omega), same_under s2 hD, ?_⟩
        rw [upd_same, mem1_yes hc1, List.map_append]
        show some (HO.lst (_ ++ [V.int (0 + (i : Int))])) = _
        rw [Int.zero_add]
        rfl
      · have hc1 : ¬ off r (i : Int) = 1 := fun e => hc (decide_eq_true e)
        refine ⟨s2, ?_⟩
        rw [mem1_no hc1]
        exact e2
    · rintro H2 ⟨s2, e2⟩
      exact k D H2 s2 hD e2
  )]); intro f; simpa using My.gz f 5 true
theorem c__law_members {X : Cx} {k : Nat} {t : TA} {e : Expr} {es : List Expr} {np pos : Pos} (T : Tx K mg) (hr : Room k X.A) (ha : PA X (e :: es) t) (hk : 1 ≤ k := by decide) (hK : X.K = K := by rfl) (hm : X.mg = mg := by rfl)
    (hg : Gl X "_law_members" := by rfl) (hse : starEach (e :: es) X.env = (false, eval e X.env) :: starEach es X.env := by rfl) (hpl : (backTo pos (starEach es X.env)).any (·.1) = false := by rfl) :
    PE X (.Call (.Name "_law_members" np) (e :: es) [] pos) (tFn (sp_members K) E0 t) := by
  subst hK
  subst hm
  exact pe_fR (ok__law_members T) T.kp__law_members T.g__law_members (hr.mono hk) pass0 ha hg (by decide) hse hpl
def sp_leastB (K : Fg) : Sp := fun vs H Q _ => ∃ (a : Addr) (r : List Int), vs = [.ref a] ∧ SqL K H a (r.map vB) ∧ Bits r ∧ 0 < r.length ∧ r.length ≤ 200000 ∧
  ∀ (d : Nat) (H' : Hp), Same H H' → Least (off r) d → Q (.int (d : Int)) H'
theorem ok__law_leastB (T : Tx K mg) : FnR P w K mg base CX0 1 (He.ga K "_law_least") (sp_leastB K) := by
  apply My.two; (focus intro zzI; simp only [↓ My.mkB zzI (by
  clear zzI
  refine (T.fnR 76 (st := s__law_least) (at_ := fun K => He.ga K "_law_least") rfl sc__law_least (fun _ _ _ _ _ _ us hl => match us, hl with | [_], _ => rfl)) (fun vs H Q E h => ?_) (fun cdv A outer s H vs Q E hr h => ?_)
  · obtain ⟨a, r, rfl, _⟩ := h
    rfl
  · obtain ⟨a, r, rfl, hA, hB, r0, r1, k⟩ := h
    refine ⟨_, (pss_cons (ps_for PassesOwn.never rfl (pi_range2 rfl T.n_range (pa_cons pe_int (pa_cons (pe_op op_add (pe_callB (len_k T) (by rfl) T.n_len (by decide +kernel) (pa_cons (pv 0) pa_nil)) pe_int) pa_nil))) (pg_name (i := 1) sc__law_least.nd rfl (Or.inl rfl))
 (pss_one (ps_if (PW.pt (pw_and (pt_cmpR op_eq (pe_op op_mod (pe_callB (len_k T) (by rfl) T.n_len (by decide +kernel) (pa_cons (pv 0) pa_nil)) (pv 1)) pe_int (nomark _)) (pw_and1 (pt_cmpR (eqB T hr.units) (pv 0) (pe_op op_rep (pe_slice (sll T) (pv 0) po_none (po_some (pv 1))) (pe_op op_fdiv (pe_callB (len_k T) (by rfl) T.n_len (by decide +kernel) (pa_cons (pv 0) pa_nil)) (pv 1))) (nomark _)))))
 (pss_one (ps_ret (pv 1)))
 pss_nil)))
 (pss_one (ps_ret (pe_callB (len_k T) (by rfl) T.n_len (by decide +kernel) (pa_cons (pv 0) pa_nil))))), ?_⟩
    refine ⟨_, rfl, a, _, rfl, .inl hA, _, _, rfl, rfl, _, _, rfl, ⟨by decide, by decide, by rw [List.length_map]; omega, by rw [List.length_map]; omega⟩, ?_⟩
    rw [List.length_map, show ((r.length : Int) + 1 - 1).toNat = r.length by omega]
    refine for_range (n := r.length) (fun i σ H' => ∃ v : Option V, σ = [some (.ref a), v] ∧ Same H H' ∧ ∀ e, 0 < e → e < 1 + i → e ∣ r.length → ¬ Per (off r) e) ⟨none, rfl, Same.refl _, fun e h1 h2 => by omega⟩ ?_ ?_
    · rintro i σ H' hi ⟨v, rfl, s', hm⟩
      have hA' := sqL_same hA s'
      obtain ⟨d, hd⟩ : ∃ d : Nat, d = i + 1 := ⟨_, rfl⟩
      have hdi : 1 + (i : Int) = (d : Int) := by omega
      rw [hdi]
      have el : (r.map vB).length = r.length := List.length_map ..
      refine ⟨_, rfl, a, _, rfl, .inl hA', _, rfl, _, _, rfl, rfl, (by show (0 : Int) < (d : Int); omega), rfl, _, rfl, ?_⟩
      have no : ¬ (d ∣ r.length ∧ Per (off r) d) → ∀ H2, Same H H2 → ∃ v : Option V, [some (V.ref a), some (V.int (d : Int))] = [some (.ref a), v] ∧ Same H H2 ∧ ∀ e, 0 < e → e < 1 + (i + 1) → e ∣ r.length → ¬ Per (off r) e := fun h H2 s2 => by
        refine ⟨_, rfl, s2, fun e e0 e1 e2 pe => ?_⟩
        by_cases he : e = d
        · subst he
          exact h ⟨e2, pe⟩
        · exact hm e e0 (by omega) e2 pe
      refine ite2 (fun h1 => ?_) (fun h1 => ?_)
      · have hdv : d ∣ r.length := by
          have e := of_decide_eq_true h1
          rw [el] at e
          exact Int.natCast_dvd_natCast.mp (Int.dvd_of_emod_eq_zero (V.int.inj e))
        obtain ⟨c, hc⟩ := id hdv
        have c0 : 0 < c := Nat.pos_of_ne_zero fun e => by
          rw [e, Nat.mul_zero] at hc
          omega
        have cle : c ≤ r.length := by
          rw [hc]
          exact Nat.le_mul_of_pos_left c (by omega)
        have ec : (((r.map vB).length : Nat) : Int) / (d : Int) = (c : Int) := by
          rw [el, hc, ← Int.natCast_ediv, Nat.mul_div_cancel_left _ (show 0 < d by omega)]
        refine ⟨_, rfl, _, rfl, _, rfl, _, rfl, a, _, rfl, hA', fun t ht => ?_⟩
        have s1 := same_upd (o := .lst (cutV (r.map vB) none (some (d : Int)))) ht
        refine ⟨_, rfl, a, _, rfl, .inl (sqL_same hA' s1), _, rfl, _, _, rfl, rfl, ⟨by omega, by omega⟩, ?_⟩
        have e1 : cutV (r.map vB) none (some (d : Int)) = (r.take d).map vB := by rw [cut_to, mapB_take]
        have tl : (r.take d).length = d := by
          rw [List.length_take]
          omega
        refine ⟨t, (c : Int), _, rfl, congrArg V.int ec, upd_same, by omega, by omega, ?_, fun b hb => ?_⟩
        · rw [e1, List.length_map, tl, Int.toNat_natCast, ← hc]
          exact sz (by omega)
        have e2 : (List.replicate (c : Int).toNat (cutV (r.map vB) none (some (d : Int)))).flatten = ((List.replicate c (r.take d)).flatten).map vB := by
          rw [e1, Int.toNat_natCast, List.map_flatten, List.map_replicate]
        have s2 := same_upd (o := .lst (List.replicate (c : Int).toNat (cutV (r.map vB) none (some (d : Int)))).flatten) hb
        have s12 := s1.trans s2
        refine ⟨a, b, r, (List.replicate c (r.take d)).flatten, rfl, rfl, sqL_same hA' s12, SqL.of (by rw [upd_same, e2]), hB, fun v hv => hB v (List.mem_of_mem_take (flat_memB hv)), _, rfl, ?_⟩
        refine ite2 (fun h2 => ?_) (fun h2 => ?_)
        · have hp : Per (off r) d := (rep_iff (by omega) c0 hc).mp (of_decide_eq_true h2)
          have L : Least (off r) d := least_of (by omega) hdv hp fun e e0 e1 e2 => hm e e0 (by omega) e2
          exact ⟨_, rfl, k d _ (s'.trans s12) L⟩
        · refine no (fun z => h2 (decide_eq_true ((rep_iff (by omega) c0 hc).mpr z.2))) _ (s'.trans s12)
      · refine iteF ?_
        refine no (fun z => h1 (decide_eq_true ?_)) H' s'
        rw [el]
        exact congrArg V.int (Int.emod_eq_zero_of_dvd (Int.natCast_dvd_natCast.mpr z.1))
    · rintro σ H' ⟨v, rfl, s', hm⟩
      exact absurd off_per (hm r.length r0 (by omega) (Nat.dvd_refl _))
  )]); intro f; simpa using My.gz f 5 true
theorem c__law_leastB {X : Cx} {k : Nat} {t : TA} {e : Expr} {es : List Expr} {np pos : Pos} (T : Tx K mg) (hr : Room k X.A) (ha : PA X (e :: es) t) (hk : 1 ≤ k := by decide) (hK : X.K = K := by rfl) (hm : X.mg = mg := by rfl)
    (hg : Gl X "_law_least" := by rfl) (hse : starEach (e :: es) X.env = (false, eval e X.env) :: starEach es X.env := by rfl) (hpl : (backTo pos (starEach es X.env)).any (·.1) = false := by rfl) :
    PE X (.Call (.Name "_law_least" np) (e :: es) [] pos) (tFn (sp_leastB K) E0 t) := by
  subst hK
  subst hm
  exact pe_fR (ok__law_leastB T) T.kp__law_least T.g__law_least (hr.mono hk) pass0 ha hg (by decide) hse hpl
end
end Lw
namespace Lw
open PySem PySem.Spec PyProof.Rows L2 My
section
variable {P : Program} {w : World} {K : Fg} {mg : Str → Option Value} {base : Heap}
def sp_is (K : Fg) : Sp := fun vs H Q _ => ∃ (x a : Addr) (r : List Int), vs = [.ref x, .ref a] ∧ SetAt K H x (off r) ∧ H a = some (.lst (r.map vB)) ∧ Bits r ∧ 0 < r.length ∧ r.length ≤ 200000 ∧ ∀ H' : Hp, Same H H' → Q (.bl true) H'
theorem ok__law_is (T : Tx K mg) : FnG P w K mg base 3 (He.ga K "_law_is") (sp_is K) := by
  apply My.two; (focus intro zzI; simp only [↓ My.mkB zzI (by
  clear zzI
  refine (T.fnG 78 (st := s__law_is) (at_ := fun K => He.ga K "_law_is") rfl sc__law_is (fun _ _ _ _ _ _ us hl => match us, hl with | [_, _], _ => rfl)) (fun vs H Q E h => ?_) (fun cdv A outer s H vs Q E hG hr h => ?_)
  · obtain ⟨x, a, r, rfl, _⟩ := h
    rfl
  · obtain ⟨x, a, r, rfl, ⟨rr, hRR, fR, bR, lR⟩, ha, hB, r0, r1, k⟩ := h
    refine ⟨_, (pss_cons (ps_set (i := 2) sc__law_is.nd rfl (Or.inl rfl) (c__law_leastB T hr (pa_cons (pv 1) pa_nil)))
 (pss_cons (ps_if (PW.pt (pw_or (pt_not (pt_val (pe_callB (isi_k T) (by rfl) T.n_isinstance (by decide +kernel) (pa_cons (pv 0) (pa_cons (pe_glob (v := .ref (He.ga K "DaySet")) rfl T.g_DaySet rfl) pa_nil))))) (pw_or1 (pt_cmpR op_ne (pe_callB (show_k T hG hr) (by rfl) T.n_repr (by decide +kernel) (pa_cons (pD_period T hr (pv 0)) pa_nil)) (pe_callB (show_k T hG hr) (by rfl) T.n_repr (by decide +kernel) (pa_cons (pv 2) pa_nil)) (nomark _)))))
 (pss_one (ps_ret pe_bl))
 pss_nil)
 (pss_one (ps_ret (pe_cmpR op_eq (pe_callB (show_k T hG hr) (by rfl) T.n_repr (by decide +kernel) (pa_cons (pD_days T hr (pv 0)) pa_nil)) (pe_callB (show_k T hG hr) (by rfl) T.n_repr (by decide +kernel) (pa_cons (pe_callTy (tup_k T) (by rfl) T.n_tuple (by decide +kernel) (pa_cons (c__law_members T hr (pa_cons (pe_slice (sll T) (pv 1) po_none (po_some (pv 2))) pa_nil)) pa_nil)) pa_nil)) (nomark _)))))), ?_⟩
    refine ⟨_, rfl, a, r, rfl, SqL.of ha, hB, r0, r1, fun d H1 s1 hd => ?_⟩
    obtain ⟨hrt, hrl⟩ := Rows.of_least hd r0
    have er : rr = r.take d := (fR.eq_iff hrt).mpr rfl
    obtain ⟨dx, l, t, h1, h2, h3⟩ := hRR.same s1
    have hRR1 := hRR.same s1
    have dle : d ≤ r.length := Nat.le_of_dvd r0 (hd.dvd r.length r0 off_per)
    refine ⟨_, rfl, _, _, _, _, true, rfl, .own _, T.ty_DS h1, T.isi_DS_DaySet, _, rfl, ?_⟩
    refine iteF ?_
    refine ⟨_, rfl, x, dx, _, rfl, h1, x, rr, rfl, hRR1, ?_⟩
    refine show_int (by omega) ?_
    refine ⟨_, rfl, ?_⟩
    refine show_int (by omega) ⟨rfl, _, rfl, ?_⟩
    refine iteNS (by rw [er, hrl]) ?_
    refine ⟨_, rfl, x, dx, _, rfl, h1, x, rr, rfl, hRR1, fun t2 e2 => ?_⟩
    have mb : ∀ v ∈ mem1 rr rr.length, v.natAbs < 10 ^ 60 := fun v hv => by
      obtain ⟨j, hj, rfl, _⟩ := mem1_in.mp hv
      have : (j : Int).natAbs < 200000 := by omega
      exact Nat.lt_trans this (by decide)
    have mlr : (mem1 rr rr.length).length ≤ 200000 := Nat.le_trans (mem1_len rr rr.length) lR
    refine show_tup (SqT.of e2) mlr mb ?_
    refine ⟨_, rfl, _, rfl, _, rfl, a, _, rfl, SqL.of (s1 _ _ ha), fun c hc => ?_⟩
    rw [cut_to, mapB_take, ← er]
    have s2 := same_upd (o := .lst (rr.map vB)) hc
    refine ⟨c, rr, rfl, SqL.of upd_same, lR, fun b H3 s3 _ e3 => ?_⟩
    refine ⟨b, _, rfl, .inl ⟨SqL.of e3, fun u hu => ?_⟩⟩
    have s4 := same_upd (o := .tup ((mem1 rr rr.length).map V.int)) hu
    refine show_tup (SqT.of upd_same) mlr mb ⟨rfl, ?_⟩
    rw [decide_eq_true rfl]
    exact k _ (s1.trans (s2.trans (s3.trans s4)))
  )]); intro f; simpa using My.gz f 5 true
theorem c__law_is {X : Cx} {k : Nat} {t : TA} {e : Expr} {es : List Expr} {np pos : Pos} (T : Tx K mg) (hG : X.A.guards = some []) (hr : Room k X.A) (ha : PA X (e :: es) t) (hk : 3 ≤ k := by decide) (hK : X.K = K := by rfl) (hm : X.mg = mg := by rfl)
    (hg : Gl X "_law_is" := by rfl) (hse : starEach (e :: es) X.env = (false, eval e X.env) :: starEach es X.env := by rfl) (hpl : (backTo pos (starEach es X.env)).any (·.1) = false := by rfl) :
    PE X (.Call (.Name "_law_is" np) (e :: es) [] pos) (tFn (sp_is K) E0 t) := by
  subst hK
  subst hm
  exact pe_fG (ok__law_is T) hG T.kp__law_is T.g__law_is (hr.mono hk) pass0 ha hg (by decide) hse hpl
end
end Lw
end
section
local macro_rules | `(tactic| fail "k") => `(tactic| first | (refine My.Kx.trans (My.kx_same (by assumption)) ?_; fail "k") | fail_if_success skip)
local macro_rules | `(tactic| fail "k") => `(tactic| first | (refine My.Kx.trans (by assumption) ?_; fail "k") | fail_if_success skip)
local macro_rules | `(tactic| fail "k") => `(tactic| first | exact My.Kx.refl _ | fail_if_success skip)
local macro_rules | `(tactic| fail "f") => `(tactic| first | (apply My.Same.use; (focus assumption); fail "f") | fail_if_success skip)
local macro_rules | `(tactic| fail "f") => `(tactic| first | (apply Lw.Bd.ob 9; (focus assumption); exact rfl) | fail_if_success skip)
local macro_rules | `(tactic| fail "f") => `(tactic| first | (apply Lw.Bd.ob 8; (focus assumption); exact rfl) | fail_if_success skip)
local macro_rules | `(tactic| fail "f") => `(tactic| first | (apply Lw.Bd.ob 7; (focus assumption); exact rfl) | fail_if_success skip)
local macro_rules | `(tactic| fail "f") => `(tactic| first | (apply Lw.Bd.ob 6; (focus assumption); exact rfl) | fail_if_success skip)
local macro_rules | `(tactic| fail "f") => `(tactic| first | (apply Lw.Bd.ob 5; (focus assumption); exact rfl) | fail_if_success skip)
local macro_rules | `(tactic| fail "f") => `(tactic| first | (apply Lw.Bd.ob 4; (focus assumption); exact rfl) | fail_if_success skip)
local macro_rules | `(tactic| fail "f") => `(tactic| first | (apply Lw.Bd.ob 3; (focus assumption); exact rfl) | fail_if_success skip)
local macro_rules | `(tactic| fail "f") => `(tactic| first | (apply Lw.Bd.ob 2; (focus assumption); exact rfl) | fail_if_success skip)
local macro_rules | `(tactic| fail "f") => `(tactic| first | (apply Lw.Bd.ob 1; (focus assumption); exact rfl) | fail_if_success skip)
local macro_rules | `(tactic| fail "f") => `(tactic| first | (apply Lw.Bd.ob 0; (focus assumption); exact rfl) | fail_if_success skip)
local macro_rules | `(tactic| fail "f") => `(tactic| first | assumption | fail_if_success skip)
local macro_rules | `(tactic| fail "a") => `(tactic| first | (apply L2.SqL.of; apply Lw.map5; fail "f") | fail_if_success skip)
local macro_rules | `(tactic| fail "a") => `(tactic| first | (apply Lw.map5; fail "f") | fail_if_success skip)
local macro_rules | `(tactic| fail "a") => `(tactic| first | (apply L2.SqL.of; apply Lw.map4; fail "f") | fail_if_success skip)
local macro_rules | `(tactic| fail "a") => `(tactic| first | (apply Lw.map4; fail "f") | fail_if_success skip)
local macro_rules | `(tactic| fail "a") => `(tactic| first | (apply L2.SqL.of; apply Lw.map3; fail "f") | fail_if_success skip)
local macro_rules | `(tactic| fail "a") => `(tactic| first | (apply Lw.map3; fail "f") | fail_if_success skip)
local macro_rules | `(tactic| fail "a") => `(tactic| first | (apply L2.SqL.of; apply Lw.map2; fail "f") | fail_if_success skip)
local macro_rules | `(tactic| fail "a") => `(tactic| first | (apply Lw.map2; fail "f") | fail_if_success skip)
local macro_rules | `(tactic| fail "a") => `(tactic| first | (apply L2.SqL.of; apply Lw.map1; fail "f") | fail_if_success skip)
local macro_rules | `(tactic| fail "a") => `(tactic| first | (apply Lw.map1; fail "f") | fail_if_success skip)
local macro_rules | `(tactic| fail "a") => `(tactic| first | (apply Or.inl; refine ⟨?_, ?_⟩; (focus apply L2.SqL.of; fail "f"); apply Lw.sqNil; fail "f") | fail_if_success skip)
local macro_rules | `(tactic| fail "a") => `(tactic| first | (apply My.szl; first | omega | (simp <;> omega)) | fail_if_success skip)
local macro_rules | `(tactic| fail "a") => `(tactic| first | (apply My.sz; first | omega | (simp <;> omega)) | fail_if_success skip)
local macro_rules | `(tactic| fail "a") => `(tactic| first | (apply My.log10 (B := 60) (by decide); omega) | fail_if_success skip)
local macro_rules | `(tactic| fail "a") => `(tactic| first | (show List.length _ ≤ _; simp; done) | fail_if_success skip)
local macro_rules | `(tactic| fail "a") => `(tactic| first | (show 0 < List.length _; simp; done) | fail_if_success skip)
local macro_rules | `(tactic| fail "a") => `(tactic| first | (apply My.mulL; omega) | fail_if_success skip)
local macro_rules | `(tactic| fail "a") => `(tactic| first | (apply My.mulR; omega) | fail_if_success skip)
local macro_rules | `(tactic| fail "a") => `(tactic| first | exact ⟨by omega, by omega⟩ | fail_if_success skip)
local macro_rules | `(tactic| fail "a") => `(tactic| first | decide | fail_if_success skip)
local macro_rules | `(tactic| fail "a") => `(tactic| first | omega | fail_if_success skip)
local macro_rules | `(tactic| fail "a") => `(tactic| first | (show L2.Same _ _; refine My.Same.via (by assumption) ?_; fail "a") | fail_if_success skip)
local macro_rules | `(tactic| fail "a") => `(tactic| first | exact L2.Same.refl _ | fail_if_success skip)
local macro_rules | `(tactic| fail "a") => `(tactic| first | (apply Or.inl; refine ⟨rfl, ?_⟩; apply Exists.intro; apply L2.SqL.of; fail "f") | fail_if_success skip)
local macro_rules | `(tactic| fail "a") => `(tactic| first | (apply My.at_add; assumption) | fail_if_success skip)
local macro_rules | `(tactic| fail "a") => `(tactic| first | (apply L2.at_of rfl; assumption) | fail_if_success skip)
local macro_rules | `(tactic| fail "a") => `(tactic| first | (apply Or.inr; fail "f") | fail_if_success skip)
local macro_rules | `(tactic| fail "a") => `(tactic| first | (apply Or.inl; fail "f") | fail_if_success skip)
local macro_rules | `(tactic| fail "a") => `(tactic| first | (apply Lw.Bd.pen; assumption) | fail_if_success skip)
local macro_rules | `(tactic| fail "a") => `(tactic| first | (apply Lw.RdAt.same; (focus assumption); fail "a") | fail_if_success skip)
local macro_rules | `(tactic| fail "a") => `(tactic| first | (apply Lw.CalAt.same; (focus assumption); fail "a") | fail_if_success skip)
local macro_rules | `(tactic| fail "a") => `(tactic| first | (apply Lw.CalX.same; (focus assumption); fail "a") | fail_if_success skip)
local macro_rules | `(tactic| fail "a") => `(tactic| first | (apply Lw.SetRows.same; (focus assumption); fail "a") | fail_if_success skip)
local macro_rules | `(tactic| fail "a") => `(tactic| first | (apply Lw.set_via; (focus assumption); fail "a") | fail_if_success skip)
local macro_rules | `(tactic| fail "a") => `(tactic| first | (apply Lw.look_ds; (focus fail "a"); exact fun _ _ => rfl) | fail_if_success skip)
local macro_rules | `(tactic| fail "a") => `(tactic| first | (apply Lw.ins_ds; fail "a") | fail_if_success skip)
local macro_rules | `(tactic| fail "a") => `(tactic| first | (apply Lw.Bd.st 9; (focus assumption); exact rfl) | fail_if_success skip)
local macro_rules | `(tactic| fail "a") => `(tactic| first | (apply Lw.Bd.st 8; (focus assumption); exact rfl) | fail_if_success skip)
local macro_rules | `(tactic| fail "a") => `(tactic| first | (apply Lw.Bd.st 7; (focus assumption); exact rfl) | fail_if_success skip)
local macro_rules | `(tactic| fail "a") => `(tactic| first | (apply Lw.Bd.st 6; (focus assumption); exact rfl) | fail_if_success skip)
local macro_rules | `(tactic| fail "a") => `(tactic| first | (apply Lw.Bd.st 5; (focus assumption); exact rfl) | fail_if_success skip)
local macro_rules | `(tactic| fail "a") => `(tactic| first | (apply Lw.Bd.st 4; (focus assumption); exact rfl) | fail_if_success skip)
local macro_rules | `(tactic| fail "a") => `(tactic| first | (apply Lw.Bd.st 3; (focus assumption); exact rfl) | fail_if_success skip)
local macro_rules | `(tactic| fail "a") => `(tactic| first | (apply Lw.Bd.st 2; (focus assumption); exact rfl) | fail_if_success skip)
local macro_rules | `(tactic| fail "a") => `(tactic| first | (apply Lw.Bd.st 1; (focus assumption); exact rfl) | fail_if_success skip)
local macro_rules | `(tactic| fail "a") => `(tactic| first | (apply Lw.Bd.st 0; (focus assumption); exact rfl) | fail_if_success skip)
local macro_rules | `(tactic| fail "a") => `(tactic| first | (apply Lw.Tx.no_RD_cuts; assumption) | fail_if_success skip)
local macro_rules | `(tactic| fail "a") => `(tactic| first | (apply Lw.Tx.no_RD_with_names; assumption) | fail_if_success skip)
local macro_rules | `(tactic| fail "a") => `(tactic| first | (apply Lw.Tx.no_RD_many; assumption) | fail_if_success skip)
local macro_rules | `(tactic| fail "a") => `(tactic| first | (apply Lw.Tx.no_RD_depth; assumption) | fail_if_success skip)
local macro_rules | `(tactic| fail "a") => `(tactic| first | (apply Lw.Tx.no_RD_place; assumption) | fail_if_success skip)
local macro_rules | `(tactic| fail "a") => `(tactic| first | (apply Lw.Tx.no_RD_words; assumption) | fail_if_success skip)
local macro_rules | `(tactic| fail "a") => `(tactic| first | (apply Lw.Tx.no_RD_guide; assumption) | fail_if_success skip)
local macro_rules | `(tactic| fail "a") => `(tactic| first | (show PySem.W.notFirst _ _ _ = true; apply And.right; apply Lw.Tx.fst_RD; assumption) | fail_if_success skip)
local macro_rules | `(tactic| fail "a") => `(tactic| first | (apply Lw.Tx.cl_RD; assumption) | fail_if_success skip)
local macro_rules | `(tactic| fail "a") => `(tactic| first | (apply Lw.Tx.no_CA_works; assumption) | fail_if_success skip)
local macro_rules | `(tactic| fail "a") => `(tactic| first | (apply Lw.Tx.no_CA_turn; assumption) | fail_if_success skip)
local macro_rules | `(tactic| fail "a") => `(tactic| first | (apply Lw.Tx.no_CA_starts; assumption) | fail_if_success skip)
local macro_rules | `(tactic| fail "a") => `(tactic| first | (apply Lw.Tx.no_CA_lengths; assumption) | fail_if_success skip)
local macro_rules | `(tactic| fail "a") => `(tactic| first | (apply Lw.Tx.no_CA_free_days; assumption) | fail_if_success skip)
local macro_rules | `(tactic| fail "a") => `(tactic| first | (apply Lw.Tx.no_CA_rests; assumption) | fail_if_success skip)
local macro_rules | `(tactic| fail "a") => `(tactic| first | (apply Lw.Tx.no_CA_begins; assumption) | fail_if_success skip)
local macro_rules | `(tactic| fail "a") => `(tactic| first | (apply Lw.Tx.no_CA_days_of_week; assumption) | fail_if_success skip)
local macro_rules | `(tactic| fail "a") => `(tactic| first | (apply Lw.Tx.no_CA_all_years; assumption) | fail_if_success skip)
local macro_rules | `(tactic| fail "a") => `(tactic| first | (show PySem.W.notFirst _ _ _ = true; apply And.right; apply Lw.Tx.fst_CA; assumption) | fail_if_success skip)
local macro_rules | `(tactic| fail "a") => `(tactic| first | (apply Lw.Tx.cl_CA; assumption) | fail_if_success skip)
local macro_rules | `(tactic| fail "a") => `(tactic| first | (apply Lw.Tx.no_DS_members; assumption) | fail_if_success skip)
local macro_rules | `(tactic| fail "a") => `(tactic| first | (apply Lw.Tx.no_DS_flags; assumption) | fail_if_success skip)
local macro_rules | `(tactic| fail "a") => `(tactic| first | (show PySem.W.notFirst _ _ _ = true; apply And.right; apply Lw.Tx.fst_DS; assumption) | fail_if_success skip)
local macro_rules | `(tactic| fail "a") => `(tactic| first | (apply Lw.Tx.cl_DS; assumption) | fail_if_success skip)
local macro_rules | `(tactic| fail "a") => `(tactic| first | (show ∃ xs : List L2.V, L2.SqT _ _ _ xs; apply Exists.intro; apply L2.SqT.of; fail "f") | fail_if_success skip)
local macro_rules | `(tactic| fail "a") => `(tactic| first | (show ∃ xs : List L2.V, L2.SqL _ _ _ xs; apply Exists.intro; apply L2.SqL.of; fail "f") | fail_if_success skip)
local macro_rules | `(tactic| fail "a") => `(tactic| first | (apply Or.inr; apply L2.SqT.of; fail "f") | fail_if_success skip)
local macro_rules | `(tactic| fail "a") => `(tactic| first | (apply Or.inl; apply L2.SqL.of; fail "f") | fail_if_success skip)
local macro_rules | `(tactic| fail "a") => `(tactic| first | (apply L2.SqT.of; fail "f") | fail_if_success skip)
local macro_rules | `(tactic| fail "a") => `(tactic| first | (apply L2.SqL.of; fail "f") | fail_if_success skip)
local macro_rules | `(tactic| fail "a") => `(tactic| first | (show _ = some _; fail "f") | fail_if_success skip)
local macro_rules | `(tactic| fail "a") => `(tactic| first | assumption | fail_if_success skip)
local macro_rules | `(tactic| fail "a") => `(tactic| first | ((with_reducible show (_ : Int) ≤ _); omega) | fail_if_success skip)
local macro_rules | `(tactic| fail "a") => `(tactic| first | ((with_reducible show (_ : Int) < _); omega) | fail_if_success skip)
local macro_rules | `(tactic| fail "a") => `(tactic| first | with_reducible assumption | fail_if_success skip)
local macro_rules | `(tactic| fail "a") => `(tactic| first | exact rfl | fail_if_success skip)
local macro_rules | `(tactic| fail "c") => `(tactic| first | (apply And.intro; (focus fail "a")) | fail_if_success skip)
local macro_rules | `(tactic| fail "c") => `(tactic| first | (apply Exists.intro; fail "c") | fail_if_success skip)
local macro_rules | `(tactic| rfl') => `(tactic| first | skip | fail_if_success skip)
local macro_rules | `(tactic| rfl') => `(tactic| first | ((with_reducible refine L2.iteF ?_); rfl') | fail_if_success skip)
local macro_rules | `(tactic| rfl') => `(tactic| first | ((with_reducible refine L2.iteT ?_); rfl') | fail_if_success skip)
local macro_rules | `(tactic| rfl') => `(tactic| first | (intro H' (s : L2.Same _ _); rfl') | fail_if_success skip)
local macro_rules | `(tactic| rfl') => `(tactic| first | (intro o H' (s : L2.Same _ _) ho; rfl') | fail_if_success skip)
local macro_rules | `(tactic| rfl') => `(tactic| first | (intro o H' s ho; have B := Lw.Bd.same (by assumption) s; clear s; rfl') | fail_if_success skip)
local macro_rules | `(tactic| rfl') => `(tactic| first | (intro t H' s nt e; have B := Lw.Bd.addL (Lw.Bd.same (by assumption) s) e; clear s e nt; rfl') | fail_if_success skip)
local macro_rules | `(tactic| rfl') => `(tactic| first | (intro t H' s nt e; have B := Lw.Bd.addT (Lw.Bd.same (by assumption) s) e; clear s e nt; rfl') | fail_if_success skip)
local macro_rules | `(tactic| rfl') => `(tactic| first | (intro b r H' r0 r1 rb hb e hp hk; have B := Lw.Bd.addL (Lw.Bd.drawn (by assumption) hk hp) e; clear hb e hp hk; rfl') | fail_if_success skip)
local macro_rules | `(tactic| rfl') => `(tactic| first | (intro t H' s e; have B := Lw.Bd.addL (Lw.Bd.same (by assumption) s) e; clear s e; rfl') | fail_if_success skip)
local macro_rules | `(tactic| rfl') => `(tactic| first | (intro t H' s e; have B := Lw.Bd.addT (Lw.Bd.same (by assumption) s) e; clear s e; rfl') | fail_if_success skip)
local macro_rules | `(tactic| rfl') => `(tactic| first | (intro x H' s hx m; have B := Lw.Bd.addM (Lw.Bd.same (by assumption) s) m; clear s hx m; rfl') | fail_if_success skip)
local macro_rules | `(tactic| rfl') => `(tactic| first | (intro H' s; have B := Lw.Bd.same (by assumption) s; clear s; rfl') | fail_if_success skip)
local macro_rules | `(tactic| rfl') => `(tactic| first | (intro v j H' hv hp hk; have B := Lw.Bd.drawn (by assumption) hk hp; clear hp hk) | fail_if_success skip)
local macro_rules | `(tactic| rfl') => `(tactic| first | (intro y H' yb hp hk; have B := Lw.Bd.drawn (by assumption) hk hp; clear hp hk; rfl') | fail_if_success skip)
local macro_rules | `(tactic| rfl') => `(tactic| first | (intro r H' r0 r1 hp hk; have B := Lw.Bd.drawn (by assumption) hk hp; clear hp hk; rfl') | fail_if_success skip)
local macro_rules | `(tactic| rfl') => `(tactic| first | (intro (v : L2.V) (j : Nat) H' hv hp hk; have B := Lw.Bd.drawn (by assumption) hk hp; clear hp hk) | fail_if_success skip)
local macro_rules | `(tactic| rfl') => `(tactic| first | (intro b r H' r0 r1 rb rm hb e hp hk; have B := Lw.Bd.addL (Lw.Bd.drawn (by assumption) hk hp) e; clear hb e hp hk; rfl') | fail_if_success skip)
local macro_rules | `(tactic| rfl') => `(tactic| first | (intro x H' s hx m; have B := Lw.Bd.addS (Lw.Bd.same (by assumption) s) m; clear s hx m; rfl') | fail_if_success skip)
local macro_rules | `(tactic| rfl') => `(tactic| first | (intro x H' hx m hp hk; have B := Lw.Bd.addS (Lw.Bd.drawn (by assumption) hk hp) m; clear hx m hp hk; rfl') | fail_if_success skip)
local macro_rules | `(tactic| rfl') => `(tactic| first | (intro p hp; generalize e : L2.upd _ _ _ = H'; (fail_if_success (refine @Exists.intro (Nat → _) _ ?_ ?_)); (have s := My.newS e hp); (have f := My.newO e); clear e; rfl') | fail_if_success skip)
local macro_rules | `(tactic| rfl') => `(tactic| first | (intro q hq; generalize e : L2.upd _ _ _ = H'; (fail_if_success (refine @Exists.intro (Nat → _) _ ?_ ?_)); have B := Lw.Bd.newD (by assumption) e hq; clear e hq; rfl') | fail_if_success skip)
local macro_rules | `(tactic| rfl') => `(tactic| first | (intro q hq; refine And.intro (show L2.upd _ _ (L2.HO.dK []) _ = some (L2.HO.dK []) from L2.upd_same) ?_) | fail_if_success skip)
local macro_rules | `(tactic| rfl') => `(tactic| first | (intro q hq; generalize e : L2.upd _ _ _ = H'; (fail_if_success (refine @Exists.intro (Nat → _) _ ?_ ?_)); have B := Lw.Bd.newT (by assumption) e hq; clear e hq; rfl') | fail_if_success skip)
local macro_rules | `(tactic| rfl') => `(tactic| first | (intro q hq; generalize e : L2.upd _ _ _ = H'; (fail_if_success (refine @Exists.intro (Nat → _) _ ?_ ?_)); have B := Lw.Bd.newL (by assumption) e hq; clear e hq; rfl') | fail_if_success skip)
local macro_rules | `(tactic| rfl') => `(tactic| first | ((have kn : Lw.KeepNone := by assumption); intro q hq; generalize e : L2.upd _ _ _ = H'; (fail_if_success (refine @Exists.intro (Nat → _) _ ?_ ?_)); have B := Lw.Bd.newL (by assumption) e hq; clear e kn; rfl') | fail_if_success skip)
local macro_rules | `(tactic| rfl') => `(tactic| first | (fail "c"; rfl') | fail_if_success skip)
namespace Lw
open PySem PySem.Spec PyProof.Rows L2 My
section
variable {P : Program} {w : World} {K : Fg} {mg : Str → Option Value} {base : Heap}
def plE (y l r h : Addr) (C : Cal) : List (Key × V) := [(.inr "years", .ref y), (.inr "lengths", .ref l), (.inr "week", natV C.week), (.inr "first", natV C.first), (.inr "rest", .ref r), (.inr "holidays", .ref h)]
def RowsL (H : Hp) (ts : List Addr) (rows : List (List Nat)) : Prop := Paired (fun t r => H t = some (.lst (r.map natV))) ts rows
theorem RowsL.rows {H : Hp} : ∀ {ts : List Addr} {rows : List (List Nat)}, RowsL H ts rows → RowsV H ts rows
  | _, _, .nil => .nil
  | _, _, .cons h t => .cons (.inl h) (RowsL.rows t)
theorem RowsL.get {H : Hp} : ∀ {ts : List Addr} {rows : List (List Nat)}, RowsL H ts rows → ∀ {i : Nat} {r : List Nat}, rows[i]? = some r → ∃ t, ts[i]? = some t ∧ H t = some (.lst (r.map natV))
  | _, _, .nil, _, _, h => by cases h
  | _, _, .cons h _, 0, _, e => by
    cases e
    exact ⟨_, rfl, h⟩
  | _, _, .cons _ t, i + 1, _, e => RowsL.get t (i := i) e
theorem RowsL.len {H : Hp} {ts : List Addr} {rows : List (List Nat)} (h : RowsL H ts rows) : ts.length = rows.length := Paired.length h
theorem RowsL.kx {p : Addr} {H H' : Hp} {kvs : List (Key × V)} (hp : H p = some (.dK kvs)) (k : Kx p H H') : ∀ {ts : List Addr} {rows : List (List Nat)}, RowsL H ts rows → RowsL H' ts rows
  | _, _, .nil => .nil
  | _, _, .cons h t => .cons (k _ _ h (ne_dict hp h (by intro z; cases z))) (RowsL.kx hp k t)
theorem RowsL.same {H H' : Hp} (s : Same H H') : ∀ {ts : List Addr} {rows : List (List Nat)}, RowsL H ts rows → RowsL H' ts rows
  | _, _, .nil => .nil
  | _, _, .cons h t => .cons (s _ _ h) (RowsL.same s t)
theorem PrT.kx {p : Addr} {H H' : Hp} {kvs : List (Key × V)} (hp : H p = some (.dK kvs)) (k : Kx p H H') : ∀ {ts : List Addr} {ps : List (Int × Int)}, PrT H ts ps → PrT H' ts ps
  | _, _, .nil => .nil
  | _, _, .cons h t => .cons (k _ _ h (ne_dict hp h (by intro z; cases z))) (PrT.kx hp k t)
structure PlE (H : Hp) (C : Cal) (y l r h : Addr) : Prop where
  yr : ∃ ts, H y = some (.lst (ts.map V.ref)) ∧ RowsL H ts C.rows
  ls : H l = some (.lst (C.ls.map natV))
  rest : H r = some (.lst (C.rest.map V.int))
  hol : ∃ ts, H h = some (.lst (ts.map V.ref)) ∧ PrT H ts C.hol
structure PlW (kv : List (Key × V)) (y l r h : Addr) (C : Cal) : Prop where
  y : valV kv (.inr "years") = some (.ref y)
  l : valV kv (.inr "lengths") = some (.ref l)
  w : valV kv (.inr "week") = some (natV C.week)
  f : valV kv (.inr "first") = some (natV C.first)
  r : valV kv (.inr "rest") = some (.ref r)
  h : valV kv (.inr "holidays") = some (.ref h)
def PlD (H : Hp) (q y l r h : Addr) (C : Cal) : Prop := ∃ kv, H q = some (.dK kv) ∧ PlW kv y l r h C
def PlnAt (H : Hp) (q : Addr) (C : Cal) : Prop := ∃ y l r h : Addr, PlD H q y l r h C ∧ PlE H C y l r h ∧ C.Ok
theorem PlW.of {y l r h : Addr} {C : Cal} : PlW (plE y l r h C) y l r h C := ⟨rfl, rfl, rfl, rfl, rfl, rfl⟩
section
variable {p q : Addr} {H H' : Hp} {kvs : List (Key × V)} {C : Cal}
theorem PlnAt.kx (hp : H p = some (.dK kvs)) (k : Kx p H H') (hq : q ≠ p) (a : PlnAt H q C) : PlnAt H' q C := by
  apply My.two; (focus intro zzI; simp only [↓ My.mkB zzI (by
  clear zzI
  obtain ⟨y, l, r, h, ⟨kv, e, pw⟩, ⟨⟨t1, a1, a2⟩, b1, b2, ⟨t2, c1, c2⟩⟩, ok⟩ := a
  have L : ∀ {a : Addr} {xs : List V}, H a = some (.lst xs) → H' a = some (.lst xs) := fun h => k _ _ h (ne_dict hp h (by intro z; cases z))
  exact ⟨y, l, r, h, ⟨kv, k _ _ e hq, pw⟩, ⟨⟨t1, L a1, a2.kx hp k⟩, L b1, L b2, ⟨t2, L c1, c2.kx hp k⟩⟩, ok⟩
  )]); intro f; simpa using My.gz f 5 true
theorem PlnAt.same (a : PlnAt H q C) (s : Same H H') : PlnAt H' q C := by
  obtain ⟨y, l, r, h, ⟨kv, e, pw⟩, ⟨⟨t1, a1, a2⟩, b1, b2, ⟨t2, c1, c2⟩⟩, ok⟩ := a
  exact ⟨y, l, r, h, ⟨kv, s _ _ e, pw⟩, ⟨⟨t1, s _ _ a1, a2.same s⟩, s _ _ b1, s _ _ b2, ⟨t2, s _ _ c1, c2.same s⟩⟩, ok⟩
theorem stay_pln (hq : q ≠ p) : Stay p (fun H => PlnAt H q C) := fun _ _ _ _ hp k h => by
  obtain ⟨kvs, e⟩ := hp.dict
  exact h.kx e k hq
theorem PlnAt.ok (a : PlnAt H q C) : C.Ok := by
  obtain ⟨y, l, r, h, ⟨kv, e, pw⟩, B, ok⟩ := a
  exact ok
theorem dg_of {k : Str} {v : V} (h : H q = some (.dK kvs)) (e : valV kvs (.inr k) = some v) : DGet H q (.str k) (some v) := by
  rw [← e]
  exact DGet.k (k := .inr k) h
theorem natsI (ls : List Nat) : ls.map natV = (ls.map fun n : Nat => (n : Int)).map V.int := by
  rw [List.map_map]
  rfl
theorem sumI (ls : List Nat) : (ls.map fun n : Nat => (n : Int)).sum = ((ls.sum : Nat) : Int) := by
  apply My.two; (focus intro zzI; simp only [↓ My.mkB zzI (by
  clear zzI
  induction ls with
  | nil => rfl
  | cons a ls ih =>
    rw [List.map_cons, List.sum_cons, List.sum_cons, ih]
    omega
  )]); intro f; simpa using My.gz f 5 true
end
def sp_place : Sp := fun vs H Q _ => ∃ (q : Addr) (C : Cal) (d : Int), vs = [.ref q, .int d] ∧ PlnAt H q C ∧ ∀ (t : Addr) (H' : Hp), Same H H' → H' t = some (.tup [.int (C.num d), .int (d - ms C.ls (C.num d))]) → Q (.ref t) H'
theorem ok__law_place (T : Tx K mg) : FnR P w K mg base CX0 1 (He.ga K "_law_place") sp_place := by
  apply My.two; (focus intro zzI; simp only [↓ My.mkB zzI (by
  clear zzI
  refine (T.fnR 81 (st := s__law_place) (at_ := fun K => He.ga K "_law_place") rfl sc__law_place (fun _ _ _ _ _ _ us hl => match us, hl with | [_, _], _ => rfl)) (fun vs H Q E h => ?_) (fun cdv A outer s H vs Q E hr h => ?_)
  · obtain ⟨q, C, d, rfl, _⟩ := h
    rfl
  · obtain ⟨q, C, d, rfl, ⟨y, l, r, h, ⟨kv, e, pw⟩, B, ok⟩, k⟩ := h
    refine ⟨_, (pss_cons (ps_set (i := 2) sc__law_place.nd rfl (Or.inl rfl) (pe_dget (hu_of hr) (pv 0) pe_str (fun _ _ => rfl)))
 (pss_cons (ps_par (i := 3) (j := 4) (by rfl) sc__law_place.nd rfl rfl (by decide) rfl rfl (pa_cons (pe_op op_mul (pe_op op_fdiv (pv 1) (pe_callB (cr_sum rfl) (by rfl) T.n_sum (by decide +kernel) (pa_cons (pv 2) pa_nil))) (pe_callB (len_k T) (by rfl) T.n_len (by decide +kernel) (pa_cons (pv 2) pa_nil))) (pa_cons (pe_op op_mod (pv 1) (pe_callB (cr_sum rfl) (by rfl) T.n_sum (by decide +kernel) (pa_cons (pv 2) pa_nil))) pa_nil)) (by rfl))
 (pss_cons (ps_for PassesOwn.never rfl (pil T (pv 2)) (pg_name (i := 5) sc__law_place.nd rfl (Or.inl rfl))
 (pss_cons (ps_if (pt_cmpR op_lt (pv 4) (pv 5) (nomark _))
 (pss_one (ps_ret (pe_tup (pa_cons (pv 3) (pa_cons (pv 4) pa_nil)))))
 pss_nil)
 (pss_one (ps_par (i := 3) (j := 4) (by rfl) sc__law_place.nd rfl rfl (by decide) rfl rfl (pa_cons (pe_op op_add (pv 3) pe_int) (pa_cons (pe_op op_sub (pv 4) (pv 5)) pa_nil)) (by rfl)))))
 (pss_one (ps_ret pe_non))))), ?_⟩
    obtain ⟨v1, v2, v3, v4, v5, v6⟩ := pw
    have hl := B.ls
    have n1 := ok.le
    have s0 := ok.s0
    have hsI : SqL K H l ((C.ls.map fun n : Nat => (n : Int)).map V.int) := by
      rw [← natsI]
      exact SqL.of hl
    have el : (C.ls.map natV).length = C.ls.length := List.length_map ..
    obtain ⟨zs, hzs⟩ : ∃ zs : List Int, (C.ls.map fun n : Nat => (n : Int)) = zs := ⟨_, rfl⟩
    have hsum : zs.sum = ((C.ls.sum : Nat) : Int) := by rw [← hzs, sumI]
    rw [hzs] at hsI
    have sp := ok.s1
    have cd : CDiv d zs.sum := by
      rw [hsum]
      exact ⟨by omega, by omega⟩
    rfl'
    refine ⟨dg_of e v2, ?_⟩
    rfl'
    rw [el, hsum]
    obtain ⟨qq, r0, hr0, hd⟩ := d_split s0 d
    have dq := idiv_at (n := (C.ls.sum : Int)) (q := qq) (r := (r0 : Int)) (by omega) (by omega)
    have en : C.num d = qq * (C.ls.length : Int) + (loc C.ls r0 : Int) := by
      show mn C.ls d = _
      rw [hd]
      exact mn_at hr0
    have em : d - ms C.ls (C.num d) = (r0 : Int) - (pre C.ls (loc C.ls r0) : Int) := by
      rw [en, ms_at (loc_lt hr0)]
      omega
    rw [em, en] at k
    rw [← hd] at dq
    clear hzs hsum cd hsI
    refine for_list (xs := C.ls.map natV) (fun i σ H' => ∃ (v5 : Option V) (a b : Int), σ = [some (.ref q), some (.int d), some (.ref l), some (.int a), some (.int b), v5] ∧ a = qq * (C.ls.length : Int) + (i : Int) ∧ b = (r0 : Int) - (pre C.ls i : Int) ∧ H' = H ∧ pre C.ls i ≤ r0) ⟨_, _, _, rfl, by show d / (C.ls.sum : Int) * (C.ls.length : Int) = _; rw [dq.1]; omega, by show d % (C.ls.sum : Int) = _; rw [dq.2]; show (r0 : Int) = (r0 : Int) - ((0 : Nat) : Int); omega, rfl, Nat.zero_le _⟩ (fun j σ H' _ z => by
      obtain ⟨_, _, _, _, _, _, rfl, _⟩ := z
      exact SqL.of hl) ?_ ?_
    · rintro i y σ H' hx ⟨v5, a, b, rfl, ha, hb, rfl, hp⟩
      have hi : i < C.ls.length := by
        have := (List.getElem?_eq_some_iff.mp hx).1
        rw [el] at this
        exact this
      rw [List.getElem?_map, List.getElem?_eq_getElem hi] at hx
      obtain rfl := Option.some.inj hx
      have eg : C.ls.getD i 0 = C.ls[i] := by
        rw [List.getD_eq_getElem?_getD, List.getElem?_eq_getElem hi]
        rfl
      have ps := pre_succ hi
      rw [eg] at ps
      generalize C.ls[i] = z at ps
      rfl'
      refine ite2 (fun c => ?_) (fun c => ?_)
      · have c1 : b < (z : Int) := of_decide_eq_true c
        rfl'
        rename_i tp ntp H1 s1 e1
        have e2 : i = loc C.ls r0 := loc_uniq ok.pos hi hp (by omega)
        refine k tp H1 s1 ?_
        rw [← e2, ← ha, ← hb]
        exact e1
      · have c1 : ¬ b < (z : Int) := fun z => c (decide_eq_true z)
        rfl'
        omega
    · rintro σ H' ⟨v5, a, b, rfl, ha, hb, rfl, hp⟩
      rw [el, pre_all] at hp
      omega
  )]); intro f; simpa using My.gz f 5 true
theorem c__law_place {X : Cx} {k : Nat} {t : TA} {e : Expr} {es : List Expr} {np pos : Pos} (T : Tx K mg) (hr : Room k X.A) (ha : PA X (e :: es) t) (hk : 1 ≤ k := by decide) (hK : X.K = K := by rfl) (hm : X.mg = mg := by rfl)
    (hg : Gl X "_law_place" := by rfl) (hse : starEach (e :: es) X.env = (false, eval e X.env) :: starEach es X.env := by rfl) (hpl : (backTo pos (starEach es X.env)).any (·.1) = false := by rfl) :
    PE X (.Call (.Name "_law_place" np) (e :: es) [] pos) (tFn sp_place E0 t) := by
  subst hK
  subst hm
  exact pe_fR (ok__law_place T) T.kp__law_place T.g__law_place (hr.mono hk) pass0 ha hg (by decide) hse hpl
def sp_lcyc : Sp := fun vs H Q _ => ∃ (q : Addr) (C : Cal), vs = [.ref q] ∧ PlnAt H q C ∧ Q (.int (C.per : Int)) H
theorem ok__law_cycle (T : Tx K mg) : FnR P w K mg base CX0 3 (He.ga K "_law_cycle") sp_lcyc := by
  apply My.two; (focus intro zzI; simp only [↓ My.mkB zzI (by
  clear zzI
  refine (T.fnR 80 (st := s__law_cycle) (at_ := fun K => He.ga K "_law_cycle") rfl sc__law_cycle (fun _ _ _ _ _ _ us hl => match us, hl with | [_], _ => rfl)) (fun vs H Q E h => ?_) (fun cdv A outer s H vs Q E hr h => ?_)
  · obtain ⟨q, C, rfl, _⟩ := h
    rfl
  · obtain ⟨q, C, rfl, ⟨y, l, r, h, ⟨kv, e, pw⟩, B, ok⟩, k⟩ := h
    refine ⟨_, (pss_one (ps_ret (c__law_multiple T hr (pa_cons (pe_callB (cr_sum rfl) (by rfl) T.n_sum (by decide +kernel) (pa_cons (pe_dget (hu_of hr) (pv 0) pe_str (fun _ _ => rfl)) pa_nil)) (pa_cons (pe_dget (hu_of hr) (pv 0) pe_str (fun _ _ => rfl)) pa_nil))))), ?_⟩
    obtain ⟨v1, v2, v3, v4, v5, v6⟩ := pw
    have hl := B.ls
    have s0 := ok.s0
    have sp := ok.sp
    have w0 := ok.w0
    have w1 := ok.w1
    have hsI : SqL K H l ((C.ls.map fun n : Nat => (n : Int)).map V.int) := by
      rw [← natsI]
      exact SqL.of hl
    rfl'
    refine ⟨dg_of e v2, ?_⟩
    rfl'
    refine ⟨dg_of e v3, ?_⟩
    refine ⟨C.ls.sum, C.week, by rw [sumI]; rfl, s0, w0, sp, by omega, k⟩
  )]); intro f; simpa using My.gz f 5 true
theorem c__law_cycle {X : Cx} {k : Nat} {t : TA} {e : Expr} {es : List Expr} {np pos : Pos} (T : Tx K mg) (hr : Room k X.A) (ha : PA X (e :: es) t) (hk : 3 ≤ k := by decide) (hK : X.K = K := by rfl) (hm : X.mg = mg := by rfl)
    (hg : Gl X "_law_cycle" := by rfl) (hse : starEach (e :: es) X.env = (false, eval e X.env) :: starEach es X.env := by rfl) (hpl : (backTo pos (starEach es X.env)).any (·.1) = false := by rfl) :
    PE X (.Call (.Name "_law_cycle" np) (e :: es) [] pos) (tFn sp_lcyc E0 t) := by
  subst hK
  subst hm
  exact pe_fR (ok__law_cycle T) T.kp__law_cycle T.g__law_cycle (hr.mono hk) pass0 ha hg (by decide) hse hpl
def sp_lwd : Sp := fun vs H Q _ => ∃ (q : Addr) (C : Cal) (d : Int), vs = [.ref q, .int d] ∧ PlnAt H q C ∧ Q (.int (C.wkd d)) H
theorem ok__law_weekday (T : Tx K mg) : FnR P w K mg base CX0 1 (He.ga K "_law_weekday") sp_lwd := by
  apply My.two; (focus intro zzI; simp only [↓ My.mkB zzI (by
  clear zzI
  refine (T.fnR 82 (st := s__law_weekday) (at_ := fun K => He.ga K "_law_weekday") rfl sc__law_weekday (fun _ _ _ _ _ _ us hl => match us, hl with | [_, _], _ => rfl)) (fun vs H Q E h => ?_) (fun cdv A outer s H vs Q E hr h => ?_)
  · obtain ⟨q, C, d, rfl, _⟩ := h
    rfl
  · obtain ⟨q, C, d, rfl, ⟨y, l, r, h, ⟨kv, e, pw⟩, B, ok⟩, k⟩ := h
    refine ⟨_, (pss_one (ps_ret (pe_op op_mod (pe_op op_add (pv 1) (pe_dget (hu_of hr) (pv 0) pe_str (fun _ _ => rfl))) (pe_dget (hu_of hr) (pv 0) pe_str (fun _ _ => rfl))))), ?_⟩
    obtain ⟨v1, v2, v3, v4, v5, v6⟩ := pw
    have w0 := ok.w0
    rfl'
    refine ⟨dg_of e v4, ?_⟩
    rfl'
    refine ⟨dg_of e v3, ?_⟩
    rfl'
    exact k
  )]); intro f; simpa using My.gz f 5 true
theorem c__law_weekday {X : Cx} {k : Nat} {t : TA} {e : Expr} {es : List Expr} {np pos : Pos} (T : Tx K mg) (hr : Room k X.A) (ha : PA X (e :: es) t) (hk : 1 ≤ k := by decide) (hK : X.K = K := by rfl) (hm : X.mg = mg := by rfl)
    (hg : Gl X "_law_weekday" := by rfl) (hse : starEach (e :: es) X.env = (false, eval e X.env) :: starEach es X.env := by rfl) (hpl : (backTo pos (starEach es X.env)).any (·.1) = false := by rfl) :
    PE X (.Call (.Name "_law_weekday" np) (e :: es) [] pos) (tFn sp_lwd E0 t) := by
  subst hK
  subst hm
  exact pe_fR (ok__law_weekday T) T.kp__law_weekday T.g__law_weekday (hr.mono hk) pass0 ha hg (by decide) hse hpl
def sp_lrest : Sp := fun vs H Q _ => ∃ (q : Addr) (C : Cal) (d : Int), vs = [.ref q, .int d] ∧ PlnAt H q C ∧ ∀ H' : Hp, Same H H' → Q (.bl (!C.isW d)) H'
theorem ok__law_is_rest (T : Tx K mg) : FnR P w K mg base CX0 2 (He.ga K "_law_is_rest") sp_lrest := by
  apply My.two; (focus intro zzI; simp only [↓ My.mkB zzI (by
  clear zzI
  refine (T.fnR 83 (st := s__law_is_rest) (at_ := fun K => He.ga K "_law_is_rest") rfl sc__law_is_rest (fun _ _ _ _ _ _ us hl => match us, hl with | [_, _], _ => rfl)) (fun vs H Q E h => ?_) (fun cdv A outer s H vs Q E hr h => ?_)
  · obtain ⟨q, C, d, rfl, _⟩ := h
    rfl
  · obtain ⟨q, C, d, rfl, pl, k⟩ := h
    refine ⟨_, (pss_cons (ps_asg (c__law_place T hr (pa_cons (pv 0) (pa_cons (pv 1) pa_nil))) (pgt T (n := 2) rfl (pgs_cons (pg_name (i := 2) sc__law_is_rest.nd rfl (Or.inl rfl)) (pgs_cons (pg_name (i := 3) sc__law_is_rest.nd rfl (Or.inl rfl)) pgs_nil))))
 (pss_cons (ps_if (pt_cmpR (inq T) (c__law_weekday T hr (pa_cons (pv 0) (pa_cons (pv 1) pa_nil))) (pe_dget (hu_of hr) (pv 0) pe_str (fun _ _ => rfl)) (by rfl))
 (pss_one (ps_ret pe_bl))
 pss_nil)
 (pss_one (ps_ret (pe_cmpR (inP T hr.units) (pe_tup (pa_cons (pe_op op_add (pe_op op_mod (pv 2) (pe_callB (len_k T) (by rfl) T.n_len (by decide +kernel) (pa_cons (pe_ix (ixl T) (pe_dget (hu_of hr) (pv 0) pe_str (fun _ _ => rfl)) pe_int (fun _ _ => rfl)) pa_nil))) pe_int) (pa_cons (pe_op op_add (pv 3) pe_int) pa_nil))) (pe_dget (hu_of hr) (pv 0) pe_str (fun _ _ => rfl)) (by rfl)))))), ?_⟩
    refine ⟨_, rfl, _, rfl, q, C, d, rfl, pl, fun t H1 s1 ht => ?_⟩
    replace pl := pl.same s1
    refine ⟨t, _, rfl, SqT.of ht, rfl, ?_⟩
    obtain ⟨y, l, r, h, ⟨kv, e, pw⟩, B, ok⟩ := id pl
    obtain ⟨v1, v2, v3, v4, v5, v6⟩ := pw
    obtain ⟨ts, y1, y2⟩ := B.yr
    obtain ⟨hs, h1, h2⟩ := B.hol
    have m0 := ok.m0
    rfl'
    refine ⟨dg_of e v5, ?_⟩
    refine ⟨r, _, rfl, .inl (SqL.of B.rest), rfl, flatC _, ?_⟩
    rw [if_neg Bool.false_ne_true, inC]
    refine ⟨_, rfl, ?_⟩
    have iw : (!C.isW d) = (decide (C.wkd d ∈ C.rest) || decide ((C.mth d, C.day d) ∈ C.hol)) := by
      show (!(!decide (C.wkd d ∈ C.rest) && !decide ((C.mth d, C.day d) ∈ C.hol))) = _
      rw [Bool.not_and, Bool.not_not, Bool.not_not]
    refine ite2 (fun c1 => ?_) (fun c1 => ?_)
    · rw [c1, Bool.true_or] at iw
      rw [iw] at k
      exact k _ s1
    · rw [Bool.eq_false_iff.mpr c1, Bool.false_or] at iw
      rw [iw] at k
      obtain ⟨t0, e0, h0⟩ : ∃ t0, ts[0]? = some t0 ∧ H1 t0 = some (.lst ((C.rows.getD 0 []).map natV)) := by
        have ne := ok.yr.ne
        refine y2.get (i := 0) ?_
        rw [List.getD_eq_getElem?_getD, List.getElem?_eq_getElem ne]
        rfl
      have hm : ((C.rows.getD 0 []).map natV).length = C.mon := List.length_map ..
      have ea : atI (ts.map V.ref) 0 = some (.ref t0) := at_of (j := 0) rfl (by rw [List.getElem?_map, e0]; rfl)
      rfl'
      refine ⟨dg_of e v1, ?_⟩
      rfl'
      rename_i p1 hp1 H2 s2 f2
      rw [hm] at f2
      refine ⟨dg_of (s2 _ _ e) v6, ?_⟩
      exact ⟨p1, h, (C.mth d, C.day d), hs, C.hol, rfl, rfl, SqT.of f2, .inl (SqL.of (s2 _ _ h1)), (h2.same s2).prs, k _ (s1.trans s2)⟩
  )]); intro f; simpa using My.gz f 5 true
theorem c__law_is_rest {X : Cx} {k : Nat} {t : TA} {e : Expr} {es : List Expr} {np pos : Pos} (T : Tx K mg) (hr : Room k X.A) (ha : PA X (e :: es) t) (hk : 2 ≤ k := by decide) (hK : X.K = K := by rfl) (hm : X.mg = mg := by rfl)
    (hg : Gl X "_law_is_rest" := by rfl) (hse : starEach (e :: es) X.env = (false, eval e X.env) :: starEach es X.env := by rfl) (hpl : (backTo pos (starEach es X.env)).any (·.1) = false := by rfl) :
    PE X (.Call (.Name "_law_is_rest" np) (e :: es) [] pos) (tFn sp_lrest E0 t) := by
  subst hK
  subst hm
  exact pe_fR (ok__law_is_rest T) T.kp__law_is_rest T.g__law_is_rest (hr.mono hk) pass0 ha hg (by decide) hse hpl
def sp_lop (K : Fg) : Sp := fun vs H Q _ => ∃ (q : Addr) (C : Cal), vs = [.ref q] ∧ PlnAt H q C ∧ C.works ≠ [] ∧
  ∀ (c : Addr) (rs : List Int) (ps : List (Int × Int)) (H' : Hp), Same H H' → H c = none → CalAt K H' c (C.re rs ps) → rs.Perm C.rest → rs.Pairwise (· ≤ ·) → ps.Perm C.hol → ps.Pairwise (fun a b => a.1 * 64 + a.2 ≤ b.1 * 64 + b.2) → Q (.ref c) H'
theorem ok__law_opened (T : Tx K mg) : FnR P w K mg base CX0 8 (He.ga K "_law_opened") (sp_lop K) := by
  apply My.two; (focus intro zzI; simp only [↓ My.mkB zzI (by
  clear zzI
  refine (T.fnR 84 (st := s__law_opened) (at_ := fun K => He.ga K "_law_opened") rfl sc__law_opened (fun _ _ _ _ _ _ us hl => match us, hl with | [_], _ => rfl)) (fun vs H Q E h => ?_) (fun cdv A outer s H vs Q E hr h => ?_)
  · obtain ⟨q, C, rfl, _⟩ := h
    rfl
  · obtain ⟨q, C, rfl, ⟨y, l, r, hh, ⟨kv, e, pw⟩, B, ok⟩, hw, k⟩ := h
    obtain ⟨v1, v2, v3, v4, v5, v6⟩ := pw
    refine ⟨_, (pss_cons (ps_par (i := 1) (j := 2) (by rfl) sc__law_opened.nd rfl rfl (by decide) rfl rfl (pa_cons (pe_callTy (lst_k T) (by rfl) T.n_list (by decide +kernel) (pa_cons (pe_dget (hu_of hr) (pv 0) pe_str (fun _ _ => rfl)) pa_nil)) (pa_cons (pe_callTy (lst_k T) (by rfl) T.n_list (by decide +kernel) (pa_cons (pe_dget (hu_of hr) (pv 0) pe_str (fun _ _ => rfl)) pa_nil)) pa_nil)) (by rfl))
 (pss_one (ps_ret (mkk_Calendar_first_rest_holidays T hr (pa_cons (pe_dget (hu_of hr) (pv 0) pe_str (fun _ _ => rfl)) (pa_cons (pe_dget (hu_of hr) (pv 0) pe_str (fun _ _ => rfl)) pa_nil)) (pk_cons (pe_dget (hu_of hr) (pv 0) pe_str (fun _ _ => rfl)) (pk_cons (pv 1) (pk_cons (pv 2) pk_nil))))))), ?_⟩
    obtain ⟨ts, y1, y2⟩ := B.yr
    obtain ⟨hs, h1, h2⟩ := B.hol
    have hR := B.rest
    rfl'
    refine ⟨dg_of e v5, ?_⟩
    rfl'
    rename_i a1 n1 H1 t1 x1
    have e1 := t1 _ _ e
    have h11 := t1 _ _ h1
    refine ⟨dg_of e1 v6, ?_⟩
    rfl'
    rename_i a2 n2 H2 t2 x2
    have e2 := t2 _ _ e1
    have s2 := t1.trans t2
    refine ⟨dg_of e2 v1, ?_⟩
    rfl'
    refine ⟨dg_of e2 v3, ?_⟩
    rfl'
    refine ⟨dg_of e2 v4, ?_⟩
    rfl'
    intro x dx nx nd ne
    have s0 : Same H2 (upd (upd H2 dx (.own x)) x (.ins (CA K) dx [])) := fun b u e => by
      rw [upd_ne (ne_of_none e nx), upd_ne (ne_of_none e nd)]
      exact e
    have sz := s2.trans s0
    refine ⟨x, dx, y, a1, a2, ts, hs, C, rfl, upd_same, .inl (sz _ _ y1), (y2.same sz).rows, .inl (.inl (s0 _ _ (t2 _ _ x1))), .inl (.inl (s0 _ _ x2)), h2.same sz, ok, hw, fun rs ps H' p1 pw1 p2 pw2 ca kx => ⟨rfl, ?_⟩⟩
    exact k x rs ps H' (fun b u e => kx b u (sz b u e) (ne_of_none (s2 b u e) nx)) (s2.free nx) ca.at_ p1 pw1 p2 pw2
  )]); intro f; simpa using My.gz f 5 true
theorem c__law_opened {X : Cx} {k : Nat} {t : TA} {e : Expr} {es : List Expr} {np pos : Pos} (T : Tx K mg) (hr : Room k X.A) (ha : PA X (e :: es) t) (hk : 8 ≤ k := by decide) (hK : X.K = K := by rfl) (hm : X.mg = mg := by rfl)
    (hg : Gl X "_law_opened" := by rfl) (hse : starEach (e :: es) X.env = (false, eval e X.env) :: starEach es X.env := by rfl) (hpl : (backTo pos (starEach es X.env)).any (·.1) = false := by rfl) :
    PE X (.Call (.Name "_law_opened" np) (e :: es) [] pos) (tFn (sp_lop K) E0 t) := by
  subst hK
  subst hm
  exact pe_fR (ok__law_opened T) T.kp__law_opened T.g__law_opened (hr.mono hk) pass0 ha hg (by decide) hse hpl
end
end Lw
namespace Lw
open PySem PySem.Spec PyProof.Rows L2 My
section
variable {P : Program} {w : World} {K : Fg} {mg : Str → Option Value} {base : Heap}
def RowI (H5 : Hp) (Lr p l : Addr) (m L j : Nat) (H' : Hp) : Prop := Kx p H5 H' ∧ PenAt H' p l (m + j) ∧ ∃ row : List Nat, H' Lr = some (.lst (row.map natV)) ∧ row.length = j ∧ ∀ x ∈ row, 1 ≤ x ∧ x ≤ L
theorem RowI.push {H5 H' H2 : Hp} {Lr p l : Addr} {m L j x : Nat} (h : RowI H5 Lr p l m L j H') (k : Kx p H' H2) (hp : PenAt H2 p l (m + j + 1)) (nL : H5 Lr = none) (pn : PenAt H5 p l m) (hx : 1 ≤ x ∧ x ≤ L) (hj : j < 1000) :
    ∃ acc, H2 Lr = some (.lst acc) ∧ acc.length < sizeLine ∧ RowI H5 Lr p l m L (j + 1) (upd H2 Lr (.lst (acc ++ [natV x]))) := by
  apply My.two; (focus intro zzI; simp only [↓ My.mkB zzI (by
  clear zzI
  obtain ⟨k1, p1, row, e, rl, hr⟩ := h
  have nn := pn.new nL
  refine ⟨_, p1.keepL k e, by rw [List.length_map, sizeLine_eq]; omega, kx_new (k1.trans k) nL, hp.set nn.1 nn.2, row ++ [x], by rw [upd_same, List.map_append]; rfl, by rw [List.length_append, rl]; rfl, fun z hz => ?_⟩
  rcases List.mem_append.mp hz with hz | hz
  · exact hr z hz
  · rw [List.mem_singleton.mp hz]
    exact hx
  )]); intro f; simpa using My.gz f 5 true
def RowsI (H5 : Hp) (D p l : Addr) (m mon L i : Nat) (H' : Hp) : Prop := Kx p H5 H' ∧ PenAt H' p l (m + 14 * i) ∧ ∃ (ts : List Addr) (rows : List (List Nat)), H' D = some (.lst (ts.map V.ref)) ∧ RowsL H' ts rows ∧ (∀ t ∈ ts, t ≠ D) ∧ rows.length = i ∧ ∀ r ∈ rows, r.length = mon ∧ ∀ x ∈ r, 1 ≤ x ∧ x ≤ L
theorem RowsL.at_ne {H H' : Hp} : ∀ {ts : List Addr} {rows : List (List Nat)}, RowsL H ts rows → (∀ t ∈ ts, H' t = H t) → RowsL H' ts rows
  | _, _, .nil, _ => .nil
  | _, _, .cons h t, e => .cons (by show H' _ = _; rw [e _ (List.mem_cons_self ..)]; exact h) (RowsL.at_ne t fun x hx => e x (List.mem_cons_of_mem _ hx))
theorem RowsL.snoc {H : Hp} {t : Addr} {row : List Nat} (ht : H t = some (.lst (row.map natV))) : ∀ {ts : List Addr} {rows : List (List Nat)}, RowsL H ts rows → RowsL H (ts ++ [t]) (rows ++ [row])
  | _, _, .nil => .cons ht .nil
  | _, _, .cons h r => .cons h (RowsL.snoc ht r)
theorem RowsI.push {H5 H' H2 : Hp} {D Lr p l : Addr} {m mon L i : Nat} (h : RowsI H5 D p l m mon L i H') (nL : H' Lr = none) (r : RowI H' Lr p l (m + 14 * i) L mon H2) (nD : H5 D = none) (pn : PenAt H5 p l m) (m14 : mon ≤ 14) (hi : i < 1000) :
    ∃ acc, H2 D = some (.lst acc) ∧ acc.length < sizeLine ∧ RowsI H5 D p l m mon L (i + 1) (upd H2 D (.lst (acc ++ [.ref Lr]))) := by
  apply My.two; (focus intro zzI; simp only [↓ My.mkB zzI (by
  clear zzI
  obtain ⟨k1, p1, ts, rows, e, hr, nt, rl, hx⟩ := h
  obtain ⟨k2, p2, row, eL, el, hz⟩ := r
  obtain ⟨kvs, hk⟩ := p1.dict
  have nn := pn.new nD
  have LD : Lr ≠ D := fun z => by
    rw [z, e] at nL
    cases nL
  have hl := hr.len
  refine ⟨_, p1.keepL k2 e, by rw [List.length_map, sizeLine_eq]; omega, kx_new (k1.trans k2) nD, (p2.set nn.1 nn.2).mono (by omega), ts ++ [Lr], rows ++ [row], by rw [upd_same, List.map_append]; rfl, ?_, ?_, by rw [List.length_append, rl]; rfl, ?_⟩
  · refine RowsL.at_ne (H := H2) (RowsL.snoc eL (hr.kx hk k2)) fun t ht => ?_
    rw [upd_ne]
    rcases List.mem_append.mp ht with ht | ht
    · exact nt t ht
    · rw [List.mem_singleton.mp ht]
      exact LD
  · intro t ht
    rcases List.mem_append.mp ht with ht | ht
    · exact nt t ht
    · rw [List.mem_singleton.mp ht]
      exact LD
  · intro z hz2
    rcases List.mem_append.mp hz2 with hz2 | hz2
    · exact hx z hz2
    · rw [List.mem_singleton.mp hz2]
      exact ⟨el, hz⟩
  )]); intro f; simpa using My.gz f 5 true
theorem stay_rowsL {p : Addr} {ts : List Addr} {rows : List (List Nat)} : Stay p (fun H => RowsL H ts rows) := fun _ _ _ _ hp k h => by
  obtain ⟨kvs, e⟩ := hp.dict
  exact h.kx e k
theorem stay_prT {p : Addr} {ts : List Addr} {ps : List (Int × Int)} : Stay p (fun H => PrT H ts ps) := fun _ _ _ _ hp k h => by
  obtain ⟨kvs, e⟩ := hp.dict
  exact h.kx e k
theorem PrT.snoc {H : Hp} {t : Addr} {z : Int × Int} (ht : H t = some (.tup [.int z.1, .int z.2])) : ∀ {ts : List Addr} {ps : List (Int × Int)}, PrT H ts ps → PrT H (ts ++ [t]) (ps ++ [z])
  | _, _, .nil => .cons ht .nil
  | _, _, .cons h r => .cons h (PrT.snoc ht r)
/-- copies of the rows so far -/
def CopI (H9 : Hp) (D2 : Addr) (rows : List (List Nat)) (i : Nat) (H' : Hp) : Prop := Same H9 H' ∧ ∃ us : List Addr, H' D2 = some (.lst (us.map V.ref)) ∧ us.length = i ∧ (∀ u ∈ us, u ≠ D2) ∧ RowsL H' us (rows.take i)
theorem CopI.push {H9 H10 H11 : Hp} {D2 t : Addr} {rows : List (List Nat)} {row : List Nat} {i : Nat} (h : CopI H9 D2 rows i H10) (hD : H9 D2 = none) (s11 : Same H10 H11) (nt : H10 t = none) (et : H11 t = some (.lst (row.map natV))) (er : rows[i]? = some row) (hi : i < 1000) :
    ∃ acc, H11 D2 = some (.lst acc) ∧ acc.length < sizeLine ∧ CopI H9 D2 rows (i + 1) (upd H11 D2 (.lst (acc ++ [.ref t]))) := by
  apply My.two; (focus intro zzI; simp only [↓ My.mkB zzI (by
  clear zzI
  obtain ⟨s10, us, e10, ul, un, hu⟩ := h
  have tD : t ≠ D2 := fun z => by
    rw [z, e10] at nt
    cases nt
  have mem : ∀ x ∈ us ++ [t], x ≠ D2 := fun x hx => by
    rcases List.mem_append.mp hx with hx | hx
    · exact un x hx
    · rw [List.mem_singleton.mp hx]
      exact tD
  refine ⟨_, s11 _ _ e10, by rw [List.length_map, sizeLine_eq]; omega, same_under (s10.trans s11) hD, us ++ [t], by rw [upd_same, List.map_append]; rfl, by rw [List.length_append, ul]; rfl, mem, ?_⟩
  rw [List.take_add_one, er]
  exact RowsL.at_ne (H := H11) (RowsL.snoc et (hu.same s11)) fun x hx => upd_ne (mem x hx)
  )]); intro f; simpa using My.gz f 5 true
theorem RowsL.lists {H : Hp} {us : List Addr} {rows : List (List Nat)} (h : RowsL H us rows) : Paired (fun b xs => SqL K H b xs) us (rows.map fun r => r.map natV) := by
  apply My.two; (focus intro zzI; simp only [↓ My.mkB zzI (by
  clear zzI
  induction h with
  | nil => exact .nil
  | cons h _ ih => exact .cons (SqL.of h) ih
  )]); intro f; simpa using My.gz f 5 true
theorem flat_rows (rows : List (List Nat)) : (rows.map fun r => r.map natV).flatten = rows.flatten.map natV := by
  apply My.two; (focus intro zzI; simp only [↓ My.mkB zzI (by
  clear zzI
  induction rows with
  | nil => rfl
  | cons r rs ih => rw [List.map_cons, List.flatten_cons, ih, List.flatten_cons, List.map_append]
  )]); intro f; simpa using My.gz f 5 true
theorem PrT.at_ne {H H' : Hp} : ∀ {ts : List Addr} {ps : List (Int × Int)}, PrT H ts ps → (∀ t ∈ ts, H' t = H t) → PrT H' ts ps
  | _, _, .nil, _ => .nil
  | _, _, .cons h t, e => .cons (by show H' _ = _; rw [e _ (List.mem_cons_self ..)]; exact h) (PrT.at_ne t fun x hx => e x (List.mem_cons_of_mem _ hx))
/-- the holidays so far -/
def HolI (H5 : Hp) (fr p l : Addr) (m mon i : Nat) (H' : Hp) : Prop := Kx p H5 H' ∧ PenAt H' p l (m + 2 * i) ∧ ∃ (us : List Addr) (ps : List (Int × Int)), H' fr = some (.lst (us.map V.ref)) ∧ PrT H' us ps ∧ (∀ u ∈ us, u ≠ fr) ∧ (∀ z ∈ ps, 1 ≤ z.1 ∧ z.1 ≤ (mon : Int) ∧ 1 ≤ z.2 ∧ z.2 ≤ 40) ∧ ps.Nodup ∧ ps.length ≤ i
theorem hol_push {H5 H' H2 : Hp} {fr p l tq : Addr} {us : List Addr} {ps : List (Int × Int)} {m mon i : Nat} {z : Int × Int} (k1 : Kx p H5 H') (p1 : PenAt H' p l (m + 2 * i)) (e : H' fr = some (.lst (us.map V.ref))) (pr : PrT H' us ps) (ne : ∀ u ∈ us, u ≠ fr)
    (hb : ∀ z ∈ ps, 1 ≤ z.1 ∧ z.1 ≤ (mon : Int) ∧ 1 ≤ z.2 ∧ z.2 ≤ 40) (nd : ps.Nodup) (hl : ps.length ≤ i) (k : Kx p H' H2) (hp : PenAt H2 p l (m + 2 * (i + 1))) (nfr : H5 fr = none) (pn : PenAt H5 p l m) (ht : H2 tq = some (.tup [.int z.1, .int z.2]))
    (z1 : 1 ≤ z.1 ∧ z.1 ≤ (mon : Int) ∧ 1 ≤ z.2 ∧ z.2 ≤ 40) (hz : z ∉ ps) (hi : i < 1000) :
    ∃ acc, H2 fr = some (.lst acc) ∧ acc.length < sizeLine ∧ HolI H5 fr p l m mon (i + 1) (upd H2 fr (.lst (acc ++ [.ref tq]))) := by
  apply My.two; (focus intro zzI; simp only [↓ My.mkB zzI (by
  clear zzI
  have nn := pn.new nfr
  have e2 := p1.keepL k e
  obtain ⟨kvs, hk⟩ := p1.dict
  have ul : us.length = ps.length := Paired.length pr
  have tn : tq ≠ fr := fun y => by
    rw [y, e2] at ht
    cases ht
  have mem : ∀ x ∈ us ++ [tq], x ≠ fr := fun x hx => by
    rcases List.mem_append.mp hx with hx | hx
    · exact ne x hx
    · rw [List.mem_singleton.mp hx]
      exact tn
  refine ⟨_, e2, by rw [List.length_map, sizeLine_eq]; omega, kx_new (k1.trans k) nfr, hp.set nn.1 nn.2, us ++ [tq], ps ++ [z], by rw [upd_same, List.map_append]; rfl, PrT.at_ne (H := H2) (PrT.snoc ht (pr.kx hk k)) fun x hx => upd_ne (mem x hx), mem, fun y hy => ?_, ?_, by rw [List.length_append, List.length_singleton]; omega⟩
  · rcases List.mem_append.mp hy with hy | hy
    · exact hb y hy
    · rw [List.mem_singleton.mp hy]
      exact z1
  · rw [List.nodup_append]
    refine ⟨nd, by simp, fun a ha b hb2 e => ?_⟩
    rw [List.mem_singleton.mp hb2] at e
    exact hz (e ▸ ha)
  )]); intro f; simpa using My.gz f 5 true
theorem rgV_ints (n : Nat) : rgV 0 (n : Int) = ((List.range n).map fun i : Nat => (i : Int)).map V.int := by
  apply My.two; (focus intro zzI; simp only [↓ My.mkB zzI (by
  clear zzI
  unfold rgV
  rw [List.map_map, show ((n : Int) - 0).toNat = n by omega]
  exact List.map_congr_left fun i _ => congrArg V.int (Int.zero_add _)
  )]); intro f; simpa using My.gz f 5 true
/-- a small calendar of the law -/
structure SmlC (C : Cal) (most : Nat) : Prop where
  per : C.per ≤ 6 * (6 * most + 28)
  rows : C.rows.length ≤ 2
  week : C.week ≤ 6
  sum : C.ls.sum ≤ 6 * most + 28
def sp_lcal : Sp := fun vs H Q _ => ∃ (p l : Addr) (most n : Nat), vs = [.ref p, .int (most : Int)] ∧ PenAt H p l n ∧ n + 100 ≤ 1000000000000 ∧ 1 ≤ most ∧ most ≤ 39 ∧
  ∀ (q : Addr) (C : Cal) (H' : Hp), PenAt H' p l (n + 100) → Kx p H H' → q ≠ p → PlnAt H' q C → C.wrkN C.per ≠ [] → SmlC C most → Q (.ref q) H'
theorem ok__law_calendar (T : Tx K mg) : FnR P w K mg base CX0 5 (He.ga K "_law_calendar") sp_lcal := by
  apply My.two; (focus intro zzI; simp only [↓ My.mkB zzI (by
  clear zzI
  refine (T.fnR 79 (st := s__law_calendar) (at_ := fun K => He.ga K "_law_calendar") rfl sc__law_calendar (fun _ _ _ _ _ _ us hl => match us, hl with | [_, _], _ => rfl)) (fun vs H Q E h => ?_) (fun cdv A outer s H vs Q E hr h => ?_)
  · obtain ⟨p, l, most, n, rfl, _⟩ := h
    rfl
  · obtain ⟨p, l, most, n, rfl, hp, hn, m0, m1, k⟩ := h
    refine ⟨_, (pss_cons (ps_asg (pe_tup (pa_cons (c__law_pick T hr (pa_cons (pv 0) (pa_cons (pe_lst (pa_cons pe_int (pa_cons pe_int (pa_cons pe_int (pa_cons (pe_op op_add pe_int (c__law_draw T hr (pa_cons (pv 0) (pa_cons pe_int pa_nil)))) pa_nil))))) pa_nil))) (pa_cons (pe_op op_add pe_int (c__law_draw T hr (pa_cons (pv 0) (pa_cons pe_int pa_nil)))) pa_nil))) (pgt T (n := 2) rfl (pgs_cons (pg_name (i := 2) sc__law_calendar.nd rfl (Or.inr rfl)) (pgs_cons (pg_name (i := 3) sc__law_calendar.nd rfl (Or.inl rfl)) pgs_nil))))
 (pss_cons (ps_set (i := 4) sc__law_calendar.nd rfl (Or.inl rfl) (pe_op op_add pe_int (c__law_draw T hr (pa_cons (pv 0) (pa_cons (pe_callB (call_min2 rfl) (by rfl) T.n_min (by decide +kernel) (pa_cons pe_int (pa_cons (pv 1) pa_nil))) pa_nil)))))
 (pss_mid (ps_if (pt_cmpR op_gt (pv 2) pe_int (nomark _))
 (pss_one (ps_asg (pe_tup (pa_cons pe_int (pa_cons pe_int pa_nil))) (pgt T (n := 2) rfl (pgs_cons (pg_name (i := 3) sc__law_calendar.nd rfl (Or.inl rfl)) (pgs_cons (pg_name (i := 1) sc__law_calendar.nd rfl (Or.inr rfl)) pgs_nil)))))
 pss_nil)
 (pss_cons (ps_setLc (i := 5) (own := [("_law_year", 13)]) rfl sc__law_calendar.nd rfl rfl (sw_true rfl rfl rfl (by decide +kernel)) (pi_range1 rfl T.n_range (pa_cons (pv 3) pa_nil)) (blkOk_by (own := [("_law_year", 13)]) (N := N__law_calendar) (sc := defScope s__law_calendar) (by decide +kernel)) (fun _ _ _ _ _ => (pg_name (i := 13) sc__law_calendar.nd rfl (Or.inl rfl))) (fun _ _ _ _ _ => pts_nil) (fun _ _ _ _ _ => (pe_lc (own := [("_law_month", 14)]) rfl sc__law_calendar.nd (pi_range1 rfl T.n_range (pa_cons (pv 2) pa_nil)) (blkOk_nest (own := [("_law_month", 14)]) (N := N__law_calendar) (by decide +kernel)) (fun _ _ _ _ _ => (pg_name (i := 14) sc__law_calendar.nd rfl (Or.inl rfl))) (fun _ _ _ _ _ => pts_nil) (fun _ _ _ _ _ => (pe_op op_add pe_int (c__law_draw T hr (pa_cons (pv 0) (pa_cons (pv 1) pa_nil))))))))
 (pss_cons (ps_par (i := 6) (j := 7) (by rfl) sc__law_calendar.nd rfl rfl (by decide) rfl rfl (pa_cons (pe_callB (sumL_k T rfl) (by rfl) T.n_sum (by decide +kernel) (pa_cons (pe_lc (own := [("_law_year", 13)]) rfl sc__law_calendar.nd (pil T (pv 5)) (blkOk_by (own := [("_law_year", 13)]) (N := N__law_calendar) (sc := defScope s__law_calendar) (by decide +kernel)) (fun _ _ _ _ _ => (pg_name (i := 13) sc__law_calendar.nd rfl (Or.inl rfl))) (fun _ _ _ _ _ => pts_nil) (fun _ _ _ _ _ => (pe_callTy (lst_k T) (by rfl) T.n_list (by decide +kernel) (pa_cons (pv 13) pa_nil)))) (pa_cons (pe_lst pa_nil) pa_nil))) (pa_cons (c__law_draw T hr (pa_cons (pv 0) (pa_cons (pv 4) pa_nil))) pa_nil)) (by rfl))
 (pss_cons (ps_set (i := 8) sc__law_calendar.nd rfl (Or.inl rfl) (pe_slice (sll T) (c__law_shuffled T hr (pa_cons (pv 0) (pa_cons (pe_listRg (by rfl) (by rfl) T.n_list (prg_1 (by rfl) T.n_range (pv 4))) pa_nil))) po_none (po_some (c__law_draw T hr (pa_cons (pv 0) (pa_cons (pv 4) pa_nil))))))
 (pss_cons (ps_set (i := 9) sc__law_calendar.nd rfl (Or.inl rfl) (pe_lst pa_nil))
 (pss_cons (ps_for PassesOwn.never rfl (pi_range1 rfl T.n_range (pa_cons (c__law_draw T hr (pa_cons (pv 0) (pa_cons pe_int pa_nil))) pa_nil)) (pg_name (i := 10) sc__law_calendar.nd rfl (Or.inl rfl))
 (pss_cons (ps_set (i := 11) sc__law_calendar.nd rfl (Or.inl rfl) (pe_tup (pa_cons (pe_op op_add pe_int (c__law_draw T hr (pa_cons (pv 0) (pa_cons (pv 2) pa_nil)))) (pa_cons (pe_op op_add pe_int (c__law_draw T hr (pa_cons (pv 0) (pa_cons (pe_op op_add (pv 1) pe_int) pa_nil)))) pa_nil))))
 (pss_one (ps_if (pt_cmpR (ninP T hr.units) (pv 11) (pv 9) (by rfl))
 (pss_one (ps_expr (bmk T PySem.F.plainAttrs_list PySem.F.slot_list_append PySem.F.type_list_append mt_append (pv 9) (pa_cons (pv 11) pa_nil))))
 pss_nil))))
 (pss_cons (ps_set (i := 12) sc__law_calendar.nd rfl (Or.inr rfl) (pe_disp (pps_cons pe_str (pv 5) (pps_cons pe_str (pv 6) (pps_cons pe_str (pv 4) (pps_cons pe_str (pv 7) (pps_cons pe_str (pv 8) (pps_cons pe_str (pv 9) pps_nil)))))) (by rfl) (by rfl) (fun z => by cases z) (by decide)))
 (pss_cons (ps_if (pt_cmpR (eqi T hr.units) (pe_lc (own := [("_law_day", 15)]) rfl sc__law_calendar.nd (pi_range1 rfl T.n_range (pa_cons (c__law_cycle T hr (pa_cons (pv 12) pa_nil)) pa_nil)) (blkOk_by (own := [("_law_day", 15)]) (N := N__law_calendar) (sc := defScope s__law_calendar) (by decide +kernel)) (fun _ _ _ _ _ => (pg_name (i := 15) sc__law_calendar.nd rfl (Or.inl rfl))) (fun _ _ _ _ _ => (pts_one (pt_not (pt_val (c__law_is_rest T hr (pa_cons (pv 12) (pa_cons (pv 15) pa_nil))))))) (fun _ _ _ _ _ => (pv 15))) (pe_lst pa_nil) (nomark _))
 (pss_cons (ps_dput (hu_of hr) (pv 12) pe_str (pe_lst pa_nil) rfl)
 (pss_one (ps_dput (hu_of hr) (pv 12) pe_str (pe_lst pa_nil) rfl)))
 pss_nil)
 (pss_one (ps_ret (pv 12))))))))))))), ?_⟩
    have B := (Bd.start hp).add stay_kx (Kx.refl H)
    rfl'
    rename_i r1 H1 a0 a1 B1 q2 H2 B2 v j H3 hv B3
    obtain ⟨sr, rfl, hs⟩ : ∃ sr : Nat, v = natV sr ∧ (1 ≤ sr ∧ sr ≤ 3 ∨ 10 ≤ sr ∧ sr ≤ 14) := by
      match j, hv with
      | 0, hv => exact ⟨1, (Option.some.inj hv).symm, .inl ⟨by omega, by omega⟩⟩
      | 1, hv => exact ⟨2, (Option.some.inj hv).symm, .inl ⟨by omega, by omega⟩⟩
      | 2, hv => exact ⟨3, (Option.some.inj hv).symm, .inl ⟨by omega, by omega⟩⟩
      | 3, hv => exact ⟨10 + r1.toNat, (Option.some.inj hv).symm.trans (congrArg V.int (by omega)), .inr ⟨by omega, by omega⟩⟩
      | j + 4, hv => simp at hv
    replace B3 := B3.tl
    clear B1 B2 B hv
    rfl'
    rename_i r4 H4 b0 b1 B4 q5 H5 B5 r6 H6 c0 c1 B6
    have r6b : r6 < 6 := by
      have : (if (most : Int) < 6 then (most : Int) else 6) ≤ 6 := by split <;> omega
      omega
    refine ⟨fun σ H' => ∃ many mst : Nat, σ = [some (.ref p), some (natV mst), some (natV sr), some (natV many), some (.int (1 + r6)), none, none, none, none, none, none, none, none, none, none, none] ∧ 1 ≤ many ∧ many ≤ 2 ∧ 1 ≤ mst ∧ mst ≤ 39 ∧ many * sr * mst ≤ 6 * most + 28 ∧ Bd H' p l (n + 4) [fun H1 => Kx p H H1], ?_, ?_⟩
    · rfl'
      refine ite2 (fun c => ?_) (fun c => ?_)
      · rfl'
        rename_i q7 H7 B7
        exact ⟨by show 1 * sr * 2 ≤ 6 * most + 28; omega, (B7.last (Fs := [_, _]) (Gs := [_])).mono (by omega)⟩
      · have c1 : ¬ (3 : Int) < (sr : Int) := fun z => c (decide_eq_true z)
        refine ⟨1 + r4.toNat, most, ?_, by omega, by omega, by omega, by omega, ?_, (B6.last (Fs := [_]) (Gs := [_])).mono (by omega)⟩
        · show [_, _, _, some (V.int (1 + r4)), _, none, none, none, none, none, none, none, none, none, none, none] = _
          rw [show natV (1 + r4.toNat) = V.int (1 + r4) from congrArg V.int (by omega)]
          rfl
        · have h1 := Nat.mul_le_mul (show 1 + r4.toNat ≤ 2 by omega) (show sr ≤ 3 by omega)
          have h2 := Nat.mul_le_mul_right most h1
          omega
    clear B3 B4 B5 B6 a0 a1
    rintro σ H4 ⟨many, mst, rfl, n0, n1, t0, t1, tot, B⟩
    have sr0 : 1 ≤ sr ∧ sr ≤ 14 := by omega
    rfl'
    intro D hD
    refine walk_w walk_range (RowsI H4 D p l (n + 4) sr mst) ?_ (fun _ _ _ _ => trivial) ?_ ?_
    · exact ⟨kx_same (same_upd hD), B.pen.same (same_upd hD), [], [], upd_same, .nil, (fun t ht => by cases ht), rfl, (fun r hr => by cases hr)⟩
    · rintro i x _ H9 hi I9 ⟨rfl, rfl⟩
      rw [Int.toNat_natCast] at hi
      have pn9 := I9.2.1
      rfl'
      intro Lr hLr
      refine walk_w walk_range (RowI H9 Lr p l (n + 4 + 14 * i) mst) ⟨kx_same (same_upd hLr), pn9.same (same_upd hLr), [], upd_same, rfl, (fun r hr => by cases hr)⟩ (fun _ _ _ _ => trivial) ?_ ?_
      · rintro j x _ H10 hj I10 ⟨rfl, rfl⟩
        rw [Int.toNat_natCast] at hj
        have B10 := (Bd.start I10.2.1).add stay_kx (Kx.refl H10)
        rfl'
        rename_i ra Ha ra0 ra1 Ba
        have := I10.push (x := 1 + ra.toNat) (Ba.at_ 0) Ba.pen hLr pn9 ⟨by omega, by omega⟩ (by omega)
        rw [show natV (1 + ra.toNat) = V.int (1 + ra) from congrArg V.int (by omega)] at this
        exact this
      · rintro H10 I10
        rw [Int.toNat_natCast] at I10
        exact I9.push hLr I10 hD B.pen sr0.2 (by omega)
    rintro H9 I9
    rw [Int.toNat_natCast] at I9
    obtain ⟨k9, p9, ts, rows, e9, hrw, hne, rl, hrs⟩ := I9
    replace B := (((B.drawn k9 p9).mono (show n + 4 + 14 * many ≤ n + 32 by omega)).add stay_rowsL hrw).addL e9
    clear k9 p9 e9
    have tl : ts.length = rows.length := hrw.len
    rfl'
    intro D2 hD2
    refine walk_w (walk_list (xs := ts.map V.ref)) (CopI H9 D2 rows) ⟨same_upd hD2, [], upd_same, rfl, (fun u hu => by cases hu), .nil⟩ (fun i H' _ h => SqL.of (h.1 _ _ (B.at_ 0))) ?_ ?_
    · rintro i x _ H10 hi I10 ⟨rfl, hx⟩
      rw [List.length_map, tl] at hi
      obtain ⟨t, et, ht⟩ := hrw.get (i := i) (List.getElem?_eq_getElem hi)
      rw [List.getElem?_map, et] at hx
      obtain rfl := Option.some.inj hx
      have ht10 := I10.1 _ _ ht
      rfl'
      rename_i q1 nq1 H11 s11 f11
      exact I10.push hD2 s11 nq1 f11 (List.getElem?_eq_getElem hi) (by omega)
    rintro H10 I10
    rw [List.length_map, tl] at I10
    obtain ⟨s10, us, e10, ul, un, hu⟩ := I10
    rw [List.take_length] at hu
    have ls1 : rows.flatten.length = many * sr := (flat_len fun r hr => (hrs r hr).1).trans (by rw [rl])
    have ms14 := Nat.mul_le_mul n1 sr0.2
    have B10 := ((B.same s10).add stay_rowsL hu).addL e10
    rfl'
    rename_i qe He Be
    have hu2 : RowsL He us rows := Be.at_ 2
    refine ⟨hu2.lists, by omega, by rw [flat_rows, List.length_map, sizeLine_eq]; omega, fun Ll hLl => ?_⟩
    rw [flat_rows]
    have sL := same_upd (o := .lst (rows.flatten.map natV)) hLl
    have eL : upd He Ll (.lst (rows.flatten.map natV)) Ll = some (.lst (rows.flatten.map natV)) := upd_same
    generalize upd He Ll (.lst (rows.flatten.map natV)) = Hf at sL eL ⊢
    have Bf := ((Be.last (Fs := [_, _, _]) (Gs := [_, _, _])).same sL).addL eL
    clear Be hu2 B10 hu e10 s10 B hD2 hrw
    obtain ⟨size, hsz⟩ : ∃ size : Nat, natV size = V.int (1 + r6) := ⟨1 + r6.toNat, congrArg V.int (by omega)⟩
    have hs1 := V.int.inj hsz
    rfl'
    rename_i bg Hg g0 g1 Bg qr Hh Bh
    have eqr : Hh qr = some (.lst (((List.range size).map fun i : Nat => (i : Int)).map V.int)) := by
      rw [← rgV_ints, hs1]
      exact Bh.at_ 0
    have lnr : ((List.range size).map fun i : Nat => (i : Int)).length = size := by rw [List.length_map, List.length_range]
    refine ⟨eqr, by rw [lnr]; omega, by rw [lnr]; omega, fun b ys Hi perm nb eb pen kx => ?_⟩
    rw [lnr] at pen
    have Bi := ((Bh.tl.drawn kx pen).mono (show n + 32 + 1 + size ≤ n + 40 by omega)).addL eb |>.add stay_kx (Kx.refl Hi)
    have kn : KeepNone := trivial
    clear Bg Bh Bf eqr kx pen eb
    rfl'
    rename_i rc Hj c0 c1 Bj qs nqs Hk Bk fr nfr Hl Bl rn Hm e0 e1 Bm
    clear kn
    obtain ⟨k3, hk3⟩ : ∃ k3 : Nat, rc = (k3 : Int) := ⟨rc.toNat, by omega⟩
    have eqs : Hm qs = some (.lst ((ys.take k3).map V.int)) := by
      have h := (Bm.at_ 1 : Hm qs = some (.lst (cutV (ys.map V.int) none (some rc))))
      rw [hk3, cut_to, mapInt_take] at h
      exact h
    obtain ⟨ds, hds⟩ : ∃ ds : List Int, ys.take k3 = ds := ⟨_, rfl⟩
    rw [hds] at eqs
    have dsm : ∀ x ∈ ds, 0 ≤ x ∧ x < (size : Int) := fun x hx => by
      rw [← hds] at hx
      obtain ⟨j, hj, rfl⟩ := List.mem_map.mp (perm.mem_iff.mp (List.mem_of_mem_take hx))
      have := List.mem_range.mp hj
      omega
    have dsn : ds.Nodup := by
      rw [← hds]
      refine (List.take_sublist k3 ys).nodup (perm.nodup_iff.mpr ?_)
      rw [List.nodup_iff_pairwise_ne, List.pairwise_map]
      exact List.nodup_range.imp fun h z => h (by omega)
    have dsl : ds.length ≤ 6 := by
      have := perm.length_eq
      rw [lnr] at this
      rw [← hds, List.length_take]
      omega
    have nfi : Hi fr = none := Bk.pen.free (Bk.at_ 1 : Kx p Hi Hk) nfr
    have kxm : Kx p Hi Hm := Bm.at_ 2
    have efr : Hm fr = some (.lst (([] : List Addr).map V.ref)) := Bm.at_ 0
    have Bn := ((Bm.last (Fs := [_, _, _, _]) (Gs := [_, _, _, _])).addL eqs).mono (show n + 40 + 1 + 1 ≤ n + 42 by omega)
    have qf : qs ≠ fr := fun z => by
      have h := (Bk.at_ 0 : Hk qs = some _)
      rw [z, nfr] at h
      cases h
    clear Bj Bk Bl Bm perm hds hk3 nfr nqs
    have pn := Bi.pen.mono (show n + 40 ≤ n + 42 by omega)
    refine for_range (n := rn.toNat) (fun i σ H' => ∃ v10 v11 : Option V, σ = [some (.ref p), some (natV mst), some (natV sr), some (natV many), some (V.int (1 + r6)), some (.ref D), some (.ref Ll), some (V.int bg), some (.ref qs), some (.ref fr), v10, v11, none, none, none, none] ∧ HolI Hi fr p l (n + 42) sr i H' ∧ H' qs = some (.lst (ds.map V.int))) ⟨_, _, rfl, ⟨kxm, Bn.pen, [], [], efr, .nil, (fun u hu => by cases hu), (fun u hu => by cases hu), .nil, Nat.le_refl _⟩, eqs⟩ ?_ ?_
    · rintro i σ H10 hi ⟨v10, v11, rfl, ⟨k1, p1, us, ps, e, pr, ne, hb, nd, hl⟩, eq⟩
      have B10 := (Bd.start p1).add stay_kx (Kx.refl H10)
      generalize hR : My.rInP K true = R
      rfl'
      subst hR
      rename_i rd Ha d0 d1 Ba re Hb f0 f1 Bb tq Hc Bc
      obtain ⟨z, hz1, hz2⟩ : ∃ z : Int × Int, z.1 = 1 + rd ∧ z.2 = 1 + re := ⟨(_, _), rfl, rfl⟩
      have ht : Hc tq = some (.tup [V.int z.1, V.int z.2]) := by
        rw [hz1, hz2]
        exact Bc.at_ 0
      have kc : Kx p H10 Hc := Bc.at_ 1
      obtain ⟨kvs, hk⟩ := p1.dict
      have z1 : 1 ≤ z.1 ∧ z.1 ≤ (sr : Int) ∧ 1 ≤ z.2 ∧ z.2 ≤ 40 := by
        rw [hz1, hz2]
        omega
      have eqc := p1.keepL kc eq
      refine ⟨tq, fr, z, us, ps, rfl, rfl, SqT.of ht, .inl (SqL.of (p1.keepL kc e)), (pr.kx hk kc).prs, ?_⟩
      rw [if_pos rfl]
      have pc := Bc.pen.mono (show n + 42 + 2 * i + 1 + 1 ≤ n + 42 + 2 * (i + 1) by omega)
      by_cases hz : z ∈ ps
      · rw [decide_eq_true hz]
        refine ⟨_, rfl, ?_⟩
        refine iteF ?_
        exact ⟨_, _, rfl, ⟨k1.trans kc, pc, us, ps, p1.keepL kc e, pr.kx hk kc, ne, hb, nd, by omega⟩, eqc⟩
      · rw [decide_eq_false hz]
        refine ⟨_, rfl, ?_⟩
        refine iteT ?_
        obtain ⟨acc, ea, la, I2⟩ := hol_push k1 p1 e pr ne hb nd hl kc pc nfi pn ht z1 hz (by omega)
        have eq2 : upd Hc fr (.lst (acc ++ [V.ref tq])) qs = some (.lst (ds.map V.int)) := by
          rw [upd_ne qf]
          exact eqc
        rfl'
        exact eq2
    rintro σ H10 ⟨v10, v11, rfl, ⟨k1, p1, us, ps, e, pr, ne, hb, nd, hl⟩, eq⟩
    have Bo := ((((Bi.last (Fs := [_, _]) (Gs := [_, _, _, _])).drawn k1 p1).mono (show n + 42 + 2 * rn.toNat ≤ n + 50 by omega)).addL eq).addL e |>.add stay_prT pr
    clear Bi Bn k1 p1 eq e pr kxm efr eqs
    have w1 : (1 : Int) ≤ (size : Int) ∧ (size : Int) ≤ 6 := by omega
    have g00 : (rows.getD 0 []).length = sr := by
      cases rows with
      | nil => simp at rl; omega
      | cons r rs => exact (hrs r (List.mem_cons_self ..)).1
    have yo : YrOk rows := ⟨by omega, by omega, by omega, by omega, fun r hr => by rw [g00]; exact (hrs r hr).1, fun r hr x hx => by have := (hrs r hr).2 x hx; omega⟩
    have sl : rows.flatten.sum ≤ 6 * most + 28 := by
      have := My.sum_le (ls := rows.flatten) (B := mst) fun x hx => by
        obtain ⟨r, hr, hx⟩ := List.mem_flatten.mp hx
        exact ((hrs r hr).2 x hx).2
      rw [ls1] at this
      omega
    have s0 : 0 < rows.flatten.sum := sum_pos (by rw [ls1]; exact Nat.mul_pos n0 sr0.1) fun x hx => by
      obtain ⟨r, hr, hx⟩ := List.mem_flatten.mp hx
      exact ((hrs r hr).2 x hx).1
    have per : Nat.lcm rows.flatten.sum size ≤ 6 * (6 * most + 28) := by
      have h1 : Nat.lcm rows.flatten.sum size ∣ rows.flatten.sum * size := Nat.lcm_dvd (Nat.dvd_mul_right _ _) (Nat.dvd_mul_left _ _)
      have h2 := Nat.le_of_dvd (Nat.mul_pos s0 (by omega)) h1
      have h3 := Nat.mul_le_mul sl (show size ≤ 6 by omega)
      omega
    have ok : ∀ (R : List Int) (F : List (Int × Int)), (∀ x ∈ R, 0 ≤ x ∧ x < (size : Int)) → R.Nodup → R.length < 64 → (∀ p ∈ F, 1 ≤ p.1 ∧ p.1 ≤ (sr : Int) ∧ 1 ≤ p.2 ∧ p.2 ≤ 40) → F.Nodup → F.length < 64 → Cal.Ok ⟨rows, size, bg.toNat, R, F⟩ := fun R F h1 h2 h3 h4 h5 h6 =>
      ⟨yo, by show 0 < size; omega, by show size ≤ 10; omega, by show bg.toNat < size; omega, h1, h2, h3, fun p hp => by have := h4 p hp; show 1 ≤ p.1 ∧ p.1 ≤ ((rows.getD 0 []).length : Int) ∧ _; rw [g00]; exact this, h5, h6, Nat.le_trans per (by omega)⟩
    have okc := ok ds ps dsm dsn (by omega) hb nd (by omega)
    obtain ⟨C, hC⟩ : ∃ C : Cal, C = ⟨rows, size, bg.toNat, ds, ps⟩ := ⟨_, rfl⟩
    rw [← hC] at okc
    have hfi : V.int bg = natV bg.toNat := congrArg V.int (by omega)
    obtain ⟨BB, hBB⟩ : ∃ u : Unit → Bd H10 p l (n + 50) _, u = fun _ => Bo := ⟨_, rfl⟩
    clear Bo hBB
    rfl'
    rename_i q nq H11 s11 e11
    have Bo := BB ()
    rw [← hsz, hfi]
    refine ⟨plE D Ll qs fr C, by rw [hC]; rfl, by show 6 ≤ 15; decide, ?_⟩
    rw [show mergeK [] (plE D Ll qs fr C) = plE D Ll qs fr C from rfl]
    have s12 : Same H10 (upd H11 q (.dK (plE D Ll qs fr C))) := same_under s11 nq
    have e12 : upd H11 q (.dK (plE D Ll qs fr C)) q = some (.dK (plE D Ll qs fr C)) := upd_same
    generalize upd H11 q (.dK (plE D Ll qs fr C)) = H12 at s12 e12 ⊢
    have B12 := Bo.same s12
    have qpl := Bo.pen.new nq
    have nqH : H q = none := Bo.pen.free (Bo.at_ 6 : Kx p H H10) nq
    have pln : PlnAt H12 q C := ⟨D, Ll, qs, fr, ⟨_, e12, PlW.of⟩, ⟨⟨ts, B12.at_ 4, by rw [hC]; exact B12.at_ 5⟩, by rw [hC]; exact B12.at_ 3, by rw [hC]; exact B12.at_ 2, ⟨us, B12.at_ 1, by rw [hC]; exact B12.at_ 0⟩⟩, okc⟩
    clear BB Bo s11 e11 nq s12 hne
    have p2 : C.per ≤ 1572 := by
      have : C.per = Nat.lcm rows.flatten.sum size := by rw [hC]; rfl
      omega
    have p0 := okc.p0
    refine ⟨_, rfl, q, C, rfl, pln, _, rfl, by omega, by omega, fun D3 hD3 => ?_⟩
    refine walk_w walk_range (fun i H' => Same H12 H' ∧ H' D3 = some (.lst ((C.wrkN i).map natV))) ⟨same_upd hD3, upd_same⟩ (fun _ _ _ _ => trivial) ?_ ?_
    · rintro i x _ H13 hi ⟨s13, e13⟩ ⟨rfl, rfl⟩
      have pl13 := pln.same s13
      have wl := Cal.wrkN_len (C := C) i
      have lnD : ((C.wrkN i).map natV).length < sizeLine := by
        rw [List.length_map, sizeLine_eq]
        omega
      refine ⟨rfl, ?_⟩
      refine ⟨_, rfl, _, rfl, q, C, _, rfl, pl13, fun H14 s14 => ?_⟩
      refine ⟨_, rfl, ?_⟩
      refine ite2 (fun c => ?_) (fun c => ?_) <;> rw [Bool.not_not, Int.zero_add] at c
      · refine ⟨_, rfl, _, s14 _ _ e13, lnD, same_under (s13.trans s14) hD3, ?_⟩
        rw [upd_same, Cal.wrkN_succ, if_pos c, List.map_append]
        show some (HO.lst (_ ++ [V.int (0 + (i : Int))])) = _
        rw [Int.zero_add]
        rfl
      · refine ⟨s13.trans s14, ?_⟩
        rw [Cal.wrkN_succ, if_neg c, List.append_nil]
        exact s14 _ _ e13
    rintro H13 ⟨s13, e13⟩
    rw [Int.toNat_natCast] at e13
    have B13 := (B12.same s13)
    have eq13 := s13 _ _ e12
    have pl13 := pln.same s13
    refine ⟨by show 0 ≤ sizeLine; decide, fun e he => ?_⟩
    have se := same_upd (o := .lst ([] : List V)) he
    have ew : (C.wrkN C.per).map natV = ((C.wrkN C.per).map fun n : Nat => (n : Int)).map V.int := natsI _
    refine ⟨D3, e, _, [], rfl, rfl, .inl ⟨SqL.of (by rw [← ew]; exact se _ _ e13), SqL.of upd_same⟩, _, rfl, ?_⟩
    have eqe := se _ _ eq13
    have Be := B13.same se
    have pke := (Be.at_ 6 : Kx p H _)
    have ple := pl13.same se
    generalize upd H13 e (.lst ([] : List V)) = He at se eqe Be pke ple ⊢
    refine ite2 (fun c => ?_) (fun c => ?_)
    · refine ⟨by show 0 ≤ sizeLine; decide, fun a1 h1 => ?_⟩
      have t1 := same_upd (o := .lst ([] : List V)) h1
      have x1 : upd He a1 (.lst ([] : List V)) a1 = some (.lst ([] : List V)) := upd_same
      generalize upd He a1 (.lst ([] : List V)) = Hf2 at t1 x1 ⊢
      have eqf := t1 _ _ eqe
      have dp1 := DPut.k (k := .inr "rest") (v := .ref a1) eqf (by show 6 < sizeLine; decide)
      rw [show putK (plE D Ll qs fr C) (.inr "rest") (.ref a1) = plE D Ll a1 fr C from rfl] at dp1
      refine ⟨_, rfl, q, _, rfl, dp1, ?_⟩
      have pkf : Kx p H (upd Hf2 q (.dK (plE D Ll a1 fr C))) := kx_new (pke.trans (kx_same t1)) nqH
      have Bf2 := Be.same t1
      have pnf : PenAt (upd Hf2 q (.dK (plE D Ll a1 fr C))) p l (n + 50) := Bf2.pen.set qpl.1 qpl.2
      have eqg : upd Hf2 q (.dK (plE D Ll a1 fr C)) q = some (.dK (plE D Ll a1 fr C)) := upd_same
      have kq : Kx q Hf2 (upd Hf2 q (.dK (plE D Ll a1 fr C))) := fun b u e nb => by rw [upd_ne nb]; exact e
      generalize upd Hf2 q (.dK (plE D Ll a1 fr C)) = Hg at pkf pnf eqg kq ⊢
      refine ⟨by show 0 ≤ sizeLine; decide, fun a2 h2 => ?_⟩
      have t2 := same_upd (o := .lst ([] : List V)) h2
      have x2 : upd Hg a2 (.lst ([] : List V)) a2 = some (.lst ([] : List V)) := upd_same
      generalize upd Hg a2 (.lst ([] : List V)) = Hh2 at t2 x2 ⊢
      have eqh := t2 _ _ eqg
      have dp2 := DPut.k (k := .inr "holidays") (v := .ref a2) eqh (by show 6 < sizeLine; decide)
      rw [show putK (plE D Ll a1 fr C) (.inr "holidays") (.ref a2) = plE D Ll a1 a2 C from rfl] at dp2
      refine ⟨_, rfl, q, _, rfl, dp2, _, rfl, ?_⟩
      have kz : Kx q Hf2 (upd Hh2 q (.dK (plE D Ll a1 a2 C))) := fun b u e nb => by rw [upd_ne nb]; exact t2 _ _ (kq _ _ e nb)
      have a2q : a2 ≠ q := fun z => by
        rw [z, eqh] at x2
        cases x2
      have eqz : upd Hh2 q (.dK (plE D Ll a1 a2 C)) q = some (.dK (plE D Ll a1 a2 C)) := upd_same
      have L : ∀ {a : Addr} {xs : List V}, Hf2 a = some (.lst xs) → upd Hh2 q (.dK (plE D Ll a1 a2 C)) a = some (.lst xs) := fun h => kz _ _ h (ne_dict eqf h (by intro z; cases z))
      have okz := ok [] [] (by simp) (by simp) (by simp) (by simp) (by simp) (by simp)
      refine k q ⟨rows, size, bg.toNat, [], []⟩ _ (((pnf.same t2).set qpl.1 qpl.2).mono (by omega)) (kx_new (pkf.trans (kx_same t2)) nqH) qpl.1 ⟨D, Ll, a1, a2, ⟨plE D Ll a1 a2 ⟨rows, size, bg.toNat, [], []⟩, by rw [eqz, hC]; rfl, PlW.of⟩, ⟨⟨ts, L (Bf2.at_ 4), (Bf2.at_ 5 : RowsL Hf2 ts rows).kx eqf kz⟩, L (Bf2.at_ 3), L x1, ⟨[], by rw [upd_ne a2q]; exact x2, .nil⟩⟩, okz⟩ (fun z => ?_) ⟨per, by show rows.length ≤ 2; omega, by show size ≤ 6; omega, sl⟩
      have : (0 : Nat) ∈ Cal.wrkN ⟨rows, size, bg.toNat, [], []⟩ (Cal.per ⟨rows, size, bg.toNat, [], []⟩) := Cal.mem_wrkN.mpr ⟨okz.p0, by unfold Cal.isW; simp⟩
      rw [z] at this
      cases this
    · have c1 : C.wrkN C.per ≠ [] := fun z => c (by rw [z]; rfl)
      refine ⟨_, rfl, ?_⟩
      exact k q C He (Be.pen.mono (by omega)) pke qpl.1 ple c1 ⟨by rw [hC]; exact per, by rw [hC]; show rows.length ≤ 2; omega, by rw [hC]; show size ≤ 6; omega, by rw [hC]; exact sl⟩
  )]); intro f; simpa using My.gz f 5 true
theorem c__law_calendar {X : Cx} {k : Nat} {t : TA} {e : Expr} {es : List Expr} {np pos : Pos} (T : Tx K mg) (hr : Room k X.A) (ha : PA X (e :: es) t) (hk : 5 ≤ k := by decide) (hK : X.K = K := by rfl) (hm : X.mg = mg := by rfl)
    (hg : Gl X "_law_calendar" := by rfl) (hse : starEach (e :: es) X.env = (false, eval e X.env) :: starEach es X.env := by rfl) (hpl : (backTo pos (starEach es X.env)).any (·.1) = false := by rfl) :
    PE X (.Call (.Name "_law_calendar" np) (e :: es) [] pos) (tFn sp_lcal E0 t) := by
  subst hK
  subst hm
  exact pe_fR (ok__law_calendar T) T.kp__law_calendar T.g__law_calendar (hr.mono hk) pass0 ha hg (by decide) hse hpl
end
end Lw
namespace Lw
open PySem PySem.Spec PyProof.Rows L2 My
section
variable {P : Program} {w : World} {K : Fg} {mg : Str → Option Value} {base : Heap}
def Pn.up : (n : Nat) → Pn n → Pn (n + 1)
  | 0, l => .inl l
  | _ + 1, .inl l => .inl l
  | n + 1, .inr ts => .inr (ts.map fun t => t.map fun f => (f.1, Pn.up n f.2))
def Cd.up {n : Nat} (c : Cd n) : Cd (n + 1) := c.map fun t => t.map fun f => (f.1, Pn.up n f.2)
theorem Pn.up_words : ∀ (n : Nat) (p : Pn n), Pn.words (n + 1) (Pn.up n p) = Pn.words n p
  | 0, _ => rfl
  | _ + 1, .inl _ => rfl
  | n + 1, .inr ts => by
    apply My.two; (focus intro zzI; simp only [↓ My.mkB zzI (by
    clear zzI
    have ih := Pn.up_words n
    show ("(" : Str) :: (sepW "or" ((ts.map fun t => t.map fun f => (f.1, Pn.up n f.2)).map fun t => sepW "and" (t.map fun f => List.replicate f.1 ("not" : Str) ++ Pn.words (n + 1) f.2)) ++ [(")" : Str)]) = ("(" : Str) :: (sepW "or" (ts.map fun t => sepW "and" (t.map fun f => List.replicate f.1 ("not" : Str) ++ Pn.words n f.2)) ++ [(")" : Str)])
    rw [List.map_map]
    have e : ((fun t : List (Nat × Pn (n + 1)) => sepW "and" (t.map fun f => List.replicate f.1 ("not" : Str) ++ Pn.words (n + 1) f.2)) ∘ fun t : List (Nat × Pn n) => t.map fun f => (f.1, Pn.up n f.2)) = fun t => sepW "and" (t.map fun f => List.replicate f.1 ("not" : Str) ++ Pn.words n f.2) := by
      funext t
      show sepW "and" ((t.map fun f => (f.1, Pn.up n f.2)).map fun f => List.replicate f.1 ("not" : Str) ++ Pn.words (n + 1) f.2) = _
      rw [List.map_map]
      congr 1
      refine List.map_congr_left fun f _ => ?_
      show List.replicate f.1 ("not" : Str) ++ Pn.words (n + 1) (Pn.up n f.2) = _
      rw [ih]
    rw [e]
    )]); intro f; simpa using My.gz f 5 true
theorem Cd.up_words {n : Nat} (c : Cd n) : Cd.words (Cd.up c) = Cd.words c := by
  apply My.two; (focus intro zzI; simp only [↓ My.mkB zzI (by
  clear zzI
  have h := Pn.up_words (n + 1) (.inr c)
  have h2 : ("(" : Str) :: (Cd.words (Cd.up c) ++ [(")" : Str)]) = ("(" : Str) :: (Cd.words c ++ [(")" : Str)]) := h
  exact List.append_cancel_right (List.cons.inj h2).2
  )]); intro f; simpa using My.gz f 5 true
theorem Pn.up_holds {C : Cal} (d : Int) : ∀ (n : Nat) (p : Pn n), Pn.holds C (n + 1) (Pn.up n p) d = Pn.holds C n p d
  | 0, _ => rfl
  | _ + 1, .inl _ => rfl
  | n + 1, .inr ts => by
    apply My.two; (focus intro zzI; simp only [↓ My.mkB zzI (by
    clear zzI
    have ih := Pn.up_holds (C := C) d n
    show ((ts.map fun t => t.map fun f => (f.1, Pn.up n f.2)).any fun t => t.all fun f => (f.1 % 2 == 1) ^^ Pn.holds C (n + 1) f.2 d) = (ts.any fun t => t.all fun f => (f.1 % 2 == 1) ^^ Pn.holds C n f.2 d)
    rw [List.any_map]
    congr 1
    funext t
    show ((t.map fun f => (f.1, Pn.up n f.2)).all fun f => (f.1 % 2 == 1) ^^ Pn.holds C (n + 1) f.2 d) = _
    rw [List.all_map]
    congr 1
    funext f
    show ((f.1 % 2 == 1) ^^ Pn.holds C (n + 1) (Pn.up n f.2) d) = _
    rw [ih]
    )]); intro f; simpa using My.gz f 5 true
theorem Cd.up_holds {C : Cal} {n : Nat} (c : Cd n) : Cd.holds C (Cd.up c) = Cd.holds C c := funext fun d => Pn.up_holds d (n + 1) (.inr c)
theorem Pn.up_ok {C : Cal} : ∀ (n : Nat) (p : Pn n), Pn.ok C n p → Pn.ok C (n + 1) (Pn.up n p)
  | 0, _, h => h
  | _ + 1, .inl _, h => h
  | n + 1, .inr ts, h => by
    apply My.two; (focus intro zzI; simp only [↓ My.mkB zzI (by
    clear zzI
    obtain ⟨⟨h1, h2⟩, h3⟩ := h
    refine ⟨⟨fun z => h1 (List.map_eq_nil_iff.mp z), by rw [List.length_map]; exact h2⟩, fun t ht => ?_⟩
    obtain ⟨u, hu, rfl⟩ := List.mem_map.mp ht
    obtain ⟨⟨g1, g2⟩, g3⟩ := h3 u hu
    refine ⟨⟨fun z => g1 (List.map_eq_nil_iff.mp z), by rw [List.length_map]; exact g2⟩, fun f hf => ?_⟩
    obtain ⟨g, hg, rfl⟩ := List.mem_map.mp hf
    exact Pn.up_ok n g.2 (g3 g hg)
    )]); intro f; simpa using My.gz f 5 true
theorem Cd.up_ok {C : Cal} {n : Nat} {c : Cd n} (h : c.ok C) : (Cd.up c).ok C := Pn.up_ok (n + 1) (.inr c) h
def Tr : Nat → Type
  | 0 => Lf
  | n + 1 => Lf ⊕ (Bool × Tr n) ⊕ (Bool × List (Tr n))
def Tr.hold (C : Cal) : (n : Nat) → Tr n → Int → Bool
  | 0, l, d => Lf.holds C l d
  | _ + 1, .inl l, d => Lf.holds C l d
  | n + 1, .inr (.inl (b, t)), d => Tr.hold C n t d == b
  | n + 1, .inr (.inr (b, ts)), d => if b = true then ts.all fun t => Tr.hold C n t d else ts.any fun t => Tr.hold C n t d
def Tr.ok (C : Cal) : (n : Nat) → Tr n → Prop
  | 0, l => Lf.ok C l
  | _ + 1, .inl l => Lf.ok C l
  | n + 1, .inr (.inl (_, t)) => Tr.ok C n t
  | n + 1, .inr (.inr (_, ts)) => (ts ≠ [] ∧ ts.length ≤ 3) ∧ ∀ t ∈ ts, Tr.ok C n t
def kinW (b : Bool) : Str := if b = true then "and" else "or"
/-- the words of a row, at a layer -/
def rowW {α : Type} (b : Bool) (y : Nat) (g : α → Nat → List Str) : List α → List Str
  | [t] => g t y
  | ts => if (if b = true then 1 else 0) < y then parW (sepW (kinW b) (ts.map fun t => g t (if b = true then 2 else 1))) else sepW (kinW b) (ts.map fun t => g t (if b = true then 2 else 1))
def Tr.wrd : (n : Nat) → Tr n → Nat → List Str
  | 0, l, _ => Lf.words l
  | _ + 1, .inl l, _ => Lf.words l
  | n + 1, .inr (.inl (b, t)), _ => if b = true then parW (Tr.wrd n t 0) else "not" :: Tr.wrd n t 2
  | n + 1, .inr (.inr (b, ts)), y => rowW b y (Tr.wrd n) ts
abbrev Fc (n : Nat) : Type := Nat × Pn n
def Fc.up {n : Nat} (f : Fc n) : Fc (n + 1) := (f.1, Pn.up n f.2)
structure Cv (n : Nat) where
  c : Cd n
  t : List (Fc n)
  f : Fc n
def Cv.up {n : Nat} (x : Cv n) : Cv (n + 1) := ⟨Cd.up x.c, x.t.map Fc.up, Fc.up x.f⟩
def Cv.one {n : Nat} (f : Fc n) : Cv n := ⟨[[f]], [f], f⟩
def rowC {α : Type} {n : Nat} (b : Bool) (g : α → Cv n) : List α → Cv (n + 1)
  | [t] => (g t).up
  | ts => if b = true then ⟨[ts.map fun t => (g t).f.up], ts.map fun t => (g t).f.up, (0, .inr [ts.map fun t => (g t).f])⟩
    else ⟨ts.map fun t => (g t).t.map Fc.up, [(0, .inr (ts.map fun t => (g t).t))], (0, .inr (ts.map fun t => (g t).t))⟩
def Tr.cv : (n : Nat) → Tr n → Cv n
  | 0, l => .one (0, l)
  | _ + 1, .inl l => .one (0, .inl l)
  | n + 1, .inr (.inl (b, t)) => if b = true then .one (0, .inr (Tr.cv n t).c) else .one ((Tr.cv n t).f.1 + 1, Pn.up n (Tr.cv n t).f.2)
  | n + 1, .inr (.inr (b, ts)) => rowC b (Tr.cv n) ts
theorem row_cases {α : Type} (ts : List α) : (∃ t, ts = [t]) ∨ ∀ t, ts ≠ [t] := by
  apply My.two; (focus intro zzI; simp only [↓ My.mkB zzI (by
  clear zzI
  match ts with
  | [] => exact .inr fun t z => by cases z
  | [t] => exact .inl ⟨t, rfl⟩
  | _ :: _ :: _ => exact .inr fun t z => by cases z
  )]); intro f; simpa using My.gz f 5 true
theorem rowW_many {α : Type} {b : Bool} {y : Nat} {g : α → Nat → List Str} {ts : List α} (h : ∀ t, ts ≠ [t]) : rowW b y g ts = if (if b = true then 1 else 0) < y then parW (sepW (kinW b) (ts.map fun t => g t (if b = true then 2 else 1))) else sepW (kinW b) (ts.map fun t => g t (if b = true then 2 else 1)) := by
  apply My.two; (focus intro zzI; simp only [↓ My.mkB zzI (by
  clear zzI
  match ts, h with
  | [], _ => rfl
  | [t], h => exact absurd rfl (h t)
  | _ :: _ :: _, _ => rfl
  )]); intro f; simpa using My.gz f 5 true
theorem rowC_many {α : Type} {n : Nat} {b : Bool} {g : α → Cv n} {ts : List α} (h : ∀ t, ts ≠ [t]) : rowC b g ts = if b = true then ⟨[ts.map fun t => (g t).f.up], ts.map fun t => (g t).f.up, (0, .inr [ts.map fun t => (g t).f])⟩
    else ⟨ts.map fun t => (g t).t.map Fc.up, [(0, .inr (ts.map fun t => (g t).t))], (0, .inr (ts.map fun t => (g t).t))⟩ := by
  apply My.two; (focus intro zzI; simp only [↓ My.mkB zzI (by
  clear zzI
  match ts, h with
  | [], _ => rfl
  | [t], h => exact absurd rfl (h t)
  | _ :: _ :: _, _ => rfl
  )]); intro f; simpa using My.gz f 5 true
theorem sepW_one {s : Str} {x : List Str} : sepW s [x] = x := List.append_nil x
structure Cv.Wd {n : Nat} (x : Cv n) (g : Nat → List Str) : Prop where
  c : Cd.words x.c = g 0
  t : trmW x.t = g 1
  f : facW x.f = g 2
theorem Fc.up_words {n : Nat} (f : Fc n) : facW f.up = facW f := by
  apply My.two; (focus intro zzI; simp only [↓ My.mkB zzI (by
  clear zzI
  show List.replicate f.1 ("not" : Str) ++ Pn.words (n + 1) (Pn.up n f.2) = _
  rw [Pn.up_words]
  rfl
  )]); intro f; simpa using My.gz f 5 true
theorem trm_up {n : Nat} (t : List (Fc n)) : trmW (t.map Fc.up) = trmW t := by
  apply My.two; (focus intro zzI; simp only [↓ My.mkB zzI (by
  clear zzI
  unfold trmW
  rw [List.map_map]
  congr 1
  exact List.map_congr_left fun f _ => Fc.up_words f
  )]); intro f; simpa using My.gz f 5 true
theorem Cv.Wd.up {n : Nat} {x : Cv n} {g : Nat → List Str} (h : x.Wd g) : x.up.Wd g := ⟨(Cd.up_words x.c).trans h.c, (trm_up x.t).trans h.t, (Fc.up_words x.f).trans h.f⟩
theorem Cv.Wd.one {n : Nat} {f : Fc n} {ws : List Str} (h : facW f = ws) : (Cv.one f).Wd fun _ => ws := by
  apply My.two; (focus intro zzI; simp only [↓ My.mkB zzI (by
  clear zzI
  have h1 : trmW [f] = ws := by
    unfold trmW
    rw [List.map_singleton, sepW_one, h]
  refine ⟨?_, h1, h⟩
  show sepW "or" ([[f]].map trmW) = ws
  rw [List.map_singleton, sepW_one, h1]
  )]); intro f; simpa using My.gz f 5 true
theorem Tr.words : ∀ (n : Nat) (t : Tr n), (Tr.cv n t).Wd (Tr.wrd n t)
  | 0, l => Cv.Wd.one (n := 0) (f := (0, l)) rfl
  | n + 1, .inl l => Cv.Wd.one (n := n + 1) (f := (0, .inl l)) rfl
  | n + 1, .inr (.inl (b, t)) => by
    apply My.two; (focus intro zzI; simp only [↓ My.mkB zzI (by
    clear zzI
    have ih := Tr.words n t
    cases b
    · refine Cv.Wd.one (n := n + 1) (f := ((Tr.cv n t).f.1 + 1, Pn.up n (Tr.cv n t).f.2)) ?_
      show List.replicate ((Tr.cv n t).f.1 + 1) ("not" : Str) ++ Pn.words (n + 1) (Pn.up n (Tr.cv n t).f.2) = ("not" : Str) :: Tr.wrd n t 2
      rw [Pn.up_words, ← ih.f]
      rfl
    · refine Cv.Wd.one (n := n + 1) (f := (0, .inr (Tr.cv n t).c)) ?_
      show ("(" : Str) :: (Cd.words (Tr.cv n t).c ++ [(")" : Str)]) = parW (Tr.wrd n t 0)
      rw [ih.c]
      rfl
    )]); intro f; simpa using My.gz f 5 true
  | n + 1, .inr (.inr (b, ts)) => by
    apply My.two; (focus intro zzI; simp only [↓ My.mkB zzI (by
    clear zzI
    rcases row_cases ts with ⟨t, rfl⟩ | h
    · exact (Tr.words n t).up
    · have ih := Tr.words n
      show (rowC b (Tr.cv n) ts).Wd fun y => rowW b y (Tr.wrd n) ts
      rw [rowC_many h, show (fun y => rowW b y (Tr.wrd n) ts) = fun y => _ from funext fun y => rowW_many h]
      cases b
      · have e1 : (ts.map fun t => trmW ((Tr.cv n t).t.map Fc.up)) = ts.map fun t => Tr.wrd n t 1 := List.map_congr_left fun t _ => (trm_up _).trans (ih t).t
        have e2 : (ts.map fun t => trmW (Tr.cv n t).t) = ts.map fun t => Tr.wrd n t 1 := List.map_congr_left fun t _ => (ih t).t
        have e3 : facW ((0, .inr (ts.map fun t => (Tr.cv n t).t)) : Fc (n + 1)) = parW (sepW (kinW false) (ts.map fun t => Tr.wrd n t 1)) := by
          show ("(" : Str) :: (sepW "or" ((ts.map fun t => (Tr.cv n t).t).map trmW) ++ [(")" : Str)]) = _
          rw [List.map_map, show (trmW ∘ fun t => (Tr.cv n t).t) = fun t => trmW (Tr.cv n t).t from rfl, e2]
          rfl
        refine ⟨?_, ?_, e3⟩
        · show sepW "or" ((ts.map fun t => (Tr.cv n t).t.map Fc.up).map trmW) = _
          rw [List.map_map, show (trmW ∘ fun t => (Tr.cv n t).t.map Fc.up) = fun t => trmW ((Tr.cv n t).t.map Fc.up) from rfl, e1]
          rfl
        · show sepW "and" [facW _] = _
          rw [sepW_one]
          exact e3
      · have e1 : (ts.map fun t => facW (Fc.up (Tr.cv n t).f)) = ts.map fun t => Tr.wrd n t 2 := List.map_congr_left fun t _ => (Fc.up_words _).trans (ih t).f
        have e2 : (ts.map fun t => facW (Tr.cv n t).f) = ts.map fun t => Tr.wrd n t 2 := List.map_congr_left fun t _ => (ih t).f
        have e3 : trmW (ts.map fun t => Fc.up (Tr.cv n t).f) = sepW (kinW true) (ts.map fun t => Tr.wrd n t 2) := by
          unfold trmW
          rw [List.map_map, show (facW ∘ fun t => Fc.up (Tr.cv n t).f) = fun t => facW (Fc.up (Tr.cv n t).f) from rfl, e1]
          rfl
        refine ⟨?_, e3, ?_⟩
        · show sepW "or" [trmW _] = _
          rw [sepW_one]
          exact e3
        · show ("(" : Str) :: (sepW "or" [sepW "and" ((ts.map fun t => (Tr.cv n t).f).map facW)] ++ [(")" : Str)]) = _
          rw [sepW_one, List.map_map, show (facW ∘ fun t => (Tr.cv n t).f) = fun t => facW (Tr.cv n t).f from rfl, e2]
          rfl
    )]); intro f; simpa using My.gz f 5 true
structure Cv.Hd (C : Cal) {n : Nat} (x : Cv n) (d : Int) (h : Bool) : Prop where
  c : Cd.holds C x.c d = h
  t : (x.t.all fun f => (f.1 % 2 == 1) ^^ Pn.holds C n f.2 d) = h
  f : ((x.f.1 % 2 == 1) ^^ Pn.holds C n x.f.2 d) = h
theorem Fc.up_holds {C : Cal} {n : Nat} (f : Fc n) (d : Int) : ((f.up.1 % 2 == 1) ^^ Pn.holds C (n + 1) f.up.2 d) = ((f.1 % 2 == 1) ^^ Pn.holds C n f.2 d) := by
  show ((f.1 % 2 == 1) ^^ Pn.holds C (n + 1) (Pn.up n f.2) d) = _
  rw [Pn.up_holds]
theorem trm_upH {C : Cal} {n : Nat} (t : List (Fc n)) (d : Int) : ((t.map Fc.up).all fun f => (f.1 % 2 == 1) ^^ Pn.holds C (n + 1) f.2 d) = t.all fun f => (f.1 % 2 == 1) ^^ Pn.holds C n f.2 d := by
  apply My.two; (focus intro zzI; simp only [↓ My.mkB zzI (by
  clear zzI
  rw [List.all_map]
  congr 1
  funext f
  exact Fc.up_holds f d
  )]); intro f; simpa using My.gz f 5 true
theorem Cv.Hd.up {C : Cal} {n : Nat} {x : Cv n} {d : Int} {h : Bool} (q : x.Hd C d h) : x.up.Hd C d h := ⟨(congrFun (Cd.up_holds x.c) d).trans q.c, (trm_upH x.t d).trans q.t, (Fc.up_holds x.f d).trans q.f⟩
theorem Cv.Hd.one {C : Cal} {n : Nat} {f : Fc n} {d : Int} {h : Bool} (q : ((f.1 % 2 == 1) ^^ Pn.holds C n f.2 d) = h) : (Cv.one f).Hd C d h := by
  apply My.two; (focus intro zzI; simp only [↓ My.mkB zzI (by
  clear zzI
  have h1 : ([f].all fun f => (f.1 % 2 == 1) ^^ Pn.holds C n f.2 d) = h := by
    rw [List.all_cons, List.all_nil, Bool.and_true, q]
  refine ⟨?_, h1, q⟩
  show ([[f]].any fun t => t.all fun f => (f.1 % 2 == 1) ^^ Pn.holds C n f.2 d) = h
  rw [List.any_cons, List.any_nil, Bool.or_false, h1]
  )]); intro f; simpa using My.gz f 5 true
theorem Tr.holds {C : Cal} (d : Int) : ∀ (n : Nat) (t : Tr n), (Tr.cv n t).Hd C d (Tr.hold C n t d)
  | 0, l => Cv.Hd.one (n := 0) (f := (0, l)) (Bool.false_xor _)
  | n + 1, .inl l => Cv.Hd.one (n := n + 1) (f := (0, .inl l)) (Bool.false_xor _)
  | n + 1, .inr (.inl (b, t)) => by
    apply My.two; (focus intro zzI; simp only [↓ My.mkB zzI (by
    clear zzI
    have ih := Tr.holds (C := C) d n t
    cases b
    · refine Cv.Hd.one (n := n + 1) (f := ((Tr.cv n t).f.1 + 1, Pn.up n (Tr.cv n t).f.2)) ?_
      show ((((Tr.cv n t).f.1 + 1) % 2 == 1) ^^ Pn.holds C (n + 1) (Pn.up n (Tr.cv n t).f.2) d) = (Tr.hold C n t d == false)
      rw [Pn.up_holds, ← ih.f]
      have e : (((Tr.cv n t).f.1 + 1) % 2 == 1) = !((Tr.cv n t).f.1 % 2 == 1) := by rw [Bool.eq_iff_iff]; simp; omega
      rw [e]
      cases ((Tr.cv n t).f.1 % 2 == 1) <;> cases Pn.holds C n (Tr.cv n t).f.2 d <;> rfl
    · refine Cv.Hd.one (n := n + 1) (f := (0, .inr (Tr.cv n t).c)) ?_
      show (false ^^ Cd.holds C (Tr.cv n t).c d) = (Tr.hold C n t d == true)
      rw [ih.c]
      cases Tr.hold C n t d <;> rfl
    )]); intro f; simpa using My.gz f 5 true
  | n + 1, .inr (.inr (b, ts)) => by
    apply My.two; (focus intro zzI; simp only [↓ My.mkB zzI (by
    clear zzI
    rcases row_cases ts with ⟨t, rfl⟩ | h
    · have e : Tr.hold C (n + 1) (.inr (.inr (b, [t]))) d = Tr.hold C n t d := by
        cases b
        · show ([t].any fun t => Tr.hold C n t d) = _
          rw [List.any_cons, List.any_nil, Bool.or_false]
        · show ([t].all fun t => Tr.hold C n t d) = _
          rw [List.all_cons, List.all_nil, Bool.and_true]
      rw [e]
      exact (Tr.holds d n t).up
    · have ih := Tr.holds (C := C) d n
      show (rowC b (Tr.cv n) ts).Hd C d (if b = true then ts.all fun t => Tr.hold C n t d else ts.any fun t => Tr.hold C n t d)
      rw [rowC_many h]
      cases b
      · have e2 : ((ts.map fun t => (Tr.cv n t).t).any fun t => t.all fun f => (f.1 % 2 == 1) ^^ Pn.holds C n f.2 d) = ts.any fun t => Tr.hold C n t d := by
          rw [List.any_map]
          congr 1
          funext t
          exact (ih t).t
        have e3 : ((0 % 2 == 1) ^^ Pn.holds C (n + 1) (.inr (ts.map fun t => (Tr.cv n t).t)) d) = ts.any fun t => Tr.hold C n t d := (Bool.false_xor _).trans e2
        refine ⟨?_, ?_, e3⟩
        · show ((ts.map fun t => (Tr.cv n t).t.map Fc.up).any fun t => t.all fun f => (f.1 % 2 == 1) ^^ Pn.holds C (n + 1) f.2 d) = ts.any fun t => Tr.hold C n t d
          rw [List.any_map]
          congr 1
          funext t
          exact (trm_upH _ d).trans (ih t).t
        · show (([(0, .inr (ts.map fun t => (Tr.cv n t).t))] : List (Fc (n + 1))).all fun f => (f.1 % 2 == 1) ^^ Pn.holds C (n + 1) f.2 d) = ts.any fun t => Tr.hold C n t d
          rw [List.all_cons, List.all_nil, Bool.and_true]
          exact e3
      · have e1 : ((ts.map fun t => Fc.up (Tr.cv n t).f).all fun f => (f.1 % 2 == 1) ^^ Pn.holds C (n + 1) f.2 d) = ts.all fun t => Tr.hold C n t d := by
          rw [List.all_map]
          congr 1
          funext t
          exact (Fc.up_holds _ d).trans (ih t).f
        have e2 : ((ts.map fun t => (Tr.cv n t).f).all fun f => (f.1 % 2 == 1) ^^ Pn.holds C n f.2 d) = ts.all fun t => Tr.hold C n t d := by
          rw [List.all_map]
          congr 1
          funext t
          exact (ih t).f
        refine ⟨?_, e1, ?_⟩
        · show ([ts.map fun t => Fc.up (Tr.cv n t).f].any fun t => t.all fun f => (f.1 % 2 == 1) ^^ Pn.holds C (n + 1) f.2 d) = _
          rw [List.any_cons, List.any_nil, Bool.or_false]
          exact e1
        · show (false ^^ ([ts.map fun t => (Tr.cv n t).f].any fun t => t.all fun f => (f.1 % 2 == 1) ^^ Pn.holds C n f.2 d)) = _
          rw [Bool.false_xor, List.any_cons, List.any_nil, Bool.or_false]
          exact e2
    )]); intro f; simpa using My.gz f 5 true
structure Cv.Ok (C : Cal) {n : Nat} (x : Cv n) : Prop where
  c : Cd.ok C x.c
  t : (x.t ≠ [] ∧ x.t.length ≤ 100) ∧ ∀ f ∈ x.t, Pn.ok C n f.2
  f : Pn.ok C n x.f.2
theorem trm_upO {C : Cal} {n : Nat} {t : List (Fc n)} (h : (t ≠ [] ∧ t.length ≤ 100) ∧ ∀ f ∈ t, Pn.ok C n f.2) : (t.map Fc.up ≠ [] ∧ (t.map Fc.up).length ≤ 100) ∧ ∀ f ∈ t.map Fc.up, Pn.ok C (n + 1) f.2 := by
  apply My.two; (focus intro zzI; simp only [↓ My.mkB zzI (by
  clear zzI
  refine ⟨⟨fun z => h.1.1 (List.map_eq_nil_iff.mp z), by rw [List.length_map]; exact h.1.2⟩, fun f hf => ?_⟩
  obtain ⟨g, hg, rfl⟩ := List.mem_map.mp hf
  exact Pn.up_ok n g.2 (h.2 g hg)
  )]); intro f; simpa using My.gz f 5 true
theorem Cv.Ok.up {C : Cal} {n : Nat} {x : Cv n} (q : x.Ok C) : x.up.Ok C := ⟨Cd.up_ok q.c, trm_upO q.t, Pn.up_ok n x.f.2 q.f⟩
theorem Cv.Ok.one {C : Cal} {n : Nat} {f : Fc n} (q : Pn.ok C n f.2) : (Cv.one f).Ok C := by
  have h1 : ([f] ≠ [] ∧ [f].length ≤ 100) ∧ ∀ g ∈ [f], Pn.ok C n g.2 := ⟨⟨(fun z => by cases z), by show 1 ≤ 100; decide⟩, fun g hg => by rw [List.mem_singleton.mp hg]; exact q⟩
  exact ⟨⟨⟨(fun z => by cases z), by show 1 ≤ 100; decide⟩, fun t ht => by rw [List.mem_singleton.mp ht]; exact h1⟩, h1, q⟩
theorem Tr.oks {C : Cal} : ∀ (n : Nat) (t : Tr n), Tr.ok C n t → (Tr.cv n t).Ok C
  | 0, l, h => Cv.Ok.one (n := 0) (f := (0, l)) h
  | n + 1, .inl l, h => Cv.Ok.one (n := n + 1) (f := (0, .inl l)) h
  | n + 1, .inr (.inl (b, t)), h => by
    apply My.two; (focus intro zzI; simp only [↓ My.mkB zzI (by
    clear zzI
    have ih := Tr.oks n t h
    cases b
    · exact Cv.Ok.one (n := n + 1) (f := ((Tr.cv n t).f.1 + 1, Pn.up n (Tr.cv n t).f.2)) (Pn.up_ok n _ ih.f)
    · exact Cv.Ok.one (n := n + 1) (f := (0, .inr (Tr.cv n t).c)) ih.c
    )]); intro f; simpa using My.gz f 5 true
  | n + 1, .inr (.inr (b, ts)), ⟨⟨h1, h2⟩, h3⟩ => by
    apply My.two; (focus intro zzI; simp only [↓ My.mkB zzI (by
    clear zzI
    rcases row_cases ts with ⟨t, rfl⟩ | h
    · exact (Tr.oks n t (h3 t (List.mem_cons_self ..))).up
    · have ih := fun t ht => Tr.oks n t (h3 t ht)
      show (rowC b (Tr.cv n) ts).Ok C
      rw [rowC_many h]
      have ne : ∀ {β : Type} (g : Tr n → β), ts.map g ≠ [] ∧ (ts.map g).length ≤ 100 := fun g => ⟨fun z => h1 (List.map_eq_nil_iff.mp z), by rw [List.length_map]; omega⟩
      cases b
      · have o2 : Cd.ok C (ts.map fun t => (Tr.cv n t).t) := ⟨ne _, fun t ht => by
          obtain ⟨s, hs, rfl⟩ := List.mem_map.mp ht
          exact (ih s hs).t⟩
        refine ⟨⟨ne _, fun t ht => ?_⟩, ⟨⟨(fun z => by cases z), by show 1 ≤ 100; decide⟩, fun f hf => ?_⟩, o2⟩
        · obtain ⟨s, hs, rfl⟩ := List.mem_map.mp ht
          exact trm_upO (ih s hs).t
        · rw [List.mem_singleton.mp hf]
          exact o2
      · have o1 : ∀ f ∈ ts.map fun t => Fc.up (Tr.cv n t).f, Pn.ok C (n + 1) f.2 := fun f hf => by
          obtain ⟨s, hs, rfl⟩ := List.mem_map.mp hf
          exact Pn.up_ok n _ (ih s hs).f
        refine ⟨⟨⟨(fun z => by cases z), by show 1 ≤ 100; decide⟩, fun t ht => ?_⟩, ⟨ne _, o1⟩, ⟨⟨(fun z => by cases z), by show 1 ≤ 100; decide⟩, fun t ht => ?_⟩⟩
        · rw [List.mem_singleton.mp ht]
          exact ⟨ne _, o1⟩
        · rw [List.mem_singleton.mp ht]
          refine ⟨ne _, fun f hf => ?_⟩
          obtain ⟨s, hs, rfl⟩ := List.mem_map.mp hf
          exact (ih s hs).f
    )]); intro f; simpa using My.gz f 5 true
def wB : Nat → Nat
  | 0 => 3
  | n + 1 => 3 * wB n + 5
theorem sepW_len {s : Str} {B : Nat} : ∀ {xs : List (List Str)}, (∀ x ∈ xs, x.length ≤ B) → (sepW s xs).length ≤ xs.length * (B + 1)
  | [], _ => Nat.zero_le _
  | x :: xs, h => by
    apply My.two; (focus intro zzI; simp only [↓ My.mkB zzI (by
    clear zzI
    have h1 := h x (List.mem_cons_self ..)
    have h2 : (xs.flatMap fun y => s :: y).length ≤ xs.length * (B + 1) := by
      clear h1
      induction xs with
      | nil => exact Nat.zero_le _
      | cons y ys ih =>
        have hy := h y (by simp)
        have := ih fun z hz => h z (by rcases List.mem_cons.mp hz with rfl | hz <;> simp [*])
        rw [List.flatMap_cons, List.length_append, List.length_cons, List.length_cons, Nat.add_mul]
        omega
    show (x ++ xs.flatMap fun y => s :: y).length ≤ _
    rw [List.length_append, List.length_cons, Nat.add_mul]
    omega
    )]); intro f; simpa using My.gz f 5 true
theorem parW_len (ws : List Str) : (parW ws).length = ws.length + 2 := by
  apply My.two; (focus intro zzI; simp only [↓ My.mkB zzI (by
  clear zzI
  unfold parW
  rw [List.length_cons, List.length_append]
  rfl
  )]); intro f; simpa using My.gz f 5 true
theorem Lf.words_len (l : Lf) : (Lf.words l).length ≤ 3 := by cases l <;> simp [Lf.words]
theorem wB_mono (n : Nat) : 3 ≤ wB n := by
  apply My.two; (focus intro zzI; simp only [↓ My.mkB zzI (by
  clear zzI
  induction n with
  | zero => exact Nat.le_refl 3
  | succ n ih => show 3 ≤ 3 * wB n + 5; omega
  )]); intro f; simpa using My.gz f 5 true
theorem Tr.wrd_len {C : Cal} : ∀ (n : Nat) (t : Tr n) (y : Nat), Tr.ok C n t → (Tr.wrd n t y).length ≤ wB n
  | 0, l, _, _ => Lf.words_len l
  | n + 1, .inl l, _, _ => Nat.le_trans (Lf.words_len l) (wB_mono (n + 1))
  | n + 1, .inr (.inl (b, t)), _, h => by
    apply My.two; (focus intro zzI; simp only [↓ My.mkB zzI (by
    clear zzI
    cases b
    · have := Tr.wrd_len n t 2 h
      show (("not" : Str) :: Tr.wrd n t 2).length ≤ 3 * wB n + 5
      rw [List.length_cons]
      omega
    · have := Tr.wrd_len n t 0 h
      show (parW (Tr.wrd n t 0)).length ≤ 3 * wB n + 5
      rw [parW_len]
      omega
    )]); intro f; simpa using My.gz f 5 true
  | n + 1, .inr (.inr (b, ts)), y, ⟨⟨h1, h2⟩, h3⟩ => by
    apply My.two; (focus intro zzI; simp only [↓ My.mkB zzI (by
    clear zzI
    show (rowW b y (Tr.wrd n) ts).length ≤ 3 * wB n + 5
    rcases row_cases ts with ⟨t, rfl⟩ | h
    · have := Tr.wrd_len n t y (h3 t (List.mem_cons_self ..))
      show (Tr.wrd n t y).length ≤ _
      omega
    · rw [rowW_many h]
      have l1 : (sepW (kinW b) (ts.map fun t => Tr.wrd n t (if b = true then 2 else 1))).length ≤ 3 * (wB n + 1) := by
        refine Nat.le_trans (sepW_len (B := wB n) fun x hx => ?_) ?_
        · obtain ⟨t, ht, rfl⟩ := List.mem_map.mp hx
          exact Tr.wrd_len n t _ (h3 t ht)
        · rw [List.length_map]
          exact Nat.mul_le_mul_right _ h2
      generalize sepW (kinW b) (ts.map fun t => Tr.wrd n t (if b = true then 2 else 1)) = X at l1 ⊢
      by_cases c : (if b = true then 1 else 0) < y
      · rw [if_pos c, parW_len]
        omega
      · rw [if_neg c]
        omega
    )]); intro f; simpa using My.gz f 5 true
def dT : Nat → Nat
  | 0 => 30
  | n + 1 => 3 * dT n + 40
end
end Lw
namespace Lw
open PySem PySem.Spec PyProof.Rows L2 My
section
variable {P : Program} {w : World} {K : Fg} {mg : Str → Option Value} {base : Heap}
theorem ml_mod {ls : List Nat} (n0 : 0 < ls.length) (m : Int) : atI (ls.map natV) (m % ((ls.map natV).length : Int)) = some (.int (ml ls m)) := by
  apply My.two; (focus intro zzI; simp only [↓ My.mkB zzI (by
  clear zzI
  have q0 := Int.emod_nonneg m (show (ls.length : Int) ≠ 0 by omega)
  have q1 := Int.emod_lt_of_pos m (show (0 : Int) < (ls.length : Int) by omega)
  rw [List.length_map]
  refine at_of (j := (m % (ls.length : Int)).toNat) (by omega) ?_
  rw [List.getElem?_map, List.getElem?_eq_getElem (by omega)]
  show some (V.int _) = some (V.int _)
  unfold ml
  rw [List.getD_eq_getElem?_getD, List.getElem?_eq_getElem (by omega)]
  rfl
  )]); intro f; simpa using My.gz f 5 true
def sp_lph : Sp := fun vs H Q _ => ∃ (q u : Addr) (C : Cal) (l : Lf) (d : Int), vs = [.ref q, .ref u, .int d] ∧ PlnAt H q C ∧ H u = some (.lst (Lf.vals l)) ∧ l.ok C ∧ ∀ H' : Hp, Same H H' → Q (.bl (l.holds C d)) H'
theorem ok__law_plain_holds (T : Tx K mg) : FnR P w K mg base CX0 3 (He.ga K "_law_plain_holds") sp_lph := by
  apply My.two; (focus intro zzI; simp only [↓ My.mkB zzI (by
  clear zzI
  refine (T.fnR 89 (st := s__law_plain_holds) (at_ := fun K => He.ga K "_law_plain_holds") rfl sc__law_plain_holds (fun _ _ _ _ _ _ us hl => match us, hl with | [_, _, _], _ => rfl)) (fun vs H Q E h => ?_) (fun cdv A outer s H vs Q E hr h => ?_)
  · obtain ⟨q, u, C, l, d, rfl, _⟩ := h
    rfl
  · obtain ⟨q, u, C, l, d, rfl, pl, hu, okl, k⟩ := h
    refine ⟨_, (pss_cons (ps_asg (c__law_place T hr (pa_cons (pv 0) (pa_cons (pv 2) pa_nil))) (pgt T (n := 2) rfl (pgs_cons (pg_name (i := 3) sc__law_plain_holds.nd rfl (Or.inl rfl)) (pgs_cons (pg_name (i := 4) sc__law_plain_holds.nd rfl (Or.inl rfl)) pgs_nil))))
 (pss_cons (ps_par (i := 5) (j := 6) (by rfl) sc__law_plain_holds.nd rfl rfl (by decide) rfl rfl (pa_cons (pe_ix (ixl T) (pv 1) pe_int (fun _ _ => rfl)) (pa_cons (pe_ix (ixl T) (pe_dget (hu_of hr) (pv 0) pe_str (fun _ _ => rfl)) (pe_op op_mod (pv 3) (pe_callB (len_k T) (by rfl) T.n_len (by decide +kernel) (pa_cons (pe_dget (hu_of hr) (pv 0) pe_str (fun _ _ => rfl)) pa_nil))) (fun _ _ => rfl)) pa_nil)) (by rfl))
 (pss_cons (ps_if (pt_cmpR (inq T) (pv 5) (pe_tup (pa_cons pe_str (pa_cons pe_str pa_nil))) (by rfl))
 (pss_one (ps_ret (pe_cmpR op_eq (pv 5) pe_str (nomark _))))
 pss_nil)
 (pss_cons (ps_if (pt_cmpR (inq T) (pv 5) (pe_tup (pa_cons pe_str (pa_cons pe_str pa_nil))) (by rfl))
 (pss_one (ps_ret (pe_cmpR op_eq (c__law_is_rest T hr (pa_cons (pv 0) (pa_cons (pv 2) pa_nil))) (pe_cmpR op_eq (pv 5) pe_str (nomark _)) (nomark _))))
 pss_nil)
 (pss_cons (ps_if (pt_cmpR op_eq (pv 5) pe_str (nomark _))
 (pss_one (ps_ret (pe_cmpR op_eq (pe_op op_add (pe_op op_mod (pv 3) (pe_callB (len_k T) (by rfl) T.n_len (by decide +kernel) (pa_cons (pe_ix (ixl T) (pe_dget (hu_of hr) (pv 0) pe_str (fun _ _ => rfl)) pe_int (fun _ _ => rfl)) pa_nil))) pe_int) (pe_ix (ixl T) (pv 1) pe_int (fun _ _ => rfl)) (nomark _))))
 pss_nil)
 (pss_cons (ps_if (pt_cmpR op_eq (pv 5) pe_str (nomark _))
 (pss_one (ps_ret (pe_cmpR op_eq (c__law_weekday T hr (pa_cons (pv 0) (pa_cons (pv 2) pa_nil))) (pe_ix (ixl T) (pv 1) pe_int (fun _ _ => rfl)) (nomark _))))
 pss_nil)
 (pss_cons (ps_if (pt_cmpR op_eq (pv 5) pe_str (nomark _))
 (pss_one (ps_ret (pe_or (pe_cmpR op_eq (pe_op op_add (pv 4) pe_int) (pe_ix (ixl T) (pv 1) pe_int (fun _ _ => rfl)) (nomark _)) (pe_one (pe_cmpR op_eq (pe_op op_sub (pv 4) (pv 6)) (pe_ix (ixl T) (pv 1) pe_int (fun _ _ => rfl)) (nomark _))))))
 pss_nil)
 (pss_cons (ps_if (pt_cmpR op_ne (c__law_weekday T hr (pa_cons (pv 0) (pa_cons (pv 2) pa_nil))) (pe_ix (ixl T) (pv 1) pe_int (fun _ _ => rfl)) (nomark _))
 (pss_one (ps_ret pe_bl))
 pss_nil)
 (pss_cons (ps_par (i := 7) (j := 8) (by rfl) sc__law_plain_holds.nd rfl rfl (by decide) rfl rfl (pa_cons (pe_op op_fdiv (pv 4) (pe_dget (hu_of hr) (pv 0) pe_str (fun _ _ => rfl))) (pa_cons (pe_op op_fdiv (pe_op op_sub (pe_op op_sub (pv 6) pe_int) (pv 4)) (pe_dget (hu_of hr) (pv 0) pe_str (fun _ _ => rfl))) pa_nil)) (by rfl))
 (pss_one (ps_ret (pe_cmpR (inq T) (pe_ix (ixl T) (pv 1) pe_int (fun _ _ => rfl)) (pe_tup (pa_cons (pe_op op_add (pv 7) pe_int) (pa_cons (pe_op op_sub (pe_op op_sub pe_int (pv 8)) pe_int) pa_nil))) (by rfl))))))))))))), ?_⟩
    refine ⟨_, rfl, _, rfl, q, C, d, rfl, pl, fun t H1 s1 ht => ?_⟩
    replace pl := pl.same s1
    replace hu := s1 _ _ hu
    have k1 : ∀ (b : Bool) (H' : Hp), Same H1 H' → b = Lf.holds C l d → Q (.bl b) H' := fun b H' s e => e ▸ k H' (s1.trans s)
    clear k s1
    refine ⟨t, _, rfl, SqT.of ht, rfl, ?_⟩
    have ok := pl.ok
    obtain ⟨y, l', r, h, ⟨kvs, e, pw⟩, B, _⟩ := id pl
    obtain ⟨v1, v2, v3, v4, v5, v6⟩ := pw
    obtain ⟨ts, y1, y2⟩ := B.yr
    have n0 := ok.ne
    have mlm := ml_mod (ls := C.ls) n0 (C.num d)
    have hl := B.ls
    have lpos : (0 : Int) < ((C.ls.map natV).length : Int) := by
      rw [List.length_map]
      omega
    have w0 := ok.w0
    have m0 := ok.m0
    have dI : ∀ x y : Int, decide (V.int x = V.int y) = decide (x = y) := fun x y => decide_eq_decide.mpr ⟨V.int.inj, congrArg V.int⟩
    obtain ⟨t0, e0, h0⟩ : ∃ t0, ts[0]? = some t0 ∧ H1 t0 = some (.lst ((C.rows.getD 0 []).map natV)) := by
      have ne := ok.yr.ne
      refine y2.get (i := 0) ?_
      rw [List.getD_eq_getElem?_getD, List.getElem?_eq_getElem ne]
      rfl
    have hm : ((C.rows.getD 0 []).map natV).length = C.mon := List.length_map ..
    have ea : atI (ts.map V.ref) 0 = some (.ref t0) := at_of (j := 0) rfl (by rw [List.getElem?_map, e0]; rfl)
    have dd : C.day d = d - ms C.ls (C.num d) + 1 := rfl
    obtain ⟨d0, d1⟩ := ok.day0 d
    have b1 := ml_le ok.ne ok.top (C.num d)
    generalize d - ms C.ls (C.num d) = D0 at *
    obtain ⟨L0, hL0⟩ : ∃ L0, ml C.ls (C.num d) = L0 := ⟨_, rfl⟩
    rw [hL0] at mlm d1 b1
    have w1 : decide (V.str "work" = V.str "rest") = false := str_no (by decide +kernel)
    have w2 : decide (V.str "rest" = V.str "rest") = true := decide_eq_true rfl
    cases l
    all_goals
      dsimp only [Lf.vals] at hu
      rfl'
      refine ⟨dg_of e v2, ?_⟩
      rfl'
      refine ⟨dg_of e v2, ?_⟩
      rfl'
    · exact k1 _ _ (by fail "a") (decide_eq_true rfl)
    · exact k1 _ _ (by fail "a") (str_no (by decide +kernel))
    · refine ⟨pl.same (by fail "a"), fun H' s' => ?_⟩
      rfl'
      refine k1 _ _ (by fail "a") ?_
      rw [w1]
      show decide (V.bl (!C.isW d) = V.bl false) = C.isW d
      cases C.isW d <;> rfl
    · refine ⟨pl.same (by fail "a"), fun H' s' => ?_⟩
      rfl'
      refine k1 _ _ (by fail "a") ?_
      rw [w2]
      show decide (V.bl (!C.isW d) = V.bl true) = !C.isW d
      cases C.isW d <;> rfl
    · refine ⟨pl.same (by fail "a"), ?_⟩
      rfl'
      exact k1 _ _ (by fail "a") (dI _ _)
    · refine ⟨dg_of (by fail "f") v1, ?_⟩
      rfl'
      rw [hm]
      rfl'
      exact k1 _ _ (by fail "a") (dI _ _)
    · rename_i n _ _ _ _ _ _ _ _ _ _
      obtain ⟨n0', n1⟩ := okl
      have eh : Lf.holds C (.day n) d = decide (C.day d = if 0 < n then n else ml C.ls (C.num d) + 1 + n) := rfl
      rw [hL0, dd] at eh
      refine ite2 (fun c => ?_) (fun c => ?_)
      · have c := V.int.inj (of_decide_eq_true c)
        refine k1 _ _ (by fail "a") ?_
        rw [eh]
        refine (decide_eq_true ?_).symm
        rw [if_pos (by omega)]
        exact c
      · have c : ¬ D0 + 1 = n := fun z => c (decide_eq_true (congrArg V.int z))
        rfl'
        refine k1 _ _ (by fail "a") ?_
        rw [eh]
        refine (dI _ _).trans (decide_eq_decide.mpr ?_)
        split <;> omega
    · rename_i n v _ _ _ _ _ _ _ _ _ _
      obtain ⟨n0', n1, v0, v1'⟩ := okl
      have eh : Lf.holds C (.nth n v) d = (decide (C.wkd d = v) && decide ((if 0 < n then C.day d - 1 else ml C.ls (C.num d) - C.day d) / (C.week : Int) + 1 = (n.natAbs : Int))) := rfl
      rw [hL0, dd, show D0 + 1 - 1 = D0 by omega, show L0 - (D0 + 1) = L0 - 1 - D0 by omega] at eh
      refine ⟨pl.same (by fail "a"), ?_⟩
      rfl'
      rw [dI]
      by_cases c3 : C.wkd d = v
      · rw [decide_eq_true c3] at eh ⊢
        rw [Bool.true_and] at eh
        refine iteF ?_
        have ww := ok.w1
        have cd1 : CDiv D0 (C.week : Int) := ⟨by omega, by omega⟩
        have cd2 : CDiv (L0 - 1 - D0) (C.week : Int) := ⟨by omega, by omega⟩
        rfl'
        refine ⟨dg_of (by fail "f") v3, ?_⟩
        rfl'
        refine ⟨dg_of (by fail "f") v3, ?_⟩
        rfl'
        refine k1 _ _ (by fail "a") ?_
        rw [if_neg Bool.false_ne_true, eh]
        refine (inC (z := n) (zs := [D0 / (C.week : Int) + 1, 0 - (L0 - 1 - D0) / (C.week : Int) - 1])).trans (decide_eq_decide.mpr ?_)
        have q1 : 0 ≤ D0 / (C.week : Int) := Int.ediv_nonneg (by omega) (by omega)
        have q2 : 0 ≤ (L0 - 1 - D0) / (C.week : Int) := Int.ediv_nonneg (by omega) (by omega)
        rw [List.mem_cons, List.mem_singleton]
        by_cases c4 : 0 < n
        · rw [if_pos c4]
          generalize D0 / (C.week : Int) = x1 at *
          generalize (L0 - 1 - D0) / (C.week : Int) = x2 at *
          omega
        · rw [if_neg c4]
          generalize D0 / (C.week : Int) = x1 at *
          generalize (L0 - 1 - D0) / (C.week : Int) = x2 at *
          omega
      · rw [decide_eq_false c3] at eh ⊢
        rw [Bool.false_and] at eh
        refine iteT ?_
        exact k1 _ _ (by fail "a") eh.symm
  )]); intro f; simpa using My.gz f 5 true
theorem c__law_plain_holds {X : Cx} {k : Nat} {t : TA} {e : Expr} {es : List Expr} {np pos : Pos} (T : Tx K mg) (hr : Room k X.A) (ha : PA X (e :: es) t) (hk : 3 ≤ k := by decide) (hK : X.K = K := by rfl) (hm : X.mg = mg := by rfl)
    (hg : Gl X "_law_plain_holds" := by rfl) (hse : starEach (e :: es) X.env = (false, eval e X.env) :: starEach es X.env := by rfl) (hpl : (backTo pos (starEach es X.env)).any (·.1) = false := by rfl) :
    PE X (.Call (.Name "_law_plain_holds" np) (e :: es) [] pos) (tFn sp_lph E0 t) := by
  subst hK
  subst hm
  exact pe_fR (ok__law_plain_holds T) T.kp__law_plain_holds T.g__law_plain_holds (hr.mono hk) pass0 ha hg (by decide) hse hpl
end
end Lw
namespace Lw
open PySem PySem.Spec PyProof.Rows L2 My
section
variable {P : Program} {w : World} {K : Fg} {mg : Str → Option Value} {base : Heap}
def KdL (H H' : Hp) : Prop := ∀ a o, H a = some o → ((∃ xs, o = .tup xs) ∨ ∃ xs, o = .lst xs) → H' a = some o
theorem KdL.of {H H' : Hp} (s : Same H H') : KdL H H' := fun a o e _ => s a o e
theorem KdL.kx {p : Addr} {H H' : Hp} {kvs : List (Key × V)} (hp : H p = some (.dK kvs)) (k : Kx p H H') : KdL H H' := fun a o e z => k a o e fun q => by
  rw [q, hp] at e
  cases e
  rcases z with ⟨xs, z⟩ | ⟨xs, z⟩ <;> cases z
theorem KdL.trans {H H1 H2 : Hp} (a : KdL H H1) (b : KdL H1 H2) : KdL H H2 := fun x o e z => b x o (a x o e z) z
theorem KdL.tup {H H' : Hp} (k : KdL H H') {a : Addr} {xs : List V} (e : H a = some (.tup xs)) : H' a = some (.tup xs) := k _ _ e (.inl ⟨xs, rfl⟩)
theorem KdL.lst {H H' : Hp} (k : KdL H H') {a : Addr} {xs : List V} (e : H a = some (.lst xs)) : H' a = some (.lst xs) := k _ _ e (.inr ⟨xs, rfl⟩)
def newOf (H H' : Hp) : Hp := fun a => match H' a with
  | some (.lst xs) => (match H a with
    | Option.none => some (.lst xs)
    | some _ => Option.none)
  | o => o
theorem newOf_iff {H H' : Hp} {a : Addr} {o : HO} : newOf H H' a = some o ↔ H' a = some o ∧ (H a = Option.none ∨ ¬∃ xs, o = .lst xs) := by
  apply My.two; (focus intro zzI; simp only [↓ My.mkB zzI (by
  clear zzI
  unfold newOf
  cases e : H' a with
  | none => simp
  | some u =>
    cases u
    case lst xs =>
      cases e2 : H a
      · simp
      · simp only [reduceCtorEq, false_or, Option.some.injEq, false_iff, not_and, Classical.not_not]
        rintro rfl
        exact ⟨_, rfl⟩
    all_goals
      simp only [Option.some.injEq, iff_self_and]
      rintro rfl
      right
      rintro ⟨xs, z⟩
      cases z
  )]); intro f; simpa using My.gz f 5 true
theorem newOf_sub {H H' : Hp} : KdL (newOf H H') H' := fun a o e _ => (newOf_iff.mp e).1
theorem newOf_tup {H H' : Hp} {a : Addr} {xs : List V} (e : H' a = some (.tup xs)) : newOf H H' a = some (.tup xs) := newOf_iff.mpr ⟨e, .inr fun ⟨_, z⟩ => by cases z⟩
theorem newOf_lst {H H' : Hp} {a : Addr} {xs : List V} (e : H' a = some (.lst xs)) (n : H a = Option.none) : newOf H H' a = some (.lst xs) := newOf_iff.mpr ⟨e, .inl n⟩
theorem kd_in {H0 H1 H2 : Hp} (d : ∀ a, H0 a ≠ Option.none → H1 a ≠ Option.none) : KdL (newOf H1 H2) (newOf H0 H2) := fun a o e _ => by
  obtain ⟨h1, h2⟩ := newOf_iff.mp e
  refine newOf_iff.mpr ⟨h1, ?_⟩
  rcases h2 with h2 | h2
  · exact .inl (Classical.byContradiction fun z => d a z h2)
  · exact .inr h2
theorem kd_on {H0 H1 H2 : Hp} (k : KdL H1 H2) : KdL (newOf H0 H1) (newOf H0 H2) := fun a o e z => by
  obtain ⟨h1, h2⟩ := newOf_iff.mp e
  exact newOf_iff.mpr ⟨k a o h1 z, h2⟩
/-- a list that was there before is no part of the tree -/
theorem kd_push {H6 H7 : Hp} {D : Addr} {xs : List V} {o : HO} (h6 : H6 D ≠ Option.none) (h7 : H7 D = some (.lst xs)) : KdL (newOf H6 H7) (newOf H6 (upd H7 D o)) := fun a u e z => by
  obtain ⟨h1, h2⟩ := newOf_iff.mp e
  have ne : a ≠ D := fun q => by
    rcases h2 with h2 | h2
    · exact h6 (q ▸ h2)
    · rw [q, h7] at h1
      exact h2 ⟨xs, (Option.some.inj h1).symm⟩
  exact newOf_iff.mpr ⟨by rw [upd_ne ne]; exact h1, h2⟩
theorem dom_kx {p l : Addr} {H H' : Hp} {n : Nat} (k : Kx p H H') (hp : PenAt H' p l n) (a : Addr) (h : H a ≠ Option.none) : H' a ≠ Option.none := by
  apply My.two; (focus intro zzI; simp only [↓ My.mkB zzI (by
  clear zzI
  obtain ⟨kvs, hk⟩ := hp.dict
  by_cases e : a = p
  · rw [e, hk]
    intro z
    cases z
  · cases c : H a with
    | none => exact absurd c h
    | some o =>
      rw [k _ _ c e]
      intro z
      cases z
  )]); intro f; simpa using My.gz f 5 true
/-- what was there is there -/
def Dom (H H' : Hp) : Prop := ∀ a, H a ≠ Option.none → H' a ≠ Option.none
theorem Dom.refl (H : Hp) : Dom H H := fun _ h => h
theorem Dom.trans {H H1 H2 : Hp} (a : Dom H H1) (b : Dom H1 H2) : Dom H H2 := fun x h => b x (a x h)
theorem Dom.kx {p l : Addr} {H H' : Hp} {n : Nat} (k : Kx p H H') (hp : PenAt H' p l n) : Dom H H' := dom_kx k hp
theorem Dom.upd {H : Hp} {D : Addr} {o : HO} : Dom H (upd H D o) := fun a h => by
  by_cases e : a = D
  · rw [e, upd_same]
    intro z
    cases z
  · rw [upd_ne e]
    exact h
/-- a tree more in a list -/
theorem push_tree {α : Type} {R : Hp → α → V → Prop} (mono : ∀ {H H' : Hp} (x : α) (v : V), KdL H H' → R H x v → R H' x v) {p l D : Addr} {c : Nat} {HD H6 H7 : Hp} {us : List V} {xs : List α} {x : α} {v : V} {o : HO} (hD : HD D ≠ Option.none) (d6 : Dom HD H6) (p6 : PenAt H6 p l c) (k67 : Kx p H6 H7) (e6 : H6 D = some (.lst us)) (old : Paired (R (newOf HD H6)) xs us) (new : R (newOf H6 H7) x v) : Paired (R (newOf HD (upd H7 D o))) (xs ++ [x]) (us ++ [v]) := by
  apply My.two; (focus intro zzI; simp only [↓ My.mkB zzI (by
  clear zzI
  obtain ⟨kvs, hk⟩ := p6.dict
  have e7 : H7 D = some (.lst us) := k67 _ _ e6 fun q => by
    rw [q, hk] at e6
    cases e6
  refine paired_snoc ?_ (paired_map (fun x v q => mono x v (kd_push hD e7) (mono x v (kd_on (KdL.kx hk k67)) q)) old)
  exact mono x v (kd_in d6) (mono x v (kd_push (by rw [e6]; intro z; cases z) e7) new)
  )]); intro f; simpa using My.gz f 5 true
def TrAt (H : Hp) : (n : Nat) → Tr n → V → Prop
  | 0, l, v => ∃ a u, v = .ref a ∧ H a = some (.tup [.str "plain", .ref u]) ∧ H u = some (.lst (Lf.vals l))
  | _ + 1, .inl l, v => ∃ a u, v = .ref a ∧ H a = some (.tup [.str "plain", .ref u]) ∧ H u = some (.lst (Lf.vals l))
  | n + 1, .inr (.inl (b, t)), v => ∃ a u, v = .ref a ∧ H a = some (.tup [.str (if b = true then "in" else "not"), u]) ∧ TrAt H n t u
  | n + 1, .inr (.inr (b, ts)), v => ∃ a u vs, v = .ref a ∧ H a = some (.tup [.str (kinW b), .ref u]) ∧ H u = some (.lst vs) ∧ Paired (fun t v => TrAt H n t v) ts vs
theorem TrAt.mono {H H' : Hp} (k : KdL H H') : ∀ (n : Nat) (t : Tr n) (v : V), TrAt H n t v → TrAt H' n t v
  | 0, _, _, ⟨a, u, e, f, g⟩ => ⟨a, u, e, k.tup f, k.lst g⟩
  | _ + 1, .inl _, _, ⟨a, u, e, f, g⟩ => ⟨a, u, e, k.tup f, k.lst g⟩
  | n + 1, .inr (.inl (_, t)), _, ⟨a, u, e, f, g⟩ => ⟨a, u, e, k.tup f, TrAt.mono k n t u g⟩
  | n + 1, .inr (.inr (_, _)), _, ⟨a, u, vs, e, f, g, p⟩ => ⟨a, u, vs, e, k.tup f, k.lst g, paired_map (fun t v q => TrAt.mono k n t v q) p⟩
theorem TrAt.ref {H : Hp} : ∀ (n : Nat) (t : Tr n) (v : V), TrAt H n t v → ∃ a, v = .ref a
  | 0, _, _, ⟨a, _, e, _⟩ => ⟨a, e⟩
  | _ + 1, .inl _, _, ⟨a, _, e, _⟩ => ⟨a, e⟩
  | _ + 1, .inr (.inl (_, _)), _, ⟨a, _, e, _⟩ => ⟨a, e⟩
  | _ + 1, .inr (.inr (_, _)), _, ⟨a, _, _, e, _⟩ => ⟨a, e⟩
theorem pair_at {α β : Type} {R : α → β → Prop} : ∀ {xs : List α} {ys : List β}, Paired R xs ys → ∀ {i : Nat} {y : β}, ys[i]? = some y → ∃ x, xs[i]? = some x ∧ R x y
  | _, _, .nil, _, _, e => by cases e
  | _, _, .cons h _, 0, _, e => by
    cases e
    exact ⟨_, rfl, h⟩
  | _, _, .cons _ t, i + 1, _, e => pair_at t (i := i) e
theorem inB {b : Bool} : ∀ {zs : List Bool}, inV (.bl b) (zs.map V.bl) = decide (b ∈ zs)
  | [] => rfl
  | y :: zs => by
    apply My.two; (focus intro zzI; simp only [↓ My.mkB zzI (by
    clear zzI
    have ih := inB (b := b) (zs := zs)
    unfold inV at ih ⊢
    rw [List.map_cons, List.any_cons, ih, show eqV (.bl y) (.bl b) = decide (y = b) by rfl, Bool.eq_iff_iff, Bool.or_eq_true, decide_eq_true_iff, decide_eq_true_iff, decide_eq_true_iff, List.mem_cons]
    exact ⟨fun h => h.imp Eq.symm id, fun h => h.imp Eq.symm id⟩
    )]); intro f; simpa using My.gz f 5 true
theorem flatB (zs : List Bool) : (zs.map V.bl).all flatV = true := by
  apply My.two; (focus intro zzI; simp only [↓ My.mkB zzI (by
  clear zzI
  induction zs with
  | nil => rfl
  | cons z zs ih =>
    rw [List.map_cons, List.all_cons, ih]
    rfl
  )]); intro f; simpa using My.gz f 5 true
theorem any_in {α : Type} {f : α → Bool} {ts : List α} : decide (true ∈ ts.map f) = ts.any f := by
  rw [Bool.eq_iff_iff, decide_eq_true_iff, List.mem_map, List.any_eq_true]
theorem all_in {α : Type} {f : α → Bool} {ts : List α} : (!decide (false ∈ ts.map f)) = ts.all f := by
  apply My.two; (focus intro zzI; simp only [↓ My.mkB zzI (by
  clear zzI
  rw [Bool.eq_iff_iff, Bool.not_eq_true', decide_eq_false_iff_not, List.mem_map, List.all_eq_true]
  refine ⟨fun h t ht => ?_, fun h ⟨t, ht, z⟩ => ?_⟩
  · cases z : f t with
    | true => rfl
    | false => exact absurd ⟨t, ht, z⟩ h
  · rw [h t ht] at z
    cases z
  )]); intro f; simpa using My.gz f 5 true
theorem ch__law_holds {X : Cx} {k k2 L : Nat} {sp : Sp} {t : TA} {e : Expr} {es : List Expr} {np pos : Pos} (F : FnR X.prog X.w X.K X.mg X.base CX0 L (He.ga X.K "_law_holds") sp) (hr : Room k X.A) (hk : L ≤ k) (T : Tx X.K X.mg) (_ : Room k2 X.A) (ha : PA X (e :: es) t)
    (hg : Gl X "_law_holds" := by rfl) (hse : starEach (e :: es) X.env = (false, eval e X.env) :: starEach es X.env := by rfl) (hpl : (backTo pos (starEach es X.env)).any (·.1) = false := by rfl) :
    PE X (.Call (.Name "_law_holds" np) (e :: es) [] pos) (tFn sp E0 t) :=
  pe_fR F T.kp__law_holds T.g__law_holds (hr.mono hk) pass0 ha hg (by decide) hse hpl
def sp_lh (n : Nat) : Sp := fun vs H Q _ => ∃ (q : Addr) (v : V) (C : Cal) (t : Tr n) (d : Int), vs = [.ref q, v, .int d] ∧ PlnAt H q C ∧ TrAt H n t v ∧ Tr.ok C n t ∧ ∀ H' : Hp, Same H H' → Q (.bl (Tr.hold C n t d)) H'
def sp_lhP : Nat → Sp
  | 0 => fun _ _ _ _ => False
  | n + 1 => sp_lh n
theorem ok__law_holds_no (T : Tx K mg) : FnR P w K mg base CX0 3 (He.ga K "_law_holds") (sp_lhP 0) := (T.fnR 90 (st := s__law_holds) (at_ := fun K => He.ga K "_law_holds") rfl sc__law_holds (fun _ _ _ _ _ _ us hl => match us, hl with | [_, _, _], _ => rfl)) (fun _ _ _ _ h => h.elim) (fun _ _ _ _ _ _ _ _ _ h => h.elim)
theorem ok__law_holdsN (T : Tx K mg) (n : Nat) (IH : FnR P w K mg base CX0 (3 + n) (He.ga K "_law_holds") (sp_lhP n)) : FnR P w K mg base CX0 (3 + n + 1) (He.ga K "_law_holds") (sp_lh n) := by
  apply My.two; (focus intro zzI; simp only [↓ My.mkB zzI (by
  clear zzI
  refine (T.fnR 90 (st := s__law_holds) (at_ := fun K => He.ga K "_law_holds") rfl sc__law_holds (fun _ _ _ _ _ _ us hl => match us, hl with | [_, _, _], _ => rfl)) (fun vs H Q E h => ?_) (fun cdv A outer s H vs Q E hrN h => ?_)
  · obtain ⟨q, v, C, t, d, rfl, _⟩ := h
    rfl
  · have hr : Room 3 _ := hrN.mono (by omega)
    obtain ⟨q, v, C, t, d, rfl, pl, ht, ok, k⟩ := h
    refine ⟨_, (pss_cons (ps_asg (pv 1) (pgt T (n := 2) rfl (pgs_cons (pg_name (i := 3) sc__law_holds.nd rfl (Or.inl rfl)) (pgs_cons (pg_name (i := 4) sc__law_holds.nd rfl (Or.inl rfl)) pgs_nil))))
 (pss_cons (ps_if (pt_cmpR op_eq (pv 3) pe_str (nomark _))
 (pss_one (ps_ret (c__law_plain_holds T hr (pa_cons (pv 0) (pa_cons (pv 4) (pa_cons (pv 2) pa_nil))))))
 pss_nil)
 (pss_cons (ps_if (pt_cmpR (inq T) (pv 3) (pe_tup (pa_cons pe_str (pa_cons pe_str pa_nil))) (by rfl))
 (pss_one (ps_ret (pe_cmpR op_eq ((ch__law_holds IH hrN (Nat.le_refl _)) T hr (pa_cons (pv 0) (pa_cons (pv 4) (pa_cons (pv 2) pa_nil)))) (pe_cmpR op_eq (pv 3) pe_str (nomark _)) (nomark _))))
 pss_nil)
 (pss_cons (ps_setLc (i := 5) (own := [("_law_part", 6)]) rfl sc__law_holds.nd rfl rfl (sw_true rfl rfl rfl (by decide +kernel)) (pil T (pv 4)) (blkOk_by (own := [("_law_part", 6)]) (N := N__law_holds) (sc := defScope s__law_holds) (by decide +kernel)) (fun _ _ _ _ _ => (pg_name (i := 6) sc__law_holds.nd rfl (Or.inl rfl))) (fun _ _ _ _ _ => pts_nil) (fun _ _ _ _ _ => ((ch__law_holds IH hrN (Nat.le_refl _)) T hr (pa_cons (pv 0) (pa_cons (pv 6) (pa_cons (pv 2) pa_nil))))))
 (pss_one (ps_ret (pe_ifExp (pt_cmpR op_eq (pv 3) pe_str (nomark _)) (pe_cmpR (ninq T) pe_bl (pv 5) (by rfl)) (pe_cmpR (inq T) pe_bl (pv 5) (by rfl))))))))), ?_⟩
    cases n with
    | zero =>
      obtain ⟨a, u, rfl, e1, e2⟩ := ht
      have okl : Lf.ok C t := ok
      rfl'
      exact k _ (by fail "a")
    | succ n =>
      rcases t with l | ⟨b, t⟩ | ⟨b, ts⟩
      · obtain ⟨a, u, rfl, e1, e2⟩ := ht
        have okl : Lf.ok C l := ok
        rfl'
        exact k _ (by fail "a")
      · obtain ⟨a, u, rfl, e1, e2⟩ := ht
        have okt : Tr.ok C n t := ok
        cases b
        · rfl'
          refine ⟨pl.same (by fail "a"), TrAt.mono (KdL.of (by fail "a")) n t u e2, okt, fun H2 s2 => ?_⟩
          rfl'
          rw [show decide (V.str (if false = true then ("in" : Str) else ("not" : Str)) = V.str "in") = false from str_no (by decide +kernel), show decide (V.bl (Tr.hold C n t d) = V.bl false) = (Tr.hold C n t d == false) by cases Tr.hold C n t d <;> rfl]
          exact k _ (by fail "a")
        · rfl'
          refine ⟨pl.same (by fail "a"), TrAt.mono (KdL.of (by fail "a")) n t u e2, okt, fun H2 s2 => ?_⟩
          rfl'
          rw [show decide (V.str (if true = true then ("in" : Str) else ("not" : Str)) = V.str "in") = true from decide_eq_true rfl, show decide (V.bl (Tr.hold C n t d) = V.bl true) = (Tr.hold C n t d == true) by cases Tr.hold C n t d <;> rfl]
          exact k _ (by fail "a")
      · obtain ⟨a, u, vs, rfl, e1, e2, p2⟩ := ht
        have okt : ∀ t ∈ ts, Tr.ok C n t := ok.2
        have l3 : vs.length ≤ 3 := by
          have := Paired.length p2
          have := ok.1.2
          omega
        cases b
        · have kn1 : decide (V.str (kinW false) = V.str "and") = false := str_no (by decide +kernel)
          rfl'
          rename_i tp htp H1 s1 f1
          intro D hD
          refine walk_w (walk_list (xs := vs)) (fun j H' => Same H1 H' ∧ H' D = some (.lst (((ts.map fun t => Tr.hold C n t d).take j).map V.bl))) ⟨same_upd hD, upd_same⟩ (fun j H' _ h => SqL.of (h.1 _ _ (s1 _ _ e2))) ?_ ?_
          · rintro j v _ H3 hj ⟨s3, e3⟩ ⟨rfl, ev⟩
            obtain ⟨g, eg, hg⟩ := pair_at p2 ev
            have pl3 : PlnAt H3 q C := pl.same (s1.trans s3)
            have tr3 : TrAt H3 n g v := TrAt.mono (KdL.of (s1.trans s3)) n g v hg
            have ok3 := okt g (List.mem_of_getElem? eg)
            refine ⟨rfl, ?_⟩
            refine yes_t ?_
            rfl'
            rename_i H4 s4
            refine ⟨same_under (s3.trans s4) hD, ?_⟩
            rw [upd_same, List.take_add_one, List.getElem?_map, eg, List.map_append]
            rfl
          rintro H3 ⟨s3, e3⟩
          rw [List.take_of_length_le (by rw [List.length_map, Paired.length p2]; exact Nat.le_refl _)] at e3
          have s13 := s1.trans s3
          clear s3 s1 f1
          rfl'
          refine ⟨flatB _, ?_⟩
          rw [if_neg Bool.false_ne_true, inB, any_in]
          exact k _ s13
        · have kn1 : decide (V.str (kinW true) = V.str "and") = true := decide_eq_true rfl
          rfl'
          rename_i tp htp H1 s1 f1
          intro D hD
          refine walk_w (walk_list (xs := vs)) (fun j H' => Same H1 H' ∧ H' D = some (.lst (((ts.map fun t => Tr.hold C n t d).take j).map V.bl))) ⟨same_upd hD, upd_same⟩ (fun j H' _ h => SqL.of (h.1 _ _ (s1 _ _ e2))) ?_ ?_
          · rintro j v _ H3 hj ⟨s3, e3⟩ ⟨rfl, ev⟩
            obtain ⟨g, eg, hg⟩ := pair_at p2 ev
            have pl3 : PlnAt H3 q C := pl.same (s1.trans s3)
            have tr3 : TrAt H3 n g v := TrAt.mono (KdL.of (s1.trans s3)) n g v hg
            have ok3 := okt g (List.mem_of_getElem? eg)
            refine ⟨rfl, ?_⟩
            refine yes_t ?_
            rfl'
            rename_i H4 s4
            refine ⟨same_under (s3.trans s4) hD, ?_⟩
            rw [upd_same, List.take_add_one, List.getElem?_map, eg, List.map_append]
            rfl
          rintro H3 ⟨s3, e3⟩
          rw [List.take_of_length_le (by rw [List.length_map, Paired.length p2]; exact Nat.le_refl _)] at e3
          have s13 := s1.trans s3
          clear s3 s1 f1
          rfl'
          refine ⟨flatB _, ?_⟩
          rw [if_pos rfl, inB, all_in]
          exact k _ s13
  )]); intro f; simpa using My.gz f 5 true
theorem ok__law_holds (T : Tx K mg) : ∀ n : Nat, FnR P w K mg base CX0 (3 + n + 1) (He.ga K "_law_holds") (sp_lh n)
  | 0 => ok__law_holdsN T 0 (ok__law_holds_no T)
  | n + 1 => ok__law_holdsN T (n + 1) (ok__law_holds T n)
theorem ch__law_words {X : Cx} {k k2 L : Nat} {sp : Sp} {t : TA} {e : Expr} {es : List Expr} {np pos : Pos} (F : FnR X.prog X.w X.K X.mg X.base CX0 L (He.ga X.K "_law_words") sp) (hr : Room k X.A) (hk : L ≤ k) (T : Tx X.K X.mg) (_ : Room k2 X.A) (ha : PA X (e :: es) t)
    (hg : Gl X "_law_words" := by rfl) (hse : starEach (e :: es) X.env = (false, eval e X.env) :: starEach es X.env := by rfl) (hpl : (backTo pos (starEach es X.env)).any (·.1) = false := by rfl) :
    PE X (.Call (.Name "_law_words" np) (e :: es) [] pos) (tFn sp E0 t) :=
  pe_fR F T.kp__law_words T.g__law_words (hr.mono hk) pass0 ha hg (by decide) hse hpl
theorem Lf.item {C : Cal} (o : C.Ok) {l : Lf} (h : l.ok C) {j : Nat} {v : V} (e : (Lf.vals l)[j]? = some v) : ∃ s, (Lf.words l)[j]? = some s ∧ ((∃ i : Int, v = .int i ∧ i.natAbs.log2 < 1920 ∧ s = Str.ofString (toString i)) ∨ v = .str s) := by
  apply My.two; (focus intro zzI; simp only [↓ My.mkB zzI (by
  clear zzI
  have w1 := o.w1
  have m1 := o.m1
  have lg : ∀ i : Int, i.natAbs < 10 ^ 60 → i.natAbs.log2 < 1920 := fun i h => log10 (B := 60) (by decide) h
  cases l <;> simp only [Lf.ok] at h <;> (match j, e with
    | 0, e => exact ⟨_, rfl, .inr (Option.some.inj e).symm⟩
    | 1, e => first | (cases e; done) | exact ⟨_, rfl, .inl ⟨_, (Option.some.inj e).symm, lg _ (by omega), rfl⟩⟩
    | 2, e => first | (cases e; done) | exact ⟨_, rfl, .inl ⟨_, (Option.some.inj e).symm, lg _ (by omega), rfl⟩⟩
    | j + 3, e => cases e)
  )]); intro f; simpa using My.gz f 5 true
def SOk (y : Str) : Prop := SeqAt.shaped (.str y) = true
theorem Lf.shp {C : Cal} (o : C.Ok) {l : Lf} (h : l.ok C) : ∀ y ∈ Lf.words l, SOk y := fun y hy => by
  have w1 := o.w1
  have m1 := o.m1
  have nb : ∀ i : Int, i.natAbs < 10 ^ 60 → SOk (numT i) := fun i h => (int_text (B := 60) (by decide) h).1
  cases l <;> simp only [Lf.words, List.mem_cons, List.not_mem_nil, or_false] at hy <;> simp only [Lf.ok] at h
  case all => rw [hy]; exact (by decide +kernel : SeqAt.shaped (.str "all") = true)
  case none => rw [hy]; exact (by decide +kernel : SeqAt.shaped (.str "none") = true)
  case work => rw [hy]; exact (by decide +kernel : SeqAt.shaped (.str "work") = true)
  case rest => rw [hy]; exact (by decide +kernel : SeqAt.shaped (.str "rest") = true)
  case wkd v => rcases hy with rfl | rfl; exact (by decide +kernel : SeqAt.shaped (.str "weekday") = true); exact nb _ (by omega)
  case mon v => rcases hy with rfl | rfl; exact (by decide +kernel : SeqAt.shaped (.str "month") = true); exact nb _ (by omega)
  case day v => rcases hy with rfl | rfl; exact (by decide +kernel : SeqAt.shaped (.str "day") = true); exact nb _ (by omega)
  case nth v u => rcases hy with rfl | rfl | rfl; exact (by decide +kernel : SeqAt.shaped (.str "nth") = true); exact nb _ (by omega); exact nb _ (by omega)
theorem parW_shp {ws : List Str} (h : ∀ y ∈ ws, SOk y) : ∀ y ∈ parW ws, SOk y := fun y hy => by
  rcases List.mem_cons.mp hy with rfl | hy
  · exact (by decide +kernel : SeqAt.shaped (.str "(") = true)
  rcases List.mem_append.mp hy with hy | hy
  · exact h y hy
  · rw [List.mem_singleton.mp hy]
    exact (by decide +kernel : SeqAt.shaped (.str ")") = true)
theorem sepW_shp {b : Bool} {xs : List (List Str)} (h : ∀ x ∈ xs, ∀ y ∈ x, SOk y) : ∀ y ∈ sepW (kinW b) xs, SOk y := fun y hy => by
  rcases sepW_mem hy with rfl | ⟨x, hx, hy⟩
  · cases b
    · exact (by decide +kernel : SeqAt.shaped (.str "or") = true)
    · exact (by decide +kernel : SeqAt.shaped (.str "and") = true)
  · exact h x hx y hy
theorem Tr.shp {C : Cal} (o : C.Ok) : ∀ (n : Nat) (t : Tr n) (y : Nat), Tr.ok C n t → ∀ s ∈ Tr.wrd n t y, SOk s
  | 0, l, _, h => Lf.shp (l := l) o h
  | n + 1, .inl l, _, h => Lf.shp (l := l) o h
  | n + 1, .inr (.inl (b, t)), _, h => by
    apply My.two; (focus intro zzI; simp only [↓ My.mkB zzI (by
    clear zzI
    cases b
    · intro s hs
      rcases List.mem_cons.mp (show s ∈ ("not" : Str) :: Tr.wrd n t 2 from hs) with rfl | hs
      · exact (by decide +kernel : SeqAt.shaped (.str "not") = true)
      · exact Tr.shp o n t 2 h s hs
    · exact parW_shp (Tr.shp o n t 0 h)
    )]); intro f; simpa using My.gz f 5 true
  | n + 1, .inr (.inr (b, ts)), y, ⟨⟨h1, h2⟩, h3⟩ => by
    apply My.two; (focus intro zzI; simp only [↓ My.mkB zzI (by
    clear zzI
    show ∀ s ∈ rowW b y (Tr.wrd n) ts, SOk s
    rcases row_cases ts with ⟨t, rfl⟩ | h
    · exact Tr.shp o n t y (h3 t (List.mem_cons_self ..))
    · rw [rowW_many h]
      have k : ∀ s ∈ sepW (kinW b) (ts.map fun t => Tr.wrd n t (if b = true then 2 else 1)), SOk s := sepW_shp fun x hx => by
        obtain ⟨t, ht, rfl⟩ := List.mem_map.mp hx
        exact Tr.shp o n t _ (h3 t ht)
      by_cases c : (if b = true then 1 else 0) < y
      · rw [if_pos c]
        exact parW_shp k
      · rw [if_neg c]
        exact k
    )]); intro f; simpa using My.gz f 5 true
theorem dp_strs {H : Hp} : ∀ {ws : List Str}, DpAll K H (ws.map V.str) (ws.map .str)
  | [] => .nil
  | w :: ws => .cons (.str w) dp_strs
theorem all_strs {ws : List Str} (h : ∀ y ∈ ws, SOk y) : (ws.map PyData.str).all atomD = true := by
  apply My.two; (focus intro zzI; simp only [↓ My.mkB zzI (by
  clear zzI
  rw [List.all_eq_true]
  intro d hd
  obtain ⟨y, hy, rfl⟩ := List.mem_map.mp hd
  exact h y hy
  )]); intro f; simpa using My.gz f 5 true
theorem sepW_end {s : Str} {xs : List (List Str)} {x : List Str} : sepW s (xs ++ [x]) = if xs.isEmpty = true then x else sepW s xs ++ s :: x := by
  apply My.two; (focus intro zzI; simp only [↓ My.mkB zzI (by
  clear zzI
  cases xs with
  | nil => exact List.append_nil x
  | cons y ys =>
    show y ++ (ys ++ [x]).flatMap _ = y ++ ys.flatMap _ ++ s :: x
    rw [List.flatMap_append, List.flatMap_singleton, List.append_assoc]
  )]); intro f; simpa using My.gz f 5 true
theorem Lf.words_ne (l : Lf) : Lf.words l ≠ [] := by cases l <;> simp [Lf.words]
theorem Tr.wrd_ne {C : Cal} : ∀ (n : Nat) (t : Tr n) (y : Nat), Tr.ok C n t → Tr.wrd n t y ≠ []
  | 0, l, _, _ => Lf.words_ne l
  | n + 1, .inl l, _, _ => Lf.words_ne l
  | n + 1, .inr (.inl (b, t)), _, h => by
    apply My.two; (focus intro zzI; simp only [↓ My.mkB zzI (by
    clear zzI
    cases b
    · exact (fun z => by cases (show ("not" : Str) :: Tr.wrd n t 2 = [] from z))
    · exact (fun z => by cases (show parW (Tr.wrd n t 0) = [] from z))
    )]); intro f; simpa using My.gz f 5 true
  | n + 1, .inr (.inr (b, ts)), y, ⟨⟨h1, h2⟩, h3⟩ => by
    apply My.two; (focus intro zzI; simp only [↓ My.mkB zzI (by
    clear zzI
    show rowW b y (Tr.wrd n) ts ≠ []
    rcases row_cases ts with ⟨t, rfl⟩ | h
    · exact Tr.wrd_ne n t y (h3 t (List.mem_cons_self ..))
    · rw [rowW_many h]
      by_cases c : (if b = true then 1 else 0) < y
      · rw [if_pos c]
        exact (fun z => by cases z)
      · rw [if_neg c]
        refine sepW_ne (fun z => h1 (List.map_eq_nil_iff.mp z)) fun x hx => ?_
        obtain ⟨t, ht, rfl⟩ := List.mem_map.mp hx
        exact Tr.wrd_ne n t _ (h3 t ht)
    )]); intro f; simpa using My.gz f 5 true
def sp_lw (C : Cal) (n : Nat) : Sp := fun vs H Q _ => ∃ (v : V) (t : Tr n) (y : Nat), vs = [v, .int (y : Int)] ∧ y ≤ 2 ∧ TrAt H n t v ∧ Tr.ok C n t ∧ ∀ (b : Addr) (H' : Hp), Same H H' → H b = none → H' b = some (.lst ((Tr.wrd n t y).map V.str)) → Q (.ref b) H'
def sp_lwP (C : Cal) : Nat → Sp
  | 0 => fun _ _ _ _ => False
  | n + 1 => sp_lw C n
theorem ok__law_words_no (T : Tx K mg) {C : Cal} : FnR P w K mg base CX0 3 (He.ga K "_law_words") (sp_lwP C 0) := (T.fnR 88 (st := s__law_words) (at_ := fun K => He.ga K "_law_words") rfl sc__law_words (fun _ _ _ _ _ _ us hl => match us, hl with | [_, _], _ => rfl)) (fun _ _ _ _ h => h.elim) (fun _ _ _ _ _ _ _ _ _ h => h.elim)
theorem ok__law_wordsN (T : Tx K mg) {C : Cal} (okC : C.Ok) (n : Nat) (hn : wB n ≤ 100000) (IH : FnR P w K mg base CX0 (3 + n) (He.ga K "_law_words") (sp_lwP C n)) : FnR P w K mg base CX0 (3 + n + 1) (He.ga K "_law_words") (sp_lw C n) := by
  apply My.two; (focus intro zzI; simp only [↓ My.mkB zzI (by
  clear zzI
  refine (T.fnR 88 (st := s__law_words) (at_ := fun K => He.ga K "_law_words") rfl sc__law_words (fun _ _ _ _ _ _ us hl => match us, hl with | [_, _], _ => rfl)) (fun vs H Q E h => ?_) (fun cdv A outer s H vs Q E hrN h => ?_)
  · obtain ⟨v, t, y, rfl, _⟩ := h
    rfl
  · have hr : Room 3 _ := hrN.mono (by omega)
    obtain ⟨v, t, y, rfl, y2, ht, ok, k⟩ := h
    refine ⟨_, (pss_cons (ps_asg (pv 0) (pgt T (n := 2) rfl (pgs_cons (pg_name (i := 2) sc__law_words.nd rfl (Or.inl rfl)) (pgs_cons (pg_name (i := 3) sc__law_words.nd rfl (Or.inl rfl)) pgs_nil))))
 (pss_cons (ps_if (pt_cmpR op_eq (pv 2) pe_str (nomark _))
 (pss_one (ps_ret (pe_lc (own := [("_law_word", 7)]) rfl sc__law_words.nd (pil T (pv 3)) (blkOk_by (own := [("_law_word", 7)]) (N := N__law_words) (sc := defScope s__law_words) (by decide +kernel)) (fun _ _ _ _ _ => (pg_name (i := 7) sc__law_words.nd rfl (Or.inl rfl))) (fun _ _ _ _ _ => pts_nil) (fun _ _ _ _ _ => (pe_callTy call_str_any (by rfl) T.n_str (by decide +kernel) (pa_cons (pv 7) pa_nil))))))
 pss_nil)
 (pss_cons (ps_if (pt_cmpR op_eq (pv 2) pe_str (nomark _))
 (pss_one (ps_ret (pe_op op_cat (pe_lst (pa_cons pe_str pa_nil)) ((ch__law_words IH hrN (Nat.le_refl _)) T hr (pa_cons (pv 3) (pa_cons pe_int pa_nil))))))
 pss_nil)
 (pss_cons (ps_if (pt_cmpR op_eq (pv 2) pe_str (nomark _))
 (pss_one (ps_ret (pe_op op_cat (pe_op op_cat (pe_lst (pa_cons pe_str pa_nil)) ((ch__law_words IH hrN (Nat.le_refl _)) T hr (pa_cons (pv 3) (pa_cons pe_int pa_nil)))) (pe_lst (pa_cons pe_str pa_nil)))))
 pss_nil)
 (pss_cons (ps_if (pt_cmpR op_eq (pe_callB (len_k T) (by rfl) T.n_len (by decide +kernel) (pa_cons (pv 3) pa_nil)) pe_int (nomark _))
 (pss_one (ps_ret ((ch__law_words IH hrN (Nat.le_refl _)) T hr (pa_cons (pe_ix (ixl T) (pv 3) pe_int (fun _ _ => rfl)) (pa_cons (pv 1) pa_nil)))))
 pss_nil)
 (pss_cons (ps_par (i := 4) (j := 5) (by rfl) sc__law_words.nd rfl rfl (by decide) rfl rfl (pa_cons (pe_lst pa_nil) (pa_cons (pe_ifExp (pt_cmpR op_eq (pv 2) pe_str (nomark _)) pe_int pe_int) pa_nil)) (by rfl))
 (pss_cons (ps_for PassesOwn.never rfl (pil T (pv 3)) (pg_name (i := 6) sc__law_words.nd rfl (Or.inl rfl))
 (pss_one (ps_set (i := 4) sc__law_words.nd rfl (Or.inl rfl) (pe_op op_cat (pe_op op_cat (pv 4) (pe_op op_rep (pe_lst (pa_cons (pv 2) pa_nil)) (pe_callTy call_int1 (by rfl) T.n_int (by decide +kernel) (pa_cons (pe_cmpR (ned T hr.units) (pv 4) (pe_lst pa_nil) (nomark _)) pa_nil)))) ((ch__law_words IH hrN (Nat.le_refl _)) T hr (pa_cons (pv 6) (pa_cons (pv 5) pa_nil)))))))
 (pss_cons (ps_if (pt_cmpR op_gt (pv 1) (pe_ifExp (pt_cmpR op_eq (pv 2) pe_str (nomark _)) pe_int pe_int) (nomark _))
 (pss_one (ps_ret (pe_op op_cat (pe_op op_cat (pe_lst (pa_cons pe_str pa_nil)) (pv 4)) (pe_lst (pa_cons pe_str pa_nil)))))
 pss_nil)
 (pss_one (ps_ret (pv 4))))))))))), ?_⟩
    have wl := fun y => Tr.wrd_len (C := C) n t y ok
    cases n with
    | zero =>
      obtain ⟨a, u, rfl, e1, e2⟩ := ht
      have okl : Lf.ok C t := ok
      rfl'
      intro D hD
      have lv : (Lf.vals t).length = (Lf.words t).length := by cases t <;> rfl
      refine walk_w (walk_list (xs := Lf.vals t)) (fun j H' => Same H H' ∧ H' D = some (.lst (((Lf.words t).take j).map V.str))) ⟨same_upd hD, upd_same⟩ (fun j H' _ h => SqL.of (h.1 _ _ e2)) ?_ ?_
      · rintro j v _ H3 hj ⟨s3, e3⟩ ⟨rfl, ev⟩
        obtain ⟨s, es, hs⟩ := Lf.item okC okl ev
        have al : ((Lf.words t).take j).length ≤ 3 := by
          have := Lf.words_len t
          rw [List.length_take]
          omega
        refine ⟨rfl, ?_⟩
        refine yes_t ?_
        rcases hs with ⟨i, rfl, li, rfl⟩ | rfl
        · refine ⟨_, rfl, .inl ⟨_, rfl, li, ⟨_, e3, by rw [List.length_map, sizeLine_eq]; omega, same_under s3 hD, ?_⟩⟩⟩
          rw [upd_same, List.take_add_one, es, List.map_append]
          rfl
        · refine ⟨_, rfl, .inr ⟨_, rfl, ⟨_, e3, by rw [List.length_map, sizeLine_eq]; omega, same_under s3 hD, ?_⟩⟩⟩
          rw [upd_same, List.take_add_one, es, List.map_append]
          rfl
      rintro H3 ⟨s3, e3⟩
      rw [lv, List.take_length] at e3
      exact k D H3 s3 hD e3
    | succ n =>
      rcases t with l | ⟨b, t⟩ | ⟨b, ts⟩
      · obtain ⟨a, u, rfl, e1, e2⟩ := ht
        have okl : Lf.ok C l := ok
        rfl'
        intro D hD
        have lv : (Lf.vals l).length = (Lf.words l).length := by cases l <;> rfl
        refine walk_w (walk_list (xs := Lf.vals l)) (fun j H' => Same H H' ∧ H' D = some (.lst (((Lf.words l).take j).map V.str))) ⟨same_upd hD, upd_same⟩ (fun j H' _ h => SqL.of (h.1 _ _ e2)) ?_ ?_
        · rintro j v _ H3 hj ⟨s3, e3⟩ ⟨rfl, ev⟩
          obtain ⟨s, es, hs⟩ := Lf.item okC okl ev
          have al : ((Lf.words l).take j).length ≤ 3 := by
            have := Lf.words_len l
            rw [List.length_take]
            omega
          refine ⟨rfl, ?_⟩
          refine yes_t ?_
          rcases hs with ⟨i, rfl, li, rfl⟩ | rfl
          · refine ⟨_, rfl, .inl ⟨_, rfl, li, ⟨_, e3, by rw [List.length_map, sizeLine_eq]; omega, same_under s3 hD, ?_⟩⟩⟩
            rw [upd_same, List.take_add_one, es, List.map_append]
            rfl
          · refine ⟨_, rfl, .inr ⟨_, rfl, ⟨_, e3, by rw [List.length_map, sizeLine_eq]; omega, same_under s3 hD, ?_⟩⟩⟩
            rw [upd_same, List.take_add_one, es, List.map_append]
            rfl
        rintro H3 ⟨s3, e3⟩
        rw [lv, List.take_length] at e3
        exact k D H3 s3 hD e3
      · obtain ⟨a, u, rfl, e1, e2⟩ := ht
        have okt : Tr.ok C n t := ok
        cases b
        · have wl2 : (("not" : Str) :: Tr.wrd n t 2).length ≤ wB (n + 1) := wl 0
          rw [List.length_cons] at wl2
          rfl'
          refine ⟨TrAt.mono (KdL.of (by fail "a")) n t u e2, okt, fun b2 H2 s2 nb eb => ?_⟩
          rfl'
          rename_i p3 n3 H3 s3 f3
          exact k p3 H3 (by fail "a") ((by fail "a" : Same H H2).free n3) f3
        · have wl2 : (parW (Tr.wrd n t 0)).length ≤ wB (n + 1) := wl 0
          rw [parW_len] at wl2
          rfl'
          refine ⟨TrAt.mono (KdL.of (by fail "a")) n t u e2, okt, fun b2 H2 s2 nb eb => ?_⟩
          rfl'
          rename_i p4 n4 H4 s4 f4 p5 n5 H5 s5 f5 p3 n3 H3 s3 f3
          refine k p3 H3 (by fail "a") ((by fail "a" : Same H H5).free n3) ?_
          show _ = some (HO.lst ((("(" : Str) :: (Tr.wrd n t 0 ++ [(")" : Str)])).map V.str))
          rw [List.map_cons, List.map_append]
          exact f3
      · obtain ⟨a, u, vs, rfl, e1, e2, p2⟩ := ht
        have okt : ∀ t ∈ ts, Tr.ok C n t := ok.2
        have lts := Paired.length p2
        have l3 : vs.length ≤ 3 := by
          have := ok.1.2
          omega
        rcases row_cases ts with ⟨t, rfl⟩ | hmany
        · obtain ⟨v, rfl⟩ : ∃ v, vs = [v] := by
            match vs, lts with
            | [v], _ => exact ⟨v, rfl⟩
          have tv : TrAt H n t v := by
            cases p2 with
            | cons h _ => exact h
          have okt1 := okt t (List.mem_cons_self ..)
          cases b
          · rfl'
            rename_i p1 H1 s1 n1
            intro f1
            exact k p1 H1 s1 n1 f1
          · rfl'
            rename_i p1 H1 s1 n1
            intro f1
            exact k p1 H1 s1 n1 f1
        have vl1 : vs.length ≠ 1 := fun z => by
          rw [z] at lts
          match ts, lts, hmany with
          | [t], _, h => exact h t rfl
        cases b
        · rfl'
          rw [show decide (V.int (vs.length : Int) = V.int 1) = false from decide_eq_false fun z => vl1 (by have := V.int.inj z; omega)]
          refine iteF ?_
          rfl'
          rename_i F0 nF0 H1 s1 f1
          have wb3 : wB (n + 1) = 3 * wB n + 5 := rfl
          refine for_list (xs := vs) (fun i σ H' => ∃ (F : Addr) (v6 : Option V), σ = [some (.ref a), some (.int (y : Int)), some (.str (kinW false)), some (.ref u), some (.ref F), some (.int 1), v6, none] ∧ Same H H' ∧ H F = none ∧ H' F = some (.lst ((sepW (kinW false) ((ts.take i).map fun t => Tr.wrd n t 1)).map V.str))) ⟨F0, none, rfl, s1, nF0, f1⟩ (fun i σ H' _ z => by
            obtain ⟨_, _, rfl, s', _⟩ := z
            exact SqL.of (s' _ _ e2)) ?_ ?_
          · rintro i v σ H2 ev ⟨F, v6, rfl, s2, nF, f2⟩
            obtain ⟨g, eg, hg⟩ := pair_at p2 ev
            have okg := okt g (List.mem_of_getElem? eg)
            have tg := TrAt.mono (KdL.of s2) n g v hg
            obtain ⟨ws, hws⟩ : ∃ ws, sepW (kinW false) ((ts.take i).map fun t => Tr.wrd n t 1) = ws := ⟨_, rfl⟩
            have i3 : i < 3 := by
              have := (List.getElem?_eq_some_iff.mp ev).1
              omega
            have wsl : ws.length ≤ 3 * (wB n + 1) := by
              rw [← hws]
              refine Nat.le_trans (sepW_len (B := wB n) fun x hx => ?_) (Nat.mul_le_mul_right _ (show ((ts.take i).map fun t => Tr.wrd n t 1).length ≤ 3 by rw [List.length_map, List.length_take]; omega))
              obtain ⟨t, ht, rfl⟩ := List.mem_map.mp hx
              exact Tr.wrd_len n t _ (okt t (List.mem_of_mem_take ht))
            have gl := Tr.wrd_len (C := C) n g 1 okg
            have wss : ∀ s ∈ ws, SOk s := by
              rw [← hws]
              refine sepW_shp fun x hx => ?_
              obtain ⟨t, ht, rfl⟩ := List.mem_map.mp hx
              exact Tr.shp okC n t _ (okt t (List.mem_of_mem_take ht))
            have snoc : sepW (kinW false) ((ts.take (i + 1)).map fun t => Tr.wrd n t 1) = if ws.isEmpty = true then Tr.wrd n g 1 else ws ++ kinW false :: Tr.wrd n g 1 := by
              rw [List.take_add_one, eg, List.map_append]
              show sepW (kinW false) (((ts.take i).map fun t => Tr.wrd n t 1) ++ [Tr.wrd n g 1]) = _
              rw [sepW_end, hws]
              have e : ((ts.take i).map fun t => Tr.wrd n t 1).isEmpty = ws.isEmpty := by
                cases z : (ts.take i) with
                | nil =>
                  rw [z] at hws
                  rw [← hws]
                  rfl
                | cons x xs =>
                  have ne : ws ≠ [] := by
                    rw [← hws]
                    refine sepW_ne (fun q => by rw [z] at q; cases q) fun x hx => ?_
                    obtain ⟨t, ht, rfl⟩ := List.mem_map.mp hx
                    exact Tr.wrd_ne n t _ (okt t (List.mem_of_mem_take ht))
                  cases ws with
                  | nil => exact absurd rfl ne
                  | cons => rfl
              rw [e]
            rw [hws] at f2
            clear hws
            rfl'
            rename_i p1 n1 H3 s3 f3 p2' n2 H4 s4 f4
            have s24 := s3.trans s4
            have f25 : H4 F = some (.lst (ws.map V.str)) := s24 _ _ f2
            have f35 := s4 _ _ f3
            refine ⟨.list (ws.map .str), .list [], .lst (SqL.of f25) dp_strs, .lst (SqL.of f4) .nil, atoms_shaped (all_strs wss), by decide, ?_⟩
            rw [eqv_none, show (ws.map PyData.str).isEmpty = ws.isEmpty by cases ws <;> rfl]
            refine .inr ⟨_, rfl, ?_⟩
            clear s3 s4 f3 f4 n1 n2
            have wl0 : (ws.map V.str).length = ws.length := List.length_map ..
            have gl0 : ((Tr.wrd n g 1).map V.str).length = (Tr.wrd n g 1).length := List.length_map ..
            cases hw : ws.isEmpty
            case' false =>
              rw [hw, if_neg Bool.false_ne_true] at snoc
              refine ⟨p1, 1, _, rfl, rfl, f35, by decide, by decide, by rw [sizeLine_eq]; decide, fun q1 hq1 => ?_⟩
              have s5 := same_upd (o := .lst (List.replicate (Int.toNat 1) [V.str (kinW false)]).flatten) hq1
              have f5 : upd H4 q1 (.lst (List.replicate (Int.toNat 1) [V.str (kinW false)]).flatten) q1 = some (.lst [V.str (kinW false)]) := upd_same
            case' true =>
              rw [hw, if_pos rfl] at snoc
              obtain rfl : ws = [] := List.isEmpty_iff.mp hw
              refine ⟨p1, 0, _, rfl, rfl, f35, by decide, by decide, by rw [sizeLine_eq]; decide, fun q1 hq1 => ?_⟩
              have s5 := same_upd (o := .lst (List.replicate (Int.toNat 0) [V.str (kinW false)]).flatten) hq1
              have f5 : upd H4 q1 (.lst (List.replicate (Int.toNat 0) [V.str (kinW false)]).flatten) q1 = some (.lst []) := upd_same
            all_goals
              generalize upd H4 q1 _ = H5 at f5 s5 ⊢
              have f26 := s5 _ _ f25
              have s25 := s24.trans s5
              have tg5 := TrAt.mono (KdL.of s25) n g v tg
              clear f35 f25 hq1
              rfl'
              rename_i p6 n6 H6 s6 f6
              refine ⟨TrAt.mono (KdL.of s6) n g v tg5, okg, fun b2 H7 s7 nb eb => ?_⟩
              have f7 := s7 _ _ f6
              clear f6
              refine ⟨p6, b2, _, _, rfl, rfl, f7, eb, by rw [List.length_append, wl0, gl0, sizeLine_eq]; (try rw [List.length_singleton]); (try rw [List.length_nil]); omega, fun q2 hq2 => ?_⟩
              refine ⟨q2, _, rfl, s2.trans (s25.trans (s6.trans (s7.trans (same_upd hq2)))), ?_, ?_⟩
              · exact (s2.trans (s25.trans (s6.trans s7))).free hq2
              · rw [upd_same, snoc]
                simp only [List.map_append, List.map_cons, List.append_nil, List.append_assoc]
                rfl
          · rintro σ H2 ⟨F, v6, rfl, s2, nF, f2⟩
            rw [← lts, List.take_length] at f2
            have kw : Tr.wrd (n + 1) (.inr (.inr (false, ts))) y = rowW false y (Tr.wrd n) ts := rfl
            rw [kw, rowW_many hmany] at k
            have wsl : (sepW (kinW false) (ts.map fun t => Tr.wrd n t 1)).length ≤ wB (n + 1) := by
              refine Nat.le_trans (sepW_len (B := wB n) fun x hx => ?_) (Nat.le_trans (Nat.mul_le_mul_right _ (show (ts.map fun t => Tr.wrd n t 1).length ≤ 3 by rw [List.length_map]; omega)) (by omega))
              obtain ⟨t, ht, rfl⟩ := List.mem_map.mp hx
              exact Tr.wrd_len n t _ (okt t ht)
            replace k : ∀ (b : Addr) (H' : Hp), Same H H' → H b = none → H' b = some (.lst ((if 0 < y then parW (sepW (kinW false) (ts.map fun t => Tr.wrd n t 1)) else sepW (kinW false) (ts.map fun t => Tr.wrd n t 1)).map V.str)) → Q (.ref b) H' := k
            generalize sepW (kinW false) (ts.map fun t => Tr.wrd n t 1) = ws at f2 k wsl
            have wl0 : (ws.map V.str).length = ws.length := List.length_map ..
            have ko : decide (V.str (kinW false) = V.str "or") = true := decide_eq_true rfl
            rfl'
            refine ite2 (fun c => ?_) (fun c => ?_)
            · have c := of_decide_eq_true c
              rw [if_pos (by omega)] at k
              rfl'
              rename_i p4 n4 H4 s4 f4 p5 n5 H5 s5 f5 p6 n6 H6 s6 f6 p3 n3 H3 s3 f3
              refine k p3 H3 (by fail "a") ((by fail "a" : Same H H6).free n3) ?_
              show _ = some (HO.lst ((("(" : Str) :: (ws ++ [(")" : Str)])).map V.str))
              rw [List.map_cons, List.map_append]
              exact f3
            · have c2 : ¬ (0 : Int) < (y : Int) := fun z => c (decide_eq_true z)
              rw [if_neg (by omega)] at k
              exact ⟨_, rfl, k F H2 s2 nF f2⟩
        · rfl'
          rw [show decide (V.int (vs.length : Int) = V.int 1) = false from decide_eq_false fun z => vl1 (by have := V.int.inj z; omega)]
          refine iteF ?_
          rfl'
          rename_i F0 nF0 H1 s1 f1
          have wb3 : wB (n + 1) = 3 * wB n + 5 := rfl
          refine for_list (xs := vs) (fun i σ H' => ∃ (F : Addr) (v6 : Option V), σ = [some (.ref a), some (.int (y : Int)), some (.str (kinW true)), some (.ref u), some (.ref F), some (.int 2), v6, none] ∧ Same H H' ∧ H F = none ∧ H' F = some (.lst ((sepW (kinW true) ((ts.take i).map fun t => Tr.wrd n t 2)).map V.str))) ⟨F0, none, rfl, s1, nF0, f1⟩ (fun i σ H' _ z => by
            obtain ⟨_, _, rfl, s', _⟩ := z
            exact SqL.of (s' _ _ e2)) ?_ ?_
          · rintro i v σ H2 ev ⟨F, v6, rfl, s2, nF, f2⟩
            obtain ⟨g, eg, hg⟩ := pair_at p2 ev
            have okg := okt g (List.mem_of_getElem? eg)
            have tg := TrAt.mono (KdL.of s2) n g v hg
            obtain ⟨ws, hws⟩ : ∃ ws, sepW (kinW true) ((ts.take i).map fun t => Tr.wrd n t 2) = ws := ⟨_, rfl⟩
            have i3 : i < 3 := by
              have := (List.getElem?_eq_some_iff.mp ev).1
              omega
            have wsl : ws.length ≤ 3 * (wB n + 1) := by
              rw [← hws]
              refine Nat.le_trans (sepW_len (B := wB n) fun x hx => ?_) (Nat.mul_le_mul_right _ (show ((ts.take i).map fun t => Tr.wrd n t 2).length ≤ 3 by rw [List.length_map, List.length_take]; omega))
              obtain ⟨t, ht, rfl⟩ := List.mem_map.mp hx
              exact Tr.wrd_len n t _ (okt t (List.mem_of_mem_take ht))
            have gl := Tr.wrd_len (C := C) n g 2 okg
            have wss : ∀ s ∈ ws, SOk s := by
              rw [← hws]
              refine sepW_shp fun x hx => ?_
              obtain ⟨t, ht, rfl⟩ := List.mem_map.mp hx
              exact Tr.shp okC n t _ (okt t (List.mem_of_mem_take ht))
            have snoc : sepW (kinW true) ((ts.take (i + 1)).map fun t => Tr.wrd n t 2) = if ws.isEmpty = true then Tr.wrd n g 2 else ws ++ kinW true :: Tr.wrd n g 2 := by
              rw [List.take_add_one, eg, List.map_append]
              show sepW (kinW true) (((ts.take i).map fun t => Tr.wrd n t 2) ++ [Tr.wrd n g 2]) = _
              rw [sepW_end, hws]
              have e : ((ts.take i).map fun t => Tr.wrd n t 2).isEmpty = ws.isEmpty := by
                cases z : (ts.take i) with
                | nil =>
                  rw [z] at hws
                  rw [← hws]
                  rfl
                | cons x xs =>
                  have ne : ws ≠ [] := by
                    rw [← hws]
                    refine sepW_ne (fun q => by rw [z] at q; cases q) fun x hx => ?_
                    obtain ⟨t, ht, rfl⟩ := List.mem_map.mp hx
                    exact Tr.wrd_ne n t _ (okt t (List.mem_of_mem_take ht))
                  cases ws with
                  | nil => exact absurd rfl ne
                  | cons => rfl
              rw [e]
            rw [hws] at f2
            clear hws
            rfl'
            rename_i p1 n1 H3 s3 f3 p2' n2 H4 s4 f4
            have s24 := s3.trans s4
            have f25 : H4 F = some (.lst (ws.map V.str)) := s24 _ _ f2
            have f35 := s4 _ _ f3
            refine ⟨.list (ws.map .str), .list [], .lst (SqL.of f25) dp_strs, .lst (SqL.of f4) .nil, atoms_shaped (all_strs wss), by decide, ?_⟩
            rw [eqv_none, show (ws.map PyData.str).isEmpty = ws.isEmpty by cases ws <;> rfl]
            refine .inr ⟨_, rfl, ?_⟩
            clear s3 s4 f3 f4 n1 n2
            have wl0 : (ws.map V.str).length = ws.length := List.length_map ..
            have gl0 : ((Tr.wrd n g 2).map V.str).length = (Tr.wrd n g 2).length := List.length_map ..
            cases hw : ws.isEmpty
            case' false =>
              rw [hw, if_neg Bool.false_ne_true] at snoc
              refine ⟨p1, 1, _, rfl, rfl, f35, by decide, by decide, by rw [sizeLine_eq]; decide, fun q1 hq1 => ?_⟩
              have s5 := same_upd (o := .lst (List.replicate (Int.toNat 1) [V.str (kinW true)]).flatten) hq1
              have f5 : upd H4 q1 (.lst (List.replicate (Int.toNat 1) [V.str (kinW true)]).flatten) q1 = some (.lst [V.str (kinW true)]) := upd_same
            case' true =>
              rw [hw, if_pos rfl] at snoc
              obtain rfl : ws = [] := List.isEmpty_iff.mp hw
              refine ⟨p1, 0, _, rfl, rfl, f35, by decide, by decide, by rw [sizeLine_eq]; decide, fun q1 hq1 => ?_⟩
              have s5 := same_upd (o := .lst (List.replicate (Int.toNat 0) [V.str (kinW true)]).flatten) hq1
              have f5 : upd H4 q1 (.lst (List.replicate (Int.toNat 0) [V.str (kinW true)]).flatten) q1 = some (.lst []) := upd_same
            all_goals
              generalize upd H4 q1 _ = H5 at f5 s5 ⊢
              have f26 := s5 _ _ f25
              have s25 := s24.trans s5
              have tg5 := TrAt.mono (KdL.of s25) n g v tg
              clear f35 f25 hq1
              rfl'
              rename_i p6 n6 H6 s6 f6
              refine ⟨TrAt.mono (KdL.of s6) n g v tg5, okg, fun b2 H7 s7 nb eb => ?_⟩
              have f7 := s7 _ _ f6
              clear f6
              refine ⟨p6, b2, _, _, rfl, rfl, f7, eb, by rw [List.length_append, wl0, gl0, sizeLine_eq]; (try rw [List.length_singleton]); (try rw [List.length_nil]); omega, fun q2 hq2 => ?_⟩
              refine ⟨q2, _, rfl, s2.trans (s25.trans (s6.trans (s7.trans (same_upd hq2)))), ?_, ?_⟩
              · exact (s2.trans (s25.trans (s6.trans s7))).free hq2
              · rw [upd_same, snoc]
                simp only [List.map_append, List.map_cons, List.append_nil, List.append_assoc]
                rfl
          · rintro σ H2 ⟨F, v6, rfl, s2, nF, f2⟩
            rw [← lts, List.take_length] at f2
            have kw : Tr.wrd (n + 1) (.inr (.inr (true, ts))) y = rowW true y (Tr.wrd n) ts := rfl
            rw [kw, rowW_many hmany] at k
            have wsl : (sepW (kinW true) (ts.map fun t => Tr.wrd n t 2)).length ≤ wB (n + 1) := by
              refine Nat.le_trans (sepW_len (B := wB n) fun x hx => ?_) (Nat.le_trans (Nat.mul_le_mul_right _ (show (ts.map fun t => Tr.wrd n t 2).length ≤ 3 by rw [List.length_map]; omega)) (by omega))
              obtain ⟨t, ht, rfl⟩ := List.mem_map.mp hx
              exact Tr.wrd_len n t _ (okt t ht)
            replace k : ∀ (b : Addr) (H' : Hp), Same H H' → H b = none → H' b = some (.lst ((if 1 < y then parW (sepW (kinW true) (ts.map fun t => Tr.wrd n t 2)) else sepW (kinW true) (ts.map fun t => Tr.wrd n t 2)).map V.str)) → Q (.ref b) H' := k
            generalize sepW (kinW true) (ts.map fun t => Tr.wrd n t 2) = ws at f2 k wsl
            have wl0 : (ws.map V.str).length = ws.length := List.length_map ..
            have ko : decide (V.str (kinW true) = V.str "or") = false := str_no (by decide +kernel)
            rfl'
            refine ite2 (fun c => ?_) (fun c => ?_)
            · have c := of_decide_eq_true c
              rw [if_pos (by omega)] at k
              rfl'
              rename_i p4 n4 H4 s4 f4 p5 n5 H5 s5 f5 p6 n6 H6 s6 f6 p3 n3 H3 s3 f3
              refine k p3 H3 (by fail "a") ((by fail "a" : Same H H6).free n3) ?_
              show _ = some (HO.lst ((("(" : Str) :: (ws ++ [(")" : Str)])).map V.str))
              rw [List.map_cons, List.map_append]
              exact f3
            · have c2 : ¬ (1 : Int) < (y : Int) := fun z => c (decide_eq_true z)
              rw [if_neg (by omega)] at k
              exact ⟨_, rfl, k F H2 s2 nF f2⟩
  )]); intro f; simpa using My.gz f 5 true
theorem ok__law_words (T : Tx K mg) {C : Cal} (okC : C.Ok) : ∀ n : Nat, wB n ≤ 100000 → FnR P w K mg base CX0 (3 + n + 1) (He.ga K "_law_words") (sp_lw C n)
  | 0, h => ok__law_wordsN T okC 0 h (ok__law_words_no T)
  | n + 1, h => ok__law_wordsN T okC (n + 1) h (ok__law_words T okC n (by
      have : wB (n + 1) = 3 * wB n + 5 := rfl
      omega))
end
end Lw
namespace Lw
open PySem PySem.Spec PyProof.Rows L2 My
section
variable {P : Program} {w : World} {K : Fg} {mg : Str → Option Value} {base : Heap}
theorem pick_ints {xs : List Int} {j : Nat} {v : V} (h : (xs.map V.int)[j]? = some v) : ∃ y : Int, v = .int y ∧ y ∈ xs := by
  apply My.two; (focus intro zzI; simp only [↓ My.mkB zzI (by
  clear zzI
  rw [List.getElem?_map] at h
  cases e : xs[j]? with
  | none =>
    rw [e] at h
    cases h
  | some y =>
    rw [e] at h
    exact ⟨y, (Option.some.inj h).symm, List.mem_of_getElem? e⟩
  )]); intro f; simpa using My.gz f 5 true
def sp_lnth : Sp := fun vs H Q _ => ∃ (p l : Addr) (n : Nat), vs = [.ref p] ∧ PenAt H p l n ∧ n + 3 ≤ 1000000000000 ∧ ∀ (z : Int) (H' : Hp), z ≠ 0 → z.natAbs ≤ 40 → PenAt H' p l (n + 3) → Kx p H H' → Q (.int z) H'
theorem ok__law_nth (T : Tx K mg) : FnR P w K mg base CX0 3 (He.ga K "_law_nth") sp_lnth := by
  apply My.two; (focus intro zzI; simp only [↓ My.mkB zzI (by
  clear zzI
  refine (T.fnR 85 (st := s__law_nth) (at_ := fun K => He.ga K "_law_nth") rfl sc__law_nth (fun _ _ _ _ _ _ us hl => match us, hl with | [_], _ => rfl)) (fun vs H Q E h => ?_) (fun cdv A outer s H vs Q E hr h => ?_)
  · obtain ⟨p, l, n, rfl, _⟩ := h
    rfl
  · obtain ⟨p, l, n, rfl, hp, hn, k⟩ := h
    refine ⟨_, (pss_one (ps_ret (c__law_pick T hr (pa_cons (pv 0) (pa_cons (pe_lst (pa_cons pe_int (pa_cons pe_int (pa_cons pe_int (pa_cons (pe_un un_neg pe_int) (pa_cons (pe_un un_neg pe_int) (pa_cons (pe_un un_neg pe_int) (pa_cons (pe_op op_add pe_int (c__law_draw T hr (pa_cons (pv 0) (pa_cons pe_int pa_nil)))) (pa_cons (pe_op op_sub (pe_un un_neg pe_int) (c__law_draw T hr (pa_cons (pv 0) (pa_cons pe_int pa_nil)))) (pa_cons pe_int (pa_cons pe_int pa_nil))))))))))) pa_nil))))), ?_⟩
    have B := (Bd.start hp).add stay_kx (Kx.refl H)
    rfl'
    rename_i r1 H1 a1 b1 B1 r2 H2 a2 b2 B2 q3 H3 B3 v j H4 hv B4
    obtain ⟨z, rfl, hz⟩ := pick_ints (xs := [1, 2, 3, -1, -2, -3, 1 + r1, -1 - r2, 1, 4]) hv
    simp only [List.mem_cons, List.not_mem_nil, or_false] at hz
    exact k z H4 (by omega) (by omega) B4.pen (B4.at_ 1)
  )]); intro f; simpa using My.gz f 5 true
theorem c__law_nth {X : Cx} {k : Nat} {t : TA} {e : Expr} {es : List Expr} {np pos : Pos} (T : Tx K mg) (hr : Room k X.A) (ha : PA X (e :: es) t) (hk : 3 ≤ k := by decide) (hK : X.K = K := by rfl) (hm : X.mg = mg := by rfl)
    (hg : Gl X "_law_nth" := by rfl) (hse : starEach (e :: es) X.env = (false, eval e X.env) :: starEach es X.env := by rfl) (hpl : (backTo pos (starEach es X.env)).any (·.1) = false := by rfl) :
    PE X (.Call (.Name "_law_nth" np) (e :: es) [] pos) (tFn sp_lnth E0 t) := by
  subst hK
  subst hm
  exact pe_fR (ok__law_nth T) T.kp__law_nth T.g__law_nth (hr.mono hk) pass0 ha hg (by decide) hse hpl
/-- lists of the words of leaves, new since H0 -/
def LfsAt (C : Cal) (H0 H : Hp) (ts : List Addr) : Prop := ∀ t ∈ ts, H0 t = none ∧ ∃ x : Lf, Lf.ok C x ∧ H t = some (.lst (Lf.vals x))
theorem stay_lfs {p : Addr} {C : Cal} {H0 : Hp} {ts : List Addr} : Stay p (fun H => LfsAt C H0 H ts) := fun H H' _ _ hp k h t ht => by
  obtain ⟨kvs, hk⟩ := hp.dict
  obtain ⟨a, x, o, e⟩ := h t ht
  exact ⟨a, x, o, k _ _ e (ne_dict hk e (by intro z; cases z))⟩
def sp_lleaf (C : Cal) : Sp := fun vs H Q _ => ∃ (p l q : Addr) (n : Nat), vs = [.ref p, .ref q] ∧ PenAt H p l n ∧ n + 20 ≤ 1000000000000 ∧ q ≠ p ∧ PlnAt H q C ∧
  ∀ (u : Addr) (x : Lf) (H' : Hp), Lf.ok C x → H' u = some (.lst (Lf.vals x)) → H u = none → PenAt H' p l (n + 20) → Kx p H H' → Q (.ref u) H'
theorem ok__law_leaf (T : Tx K mg) {C : Cal} : FnR P w K mg base CX0 4 (He.ga K "_law_leaf") (sp_lleaf C) := by
  apply My.two; (focus intro zzI; simp only [↓ My.mkB zzI (by
  clear zzI
  refine (T.fnR 86 (st := s__law_leaf) (at_ := fun K => He.ga K "_law_leaf") rfl sc__law_leaf (fun _ _ _ _ _ _ us hl => match us, hl with | [_, _], _ => rfl)) (fun vs H Q E h => ?_) (fun cdv A outer s H vs Q E hr h => ?_)
  · obtain ⟨p, l, q, n, rfl, _⟩ := h
    rfl
  · obtain ⟨p, l, q, n, rfl, hp, hn, qp, pl, k⟩ := h
    refine ⟨_, (pss_cons (ps_set (i := 2) sc__law_leaf.nd rfl (Or.inl rfl) (c__law_draw T hr (pa_cons (pv 0) (pa_cons (pe_dget (hu_of hr) (pv 1) pe_str (fun _ _ => rfl)) pa_nil))))
 (pss_cons (ps_set (i := 3) sc__law_leaf.nd rfl (Or.inl rfl) (pe_lst (pa_cons (pe_lst (pa_cons pe_str pa_nil)) (pa_cons (pe_lst (pa_cons pe_str pa_nil)) (pa_cons (pe_lst (pa_cons pe_str pa_nil)) (pa_cons (pe_lst (pa_cons pe_str pa_nil)) (pa_cons (pe_lst (pa_cons pe_str pa_nil)) (pa_cons (pe_lst (pa_cons pe_str (pa_cons (pv 2) pa_nil))) (pa_cons (pe_lst (pa_cons pe_str (pa_cons (pv 2) pa_nil))) pa_nil)))))))))
 (pss_cons (ps_set (i := 3) sc__law_leaf.nd rfl (Or.inl rfl) (pe_op op_cat (pv 3) (pe_lst (pa_cons (pe_lst (pa_cons pe_str (pa_cons (pe_op op_add pe_int (c__law_draw T hr (pa_cons (pv 0) (pa_cons (pe_callB (len_k T) (by rfl) T.n_len (by decide +kernel) (pa_cons (pe_ix (ixl T) (pe_dget (hu_of hr) (pv 1) pe_str (fun _ _ => rfl)) pe_int (fun _ _ => rfl)) pa_nil)) pa_nil)))) pa_nil))) (pa_cons (pe_lst (pa_cons pe_str (pa_cons (c__law_nth T hr (pa_cons (pv 0) pa_nil)) pa_nil))) pa_nil)))))
 (pss_cons (ps_expr (bmk T PySem.F.plainAttrs_list PySem.F.slot_list_append PySem.F.type_list_append mt_append (pv 3) (pa_cons (pe_lst (pa_cons pe_str (pa_cons (c__law_nth T hr (pa_cons (pv 0) pa_nil)) pa_nil))) pa_nil)))
 (pss_one (ps_ret (c__law_pick T hr (pa_cons (pv 0) (pa_cons (pe_op op_cat (pv 3) (pe_lst (pa_cons (pe_lst (pa_cons pe_str (pa_cons (c__law_nth T hr (pa_cons (pv 0) pa_nil)) (pa_cons (pv 2) pa_nil)))) pa_nil))) pa_nil))))))))), ?_⟩
    obtain ⟨y, l', rr, h, ⟨kvs, e, pw⟩, BP, ok⟩ := id pl
    obtain ⟨v1, v2, v3, v4, v5, v6⟩ := pw
    have w0 := ok.w0
    have w1 := ok.w1
    have m0 := ok.m0
    have m1 := ok.m1
    obtain ⟨ts, y1, yr⟩ := BP.yr
    obtain ⟨t0, e0, h0⟩ : ∃ t0, ts[0]? = some t0 ∧ H t0 = some (.lst ((C.rows.getD 0 []).map natV)) := by
      have ne := ok.yr.ne
      refine yr.get (i := 0) ?_
      rw [List.getD_eq_getElem?_getD, List.getElem?_eq_getElem ne]
      rfl
    have hm : ((C.rows.getD 0 []).map natV).length = C.mon := List.length_map ..
    have ea : atI (ts.map V.ref) 0 = some (.ref t0) := at_of (j := 0) rfl (by rw [List.getElem?_map, e0]; rfl)
    have B := (((((Bd.start hp).add stay_kx (Kx.refl H)).add (stay_pln qp) pl).add (stay_dct qp) e).addL y1).addL h0
    rfl'
    refine ⟨dg_of e v3, ?_⟩
    clear BP v2 v3 v4 v5 v6 yr e0
    have kn : KeepNone := trivial
    rfl'
    rename_i r J0 r0 r1 B0 q1 n1 J1 B1 q2 n2 J2 B2 q3 n3 J3 B3 q4 n4 J4 B4 q5 n5 J5 B5 q6 n6 J6 B6 q7 n7 J7 B7 q8 n8 J8 B8
    have ey := B8.ob 9 rfl
    have et0 := B8.ob 8 rfl
    refine ⟨dg_of (B8.ob 10 rfl) v1, ?_⟩
    have z1 : H q1 = none := B0.pen.free (B0.at_ 4) n1
    have z2 : H q2 = none := B1.pen.free (B1.at_ 5) n2
    have z3 : H q3 = none := B2.pen.free (B2.at_ 6) n3
    have z4 : H q4 = none := B3.pen.free (B3.at_ 7) n4
    have z5 : H q5 = none := B4.pen.free (B4.at_ 8) n5
    have z6 : H q6 = none := B5.pen.free (B5.at_ 9) n6
    have z7 : H q7 = none := B6.pen.free (B6.at_ 10) n7
    have z8 : H q8 = none := B7.pen.free (B7.at_ 11) n8
    have lf8 : LfsAt C H J8 [q1, q2, q3, q4, q5, q6, q7] := fun t ht => by
      simp only [List.mem_cons, List.not_mem_nil, or_false] at ht
      rcases ht with rfl | rfl | rfl | rfl | rfl | rfl | rfl
      · exact ⟨z1, .all, trivial, B8.ob 7 rfl⟩
      · exact ⟨z2, .none, trivial, B8.ob 6 rfl⟩
      · exact ⟨z3, .work, trivial, B8.ob 5 rfl⟩
      · exact ⟨z4, .rest, trivial, B8.ob 4 rfl⟩
      · exact ⟨z5, .work, trivial, B8.ob 3 rfl⟩
      · exact ⟨z6, .wkd r, ⟨r0, r1⟩, B8.ob 2 rfl⟩
      · exact ⟨z7, .wkd r, ⟨r0, r1⟩, B8.ob 1 rfl⟩
    have e8 : J8 q8 = some (.lst ([q1, q2, q3, q4, q5, q6, q7].map V.ref)) := B8.ob 0 rfl
    have C8 := (((Bd.start B8.pen).add stay_kx (B8.at_ 12 : Kx p H J8)).add stay_lfs lf8).addL e8
    obtain ⟨ts7, hts7⟩ : ∃ ts7, [q1, q2, q3, q4, q5, q6, q7] = ts7 := ⟨_, rfl⟩
    have l7 : ts7.length = 7 := by rw [← hts7]; rfl
    rw [hts7] at C8
    have l7m : (ts7.map V.ref).length = 7 := by rw [List.length_map, l7]
    clear z1 z2 z3 z4 z5 z6 z7 lf8 e8 hts7 n1 n2 n3 n4 n5 n6 n7 n8 B0 B1 B2 B3 B4 B5 B6 B7 B8 B
    rfl'
    rename_i ra Ja a0 a1 Ba q9 n9 J9 B9 rb Jb b0 b1 Bb q10 n10 J10 B10 q11 n11 J11 B11 q12 n12 J12 B12 rc Jc c0 c1 Bc q13 n13 J13 B13
    rw [hm] at a1
    have z9 : H q9 = none := Ba.pen.free (Ba.at_ 2) n9
    have z10 : H q10 = none := Bb.pen.free (Bb.at_ 3) n10
    have z12 : H q12 = none := B11.pen.free (B11.at_ 5) n12
    have z13 : H q13 = none := Bc.pen.free (Bc.at_ 6) n13
    have nn := B11.pen.new n12
    have e16 : upd J13 q12 (.lst (ts7.map V.ref ++ [V.ref q9, V.ref q10] ++ [V.ref q13])) q12 = some (.lst ((ts7 ++ [q9, q10, q13]).map V.ref)) := by
      rw [upd_same, List.map_append, List.append_assoc]
      rfl
    have k16 : Kx p H (upd J13 q12 (.lst (ts7.map V.ref ++ [V.ref q9, V.ref q10] ++ [V.ref q13]))) := kx_new (B13.at_ 7) z12
    have p16 := B13.pen.set (o := .lst (ts7.map V.ref ++ [V.ref q9, V.ref q10] ++ [V.ref q13])) nn.1 nn.2
    have ne12 : ∀ {t : Addr} {o : HO}, J11 t = some o → t ≠ q12 := fun h z => by
      rw [z, n12] at h
      cases h
    have lf16 : LfsAt C H (upd J13 q12 (.lst (ts7.map V.ref ++ [V.ref q9, V.ref q10] ++ [V.ref q13]))) (ts7 ++ [q9, q10, q13]) := fun t ht => by
      rcases List.mem_append.mp ht with ht | ht
      · obtain ⟨_, _, _, e11⟩ := (B11.at_ 4 : LfsAt C H J11 ts7) t ht
        obtain ⟨zt, x, o, e13⟩ := (B13.at_ 6 : LfsAt C H J13 ts7) t ht
        exact ⟨zt, x, o, (upd_ne (ne12 e11)).trans e13⟩
      · simp only [List.mem_cons, List.not_mem_nil, or_false] at ht
        rcases ht with rfl | rfl | rfl
        · exact ⟨z9, .mon (1 + ra), ⟨by omega, by omega⟩, (upd_ne (ne12 (B11.ob 2 rfl))).trans (B13.ob 4 rfl)⟩
        · exact ⟨z10, .day rb, ⟨b0, b1⟩, (upd_ne (ne12 (B11.ob 1 rfl))).trans (B13.ob 3 rfl)⟩
        · refine ⟨z13, .day rc, ⟨c0, c1⟩, (upd_ne fun z => ?_).trans (B13.ob 0 rfl)⟩
          have := Bc.ob 0 rfl
          rw [← z, n13] at this
          cases this
    generalize upd J13 q12 _ = J16 at e16 k16 p16 lf16 ⊢
    have C16 := (((Bd.start p16).add stay_kx k16).add stay_lfs lf16).addL e16
    refine ⟨p16, by omega, fun zd J17 d0 d1 hp17 k17 => ?_⟩
    have D17 := C16.drawn k17 hp17
    have l10 : ((ts7 ++ [q9, q10, q13]).map V.ref).length = 10 := by
      rw [List.length_map, List.length_append, l7]
      rfl
    generalize ts7 ++ [q9, q10, q13] = ts10 at D17 l10
    clear C16 p16 k16 lf16 e16 hp17 k17 z9 z10 z12 z13 nn ne12 n9 n10 n11 n12 n13 Ba B9 Bb B10 B11 B12 Bc B13 C8 l7 l7m
    rfl'
    rename_i qa na Ja1 Ba1 qb nb Jb1 Bb1 qc nc Jc1 Bc1
    refine ⟨by rw [List.length_append, l10, List.length_singleton]; decide, fun v j J18 hv hp18 k18 => ?_⟩
    have zqa : H qa = none := D17.pen.free (D17.at_ 2) na
    have B18 := Bc1.drawn k18 hp18
    have fin : ∀ t : Addr, (H t = none ∧ ∃ x : Lf, Lf.ok C x ∧ J18 t = some (.lst (Lf.vals x))) → Q (.ref t) J18 := fun t ⟨z, x, o, e⟩ => k t x J18 o e z (B18.pen.mono (by omega)) (B18.at_ 5)
    rcases List.mem_append.mp (List.mem_of_getElem? hv) with hm2 | hm2
    · obtain ⟨t, ht, rfl⟩ := List.mem_map.mp hm2
      exact fin t ((B18.at_ 4 : LfsAt C H J18 ts10) t ht)
    · rw [List.mem_singleton.mp hm2]
      exact fin qa ⟨zqa, .nth zd r, ⟨d0, d1, r0, r1⟩, B18.ob 2 rfl⟩
  )]); intro f; simpa using My.gz f 5 true
theorem c__law_leaf {X : Cx} {k : Nat} {t : TA} {e : Expr} {es : List Expr} {np pos : Pos} (T : Tx K mg) (hr : Room k X.A) (ha : PA X (e :: es) t) (hk : 4 ≤ k := by decide) (hK : X.K = K := by rfl) (hm : X.mg = mg := by rfl)
    (hg : Gl X "_law_leaf" := by rfl) (hse : starEach (e :: es) X.env = (false, eval e X.env) :: starEach es X.env := by rfl) (hpl : (backTo pos (starEach es X.env)).any (·.1) = false := by rfl) :
    PE X (.Call (.Name "_law_leaf" np) (e :: es) [] pos) (tFn (sp_lleaf C) E0 t) := by
  subst hK
  subst hm
  exact pe_fR (ok__law_leaf T) T.kp__law_leaf T.g__law_leaf (hr.mono hk) pass0 ha hg (by decide) hse hpl
theorem ch__law_tree {X : Cx} {k k2 L : Nat} {sp : Sp} {t : TA} {e : Expr} {es : List Expr} {np pos : Pos} (F : FnR X.prog X.w X.K X.mg X.base CX0 L (He.ga X.K "_law_tree") sp) (hr : Room k X.A) (hk : L ≤ k) (T : Tx X.K X.mg) (_ : Room k2 X.A) (ha : PA X (e :: es) t)
    (hg : Gl X "_law_tree" := by rfl) (hse : starEach (e :: es) X.env = (false, eval e X.env) :: starEach es X.env := by rfl) (hpl : (backTo pos (starEach es X.env)).any (·.1) = false := by rfl) :
    PE X (.Call (.Name "_law_tree" np) (e :: es) [] pos) (tFn sp E0 t) :=
  pe_fR F T.kp__law_tree T.g__law_tree (hr.mono hk) pass0 ha hg (by decide) hse hpl
theorem stay_tr {p : Addr} {H0 : Hp} {n : Nat} {t : Tr n} {v : V} : Stay p (fun H => TrAt (newOf H0 H) n t v) := fun H H' l c hp kx h => by
  obtain ⟨kvs, hk⟩ := hp.dict
  exact TrAt.mono (kd_on (KdL.kx hk kx)) _ _ _ h
def sp_ltr (C : Cal) (n : Nat) : Sp := fun vs H Q _ => ∃ (p l q : Addr) (D c : Nat), vs = [.ref p, .ref q, .int (D : Int)] ∧ D ≤ n ∧ D ≤ 100 ∧ PenAt H p l c ∧ c + dT n ≤ 1000000000000 ∧ q ≠ p ∧ PlnAt H q C ∧
  ∀ (v : V) (t : Tr n) (H' : Hp), Tr.ok C n t → TrAt (newOf H H') n t v → PenAt H' p l (c + dT n) → Kx p H H' → Q v H'
def sp_ltrP (C : Cal) : Nat → Sp
  | 0 => fun _ _ _ _ => False
  | n + 1 => sp_ltr C n
theorem ok__law_tree_no (T : Tx K mg) {C : Cal} : FnR P w K mg base CX0 5 (He.ga K "_law_tree") (sp_ltrP C 0) := (T.fnR 87 (st := s__law_tree) (at_ := fun K => He.ga K "_law_tree") rfl sc__law_tree (fun _ _ _ _ _ _ us hl => match us, hl with | [_, _, _], _ => rfl)) (fun _ _ _ _ h => h.elim) (fun _ _ _ _ _ _ _ _ _ h => h.elim)
theorem ok__law_treeN (T : Tx K mg) {C : Cal} (n : Nat) (IH : FnR P w K mg base CX0 (5 + n) (He.ga K "_law_tree") (sp_ltrP C n)) : FnR P w K mg base CX0 (5 + n + 1) (He.ga K "_law_tree") (sp_ltr C n) := by
  apply My.two; (focus intro zzI; simp only [↓ My.mkB zzI (by
  clear zzI
  refine (T.fnR 87 (st := s__law_tree) (at_ := fun K => He.ga K "_law_tree") rfl sc__law_tree (fun _ _ _ _ _ _ us hl => match us, hl with | [_, _, _], _ => rfl)) (fun vs H Q E h => ?_) (fun cdv A outer s H vs Q E hrN h => ?_)
  · obtain ⟨p, l, q, D, c, rfl, _⟩ := h
    rfl
  · have hr : Room 5 _ := hrN.mono (by omega)
    obtain ⟨p, l, q, D, c, rfl, hD, hD2, hp, hc, qp, pl, k⟩ := h
    refine ⟨_, (pss_cons (ps_set (i := 3) sc__law_tree.nd rfl (Or.inl rfl) (pe_ifExp (pt_cmpR op_gt (pv 2) pe_int (nomark _)) (c__law_draw T hr (pa_cons (pv 0) (pa_cons pe_int pa_nil))) pe_int))
 (pss_cons (ps_if (pt_cmpR op_lt (pv 3) pe_int (nomark _))
 (pss_one (ps_ret (pe_tup (pa_cons pe_str (pa_cons ((c__law_leaf (C := C)) T hr (pa_cons (pv 0) (pa_cons (pv 1) pa_nil))) pa_nil)))))
 pss_nil)
 (pss_cons (ps_if (pt_cmpR op_lt (pv 3) pe_int (nomark _))
 (pss_one (ps_ret (pe_tup (pa_cons (pe_ix (ixl T) (pe_lst (pa_cons pe_str (pa_cons pe_str pa_nil))) (pe_op op_sub (pv 3) pe_int) (fun _ _ => rfl)) (pa_cons ((ch__law_tree IH hrN (Nat.le_refl _)) T hr (pa_cons (pv 0) (pa_cons (pv 1) (pa_cons (pe_op op_sub (pv 2) pe_int) pa_nil)))) pa_nil)))))
 pss_nil)
 (pss_cons (ps_set (i := 4) sc__law_tree.nd rfl (Or.inl rfl) (pe_ix (ixl T) (pe_lst (pa_cons pe_str (pa_cons pe_str (pa_cons pe_str pa_nil)))) (pe_op op_sub (pv 3) pe_int) (fun _ _ => rfl)))
 (pss_one (ps_ret (pe_tup (pa_cons (pv 4) (pa_cons (pe_lc (own := [("_law_part", 5)]) rfl sc__law_tree.nd (pi_range1 rfl T.n_range (pa_cons (pe_op op_add pe_int (c__law_draw T hr (pa_cons (pv 0) (pa_cons pe_int pa_nil)))) pa_nil)) (blkOk_by (own := [("_law_part", 5)]) (N := N__law_tree) (sc := defScope s__law_tree) (by decide +kernel)) (fun _ _ _ _ _ => (pg_name (i := 5) sc__law_tree.nd rfl (Or.inl rfl))) (fun _ _ _ _ _ => pts_nil) (fun _ _ _ _ _ => ((ch__law_tree IH hrN (Nat.le_refl _)) T hr (pa_cons (pv 0) (pa_cons (pv 1) (pa_cons (c__law_draw T hr (pa_cons (pv 0) (pa_cons (pv 2) pa_nil))) pa_nil)))))) pa_nil))))))))), ?_⟩
    have B := ((Bd.start hp).add stay_kx (Kx.refl H)).add (stay_pln qp) pl
    cases n with
    | zero =>
      obtain rfl : D = 0 := by omega
      have hc2 : c + 30 ≤ 1000000000000 := hc
      have k2 : ∀ (v : V) (t : Lf) (H' : Hp), Lf.ok C t → (∃ a u, v = .ref a ∧ newOf H H' a = some (.tup [.str "plain", .ref u]) ∧ newOf H H' u = some (.lst (Lf.vals t))) → PenAt H' p l (c + 30) → Kx p H H' → Q v H' := k
      clear k
      rfl'
      intro u x H1 ox eu nu hp1 k1
      have B1 := (B.drawn k1 hp1).addL eu
      rfl'
      rename_i a H2 B2
      exact k2 (.ref a) x H2 ox ⟨a, u, rfl, newOf_tup (B2.ob 0 rfl), newOf_lst (B2.ob 1 rfl) nu⟩ (B2.pen.mono (by omega)) (B2.at_ 3)
    | succ n =>
      have d1 : dT (n + 1) = 3 * dT n + 40 := rfl
      have kl : ∀ (v : V) (t : Lf) (H' : Hp), Lf.ok C t → (∃ a u, v = .ref a ∧ newOf H H' a = some (.tup [.str "plain", .ref u]) ∧ newOf H H' u = some (.lst (Lf.vals t))) → PenAt H' p l (c + dT (n + 1)) → Kx p H H' → Q v H' := fun v t => k v (.inl t)
      rfl'
      by_cases hD0 : D = 0
      · subst hD0
        rw [show decide ((0 : Int) < ((0 : Nat) : Int)) = false from rfl]
        refine iteF ?_
        rfl'
        intro u x H1 ox eu nu hp1 k1
        have B1 := (B.drawn k1 hp1).addL eu
        rfl'
        rename_i a H2 B2
        exact kl (.ref a) x H2 ox ⟨a, u, rfl, newOf_tup (B2.ob 0 rfl), newOf_lst (B2.ob 1 rfl) nu⟩ (B2.pen.mono (by omega)) (B2.at_ 3)
      rw [show decide ((0 : Int) < (D : Int)) = true from decide_eq_true (by omega)]
      refine iteT ?_
      rfl'
      rename_i r H1 r0 r1 B1
      refine ite2 (fun c1 => ?_) (fun c1 => ?_)
      · rfl'
        refine ⟨B1.at_ 0, fun u x H2 ox eu nu hp2 k2 => ?_⟩
        have B2 := (B1.drawn k2 hp2).addL eu
        have nu2 : H u = none := B1.pen.free (B1.at_ 1) nu
        rfl'
        rename_i a H3 B3
        exact kl (.ref a) x H3 ox ⟨a, u, rfl, newOf_tup (B3.ob 0 rfl), newOf_lst (B3.ob 1 rfl) nu2⟩ (B3.pen.mono (by omega)) (B3.at_ 3)
      have c1 : ¬ r < 2 := fun z => c1 (decide_eq_true z)
      obtain ⟨D1, rfl⟩ : ∃ D1, D = D1 + 1 := ⟨D - 1, by omega⟩
      have eD1 : ((D1 + 1 : Nat) : Int) - 1 = (D1 : Int) := by omega
      rfl'
      refine ite2 (fun c3 => ?_) (fun c3 => ?_)
      · have c3 : r < 4 := of_decide_eq_true c3
        obtain ⟨b, w0, hr0, hb⟩ : ∃ (b : Bool) (w0 : Str), atI [V.str "not", V.str "in"] (r - 2) = some (V.str w0) ∧ w0 = (if b = true then ("in" : Str) else ("not" : Str)) := by
          rcases (by omega : r = 2 ∨ r = 3) with rfl | rfl
          · exact ⟨false, _, atI_nat (j := 0) rfl, rfl⟩
          · exact ⟨true, _, atI_nat (j := 1) rfl, rfl⟩
        rfl'
        rename_i q2 H2 B2
        refine ⟨p, l, q, D1, c + 1, ?_, by omega, by omega, B2.pen, by omega, qp, B2.at_ 1, fun v t H3 ot ht hp3 k3 => ?_⟩
        · show [V.ref p, V.ref q, V.int (((D1 + 1 : Nat) : Int) - 1)] = _
          rw [eD1]
        have kH2 : Kx p H H2 := B2.at_ 2
        have h3 : TrAt (newOf H H3) n t v := TrAt.mono (kd_in (dom_kx kH2 B2.pen)) n t v ht
        have B3 := (B2.drawn k3 hp3).add stay_tr h3
        clear ht h3
        rfl'
        rename_i a H4 B4
        refine k (.ref a) (.inr (.inl (b, t))) H4 ot ⟨a, v, rfl, newOf_tup ?_, B4.at_ 1⟩ (B4.pen.mono (by omega)) (B4.at_ 4)
        rw [← hb]
        exact B4.ob 0 rfl
      · have c3 : ¬ r < 4 := fun z => c3 (decide_eq_true z)
        obtain ⟨b, w0, hr0, hb⟩ : ∃ (b : Bool) (w0 : Str), atI [V.str "and", V.str "or", V.str "and"] (r - 4) = some (V.str w0) ∧ w0 = kinW b := by
          rcases (by omega : r = 4 ∨ r = 5 ∨ r = 6) with rfl | rfl | rfl
          · exact ⟨true, _, atI_nat (j := 0) rfl, rfl⟩
          · exact ⟨false, _, atI_nat (j := 1) rfl, rfl⟩
          · exact ⟨true, _, atI_nat (j := 2) rfl, rfl⟩
        rfl'
        rename_i q2 H2 B2 m H3 m0 m1 B3
        intro L hL
        have nL := B3.pen.new hL
        obtain ⟨HL, eHL⟩ : ∃ HL, HL = upd H3 L (.lst []) := ⟨_, rfl⟩
        have sHL : Same H3 HL := by
          rw [eHL]
          exact same_upd hL
        have fHL : HL L = some (.lst []) := by
          rw [eHL]
          exact upd_same
        have DL : HL L ≠ Option.none := by
          rw [fHL]
          intro z
          cases z
        have k03 : Kx p H H3 := B3.at_ 2
        have d0L : Dom H HL := (Dom.kx k03 B3.pen).trans (Dom.kx (kx_same sHL) (B3.pen.same sHL))
        have hL0 : H L = none := B3.pen.free k03 hL
        rw [← eHL]
        refine walk_w walk_range (fun j H' => PenAt H' p l (c + 2 + j * (1 + dT n)) ∧ Kx p H3 H' ∧ ∃ (ts : List (Tr n)) (us : List V), H' L = some (.lst us) ∧ ts.length = j ∧ Dom HL H' ∧ Paired (fun t v => TrAt (newOf HL H') n t v) ts us ∧ ∀ t ∈ ts, Tr.ok C n t) ⟨by rw [Nat.zero_mul]; exact B3.pen.same sHL, kx_same sHL, [], [], fHL, rfl, Dom.refl _, .nil, fun t ht => by cases ht⟩ (fun _ _ _ _ => trivial) ?_ ?_
        · rintro j x _ H7 hj ⟨p7, k7, ts, us7, e7, tl, d7, pf, fk⟩ ⟨rfl, rfl⟩
          have us7l : us7.length = j := by rw [← Paired.length pf]; exact tl
          have j3 : j < 3 := by omega
          have B7 := ((Bd.start p7).add stay_kx (k03.trans k7)).add (stay_pln qp) ((B3.at_ 1 : PlnAt H3 q C).kx B3.pen.dict.choose_spec k7 qp)
          have hj2 : j * (1 + dT n) ≤ 2 * (1 + dT n) := Nat.mul_le_mul_right _ (by omega)
          have C7 := (B7.add stay_kx (Kx.refl H7)).addL e7
          clear B7 B3 B2 B1 B
          refine ⟨rfl, ?_⟩
          refine yes_t ?_
          rfl'
          rename_i r8 H8 a8 b8 B8
          have k78 : Kx p H7 H8 := B8.at_ 1
          have e8 : H8 L = some (.lst us7) := B8.ob 0 rfl
          obtain ⟨kvs, hkd⟩ := p7.dict
          have pf8 : Paired (fun t v => TrAt (newOf HL H8) n t v) ts us7 := paired_map (fun t v z => TrAt.mono (kd_on (KdL.kx hkd k78)) n t v z) pf
          have d8 : Dom HL H8 := d7.trans (Dom.kx k78 B8.pen)
          refine ⟨p, l, q, r8.toNat, c + 2 + j * (1 + dT n) + 1, ?_, by omega, by omega, B8.pen, by omega, qp, B8.at_ 2, fun v t H9 ot ht hp9 k9 => ?_⟩
          · show [V.ref p, V.ref q, V.int r8] = _
            rw [show ((r8.toNat : Nat) : Int) = r8 by omega]
          have nn : (c + 2 + j * (1 + dT n) + 1 + dT n) = c + 2 + (j + 1) * (1 + dT n) := by
            rw [Nat.succ_mul]
            omega
          rw [nn] at hp9
          have e9 : H9 L = some (.lst us7) := B8.pen.keepL k9 e8
          refine ⟨us7, e9, by rw [us7l, sizeLine_eq]; omega, hp9.set nL.1 nL.2, kx_new (k7.trans (k78.trans k9)) hL, ts ++ [t], us7 ++ [v], upd_same, by rw [List.length_append, tl]; rfl, (d8.trans (Dom.kx k9 hp9)).trans Dom.upd, push_tree (R := fun H t v => TrAt H n t v) (fun t v z => TrAt.mono z n t v) DL d8 B8.pen k9 e8 pf8 ht, fun g hg => ?_⟩
          rcases List.mem_append.mp hg with hg | hg
          · exact fk g hg
          · rw [List.mem_singleton.mp hg]
            exact ot
        rintro H7 ⟨p7, k7, ts, us7, e7, tl, d7, pf, fk⟩
        have m2 : (1 + m).toNat ≤ 3 := by omega
        have hj2 : (1 + m).toNat * (1 + dT n) ≤ 3 * (1 + dT n) := Nat.mul_le_mul_right _ m2
        have B7 := (((Bd.start p7).add stay_kx (k03.trans k7)).add stay_kx (Kx.refl H7)).addL e7
        obtain ⟨kvs, hkd⟩ := p7.dict
        have pf2 : Paired (fun t v => TrAt (newOf H H7) n t v) ts us7 := paired_map (fun t v z => TrAt.mono (kd_in d0L) n t v z) pf
        have tn : ts ≠ [] := fun z => by
          rw [z] at tl
          have : (1 + m).toNat ≠ 0 := by omega
          exact this tl.symm
        clear B3 B2 B1 B
        rfl'
        rename_i a H8 B8
        have s78 : KdL (newOf H H7) (newOf H H8) := kd_on (KdL.kx hkd (B8.at_ 2))
        refine k (.ref a) (.inr (.inr (b, ts))) H8 ⟨⟨tn, by omega⟩, fk⟩ ⟨a, L, us7, rfl, newOf_tup ?_, newOf_lst (B8.ob 1 rfl) hL0, paired_map (fun t v z => TrAt.mono s78 n t v z) pf2⟩ (B8.pen.mono (by omega)) (B8.at_ 3)
        rw [← hb]
        exact B8.ob 0 rfl
  )]); intro f; simpa using My.gz f 5 true
theorem ok__law_tree (T : Tx K mg) {C : Cal} : ∀ n : Nat, FnR P w K mg base CX0 (5 + n + 1) (He.ga K "_law_tree") (sp_ltr C n)
  | 0 => ok__law_treeN T 0 (ok__law_tree_no T)
  | n + 1 => ok__law_treeN T (n + 1) (ok__law_tree T n)
end
end Lw
namespace Lw
open PySem PySem.Spec PyProof.Rows L2 My
section
variable {P : Program} {w : World} {K : Fg} {mg : Str → Option Value} {base : Heap}
def plO (y l h : Addr) (C : Cal) : List (Key × V) := [(.inr "years", .ref y), (.inr "lengths", .ref l), (.inr "week", natV C.week), (.inr "first", natV C.first), (.inr "holidays", .ref h)]
def sp_lwide : Sp := fun vs H Q _ => ∃ (p l : Addr) (n : Nat), vs = [.ref p] ∧ PenAt H p l n ∧ n + 100 ≤ 1000000000000 ∧
  ∀ (q : Addr) (C : Cal) (H' : Hp), PenAt H' p l (n + 100) → Kx p H H' → q ≠ p → PlnAt H' q C → C.wrkN C.per ≠ [] → C.per ≤ 800 → Q (.ref q) H'
theorem ok__law_wide (T : Tx K mg) : FnR P w K mg base CX0 4 (He.ga K "_law_wide") sp_lwide := by
  apply My.two; (focus intro zzI; simp only [↓ My.mkB zzI (by
  clear zzI
  refine (T.fnR 91 (st := s__law_wide) (at_ := fun K => He.ga K "_law_wide") rfl sc__law_wide (fun _ _ _ _ _ _ us hl => match us, hl with | [_], _ => rfl)) (fun vs H Q E h => ?_) (fun cdv A outer s H vs Q E hr h => ?_)
  · obtain ⟨p, l, n, rfl, _⟩ := h
    rfl
  · obtain ⟨p, l, n, rfl, hp, hn, k⟩ := h
    refine ⟨_, (pss_cons (ps_par (i := 1) (j := 2) (by rfl) sc__law_wide.nd rfl rfl (by decide) rfl rfl (pa_cons (pe_op op_add pe_int (c__law_draw T hr (pa_cons (pv 0) (pa_cons pe_int pa_nil)))) (pa_cons (pe_lc (own := [("_law_month", 4)]) rfl sc__law_wide.nd (pi_range1 rfl T.n_range (pa_cons (pe_op op_add pe_int (c__law_draw T hr (pa_cons (pv 0) (pa_cons pe_int pa_nil)))) pa_nil)) (blkOk_by (own := [("_law_month", 4)]) (N := N__law_wide) (sc := defScope s__law_wide) (by decide +kernel)) (fun _ _ _ _ _ => (pg_name (i := 4) sc__law_wide.nd rfl (Or.inl rfl))) (fun _ _ _ _ _ => pts_nil) (fun _ _ _ _ _ => (pe_op op_add pe_int (c__law_draw T hr (pa_cons (pv 0) (pa_cons pe_int pa_nil)))))) pa_nil)) (by rfl))
 (pss_cons (ps_set (i := 3) sc__law_wide.nd rfl (Or.inl rfl) (pe_disp (pps_cons pe_str (pe_lst (pa_cons (pv 2) pa_nil)) (pps_cons pe_str (pv 2) (pps_cons pe_str (pv 1) (pps_cons pe_str (c__law_draw T hr (pa_cons (pv 0) (pa_cons (pv 1) pa_nil))) (pps_cons pe_str (pe_lst pa_nil) pps_nil))))) (by rfl) (by rfl) (fun z => by cases z) (by decide)))
 (pss_cons (ps_dput (hu_of hr) (pv 3) pe_str (pe_slice (sll T) (c__law_shuffled T hr (pa_cons (pv 0) (pa_cons (pe_listRg (by rfl) (by rfl) T.n_list (prg_1 (by rfl) T.n_range (pv 1))) pa_nil))) po_none (po_some (c__law_draw T hr (pa_cons (pv 0) (pa_cons pe_int pa_nil))))) rfl)
 (pss_one (ps_ret (pv 3)))))), ?_⟩
    have B := (Bd.start hp).add stay_kx (Kx.refl H)
    rfl'
    rename_i r1 H1 a1 b1 B1 r2 H2 a2 b2 B2
    intro Lr hLr
    have pn2 := B2.pen
    refine walk_w walk_range (RowI H2 Lr p l (n + 2) 40) ⟨kx_same (same_upd hLr), pn2.same (same_upd hLr), [], upd_same, rfl, (fun r hr => by cases hr)⟩ (fun _ _ _ _ => trivial) ?_ ?_
    · rintro j x _ H3 hj I3 ⟨rfl, rfl⟩
      have B3 := (Bd.start I3.2.1).add stay_kx (Kx.refl H3)
      rfl'
      rename_i ra Ha ra0 ra1 Ba
      have := I3.push (x := 29 + ra.toNat) (Ba.at_ 0) Ba.pen hLr pn2 ⟨by omega, by omega⟩ (by omega)
      rw [show natV (29 + ra.toNat) = V.int (29 + ra) from congrArg V.int (by omega)] at this
      exact this
    rintro H3 ⟨k3, p3, row, eL, el, hz⟩
    have hLH : H Lr = none := B2.pen.free (B2.at_ 0 : Kx p H H2) hLr
    have B3 := (((Bd.start p3).add stay_kx ((B2.at_ 0 : Kx p H H2).trans k3)).addL eL).mono (show n + 2 + (1 + r2).toNat ≤ n + 5 by omega)
    obtain ⟨size, hsz⟩ : ∃ size : Nat, natV size = V.int (7 + r1) := ⟨7 + r1.toNat, congrArg V.int (by omega)⟩
    have hs1 := V.int.inj hsz
    clear B2 B1 B k3 p3 eL
    obtain ⟨BB, hBB⟩ : ∃ u : Unit → Bd H3 p l (n + 5) _, u = fun _ => B3 := ⟨_, rfl⟩
    clear B3 hBB
    rfl'
    rename_i q nq J1 s1 f1 y ny J2 s2 f2
    have B3 := BB ()
    have qpl := B3.pen.new nq
    have nqH : H q = none := B3.pen.free (B3.at_ 1 : Kx p H H3) nq
    have B4 := ((B3.same (s1.trans s2)).add (stay_dct qpl.1) (s2 _ _ f1)).addL f2
    refine ⟨B4.pen, by omega, by omega, by omega, fun bg Hg g0 g1 hpg kg => ?_⟩
    have B5 := B4.drawn kg hpg
    clear kg hpg B4 f1 f2 s1 s2 ny BB B3
    rfl'
    rename_i fr Hh Bh
    have hfi : V.int bg = natV bg.toNat := congrArg V.int (by omega)
    obtain ⟨C0, hC0⟩ : ∃ C : Cal, C = ⟨[row], size, bg.toNat, [], []⟩ := ⟨_, rfl⟩
    refine ⟨plO y Lr fr C0, ?_, by show 5 ≤ 15; decide, ?_⟩
    · rw [show (fun i j : Int => V.int (i + j)) 7 r1 = natV size from hsz.symm, hfi, hC0]
      rfl
    rw [show mergeK [] (plO y Lr fr C0) = plO y Lr fr C0 from rfl]
    have k12 : Kx p H (upd Hh q (.dK (plO y Lr fr C0))) := kx_new (Bh.at_ 4 : Kx p H Hh) nqH
    have p12 : PenAt (upd Hh q (.dK (plO y Lr fr C0))) p l (n + 5 + 1) := Bh.pen.set qpl.1 qpl.2
    have e12 : upd Hh q (.dK (plO y Lr fr C0)) q = some (.dK (plO y Lr fr C0)) := upd_same
    have eqh : Hh q = some (.dK []) := Bh.at_ 2
    have neq : ∀ {t : Addr} {xs : List V}, Hh t = some (.lst xs) → upd Hh q (.dK (plO y Lr fr C0)) t = some (.lst xs) := fun h => (upd_ne fun z => by rw [z, eqh] at h; cases h).trans h
    have ey := neq (Bh.ob 1 rfl)
    have efr := neq (Bh.ob 0 rfl)
    have eL := neq (Bh.ob 3 rfl)
    generalize upd Hh q (.dK (plO y Lr fr C0)) = H12 at k12 p12 e12 ey efr eL ⊢
    have B12 := ((((((Bd.start p12).add stay_kx k12).add (stay_dct qpl.1) e12).addL eL).addL ey).addL efr)
    clear Bh B5 neq eqh k12 p12 e12 ey efr eL
    rfl'
    rename_i qr Hi Bi
    have eqr : Hi qr = some (.lst (((List.range size).map fun i : Nat => (i : Int)).map V.int)) := by
      rw [← rgV_ints, hs1]
      exact Bi.at_ 0
    have lnr : ((List.range size).map fun i : Nat => (i : Int)).length = size := by rw [List.length_map, List.length_range]
    refine ⟨eqr, by rw [lnr]; omega, by rw [lnr]; omega, fun b ys Hj perm nb eb pen kx => ?_⟩
    rw [lnr] at pen
    have Bj := ((Bi.tl.drawn kx pen).mono (show n + 5 + 1 + size ≤ n + 20 by omega)).addL eb
    clear Bi B12 eqr kx pen eb
    rfl'
    rename_i rc Hk c0 c1 Bk qs Hl Bl
    obtain ⟨k3, hk3⟩ : ∃ k3 : Nat, rc = (k3 : Int) := ⟨rc.toNat, by omega⟩
    have eqs : Hl qs = some (.lst ((ys.take k3).map V.int)) := by
      have h := (Bl.at_ 0 : Hl qs = some (.lst (cutV (ys.map V.int) none (some rc))))
      rw [hk3, cut_to, mapInt_take] at h
      exact h
    obtain ⟨ds, hds⟩ : ∃ ds : List Int, ys.take k3 = ds := ⟨_, rfl⟩
    rw [hds] at eqs
    have dsm : ∀ x ∈ ds, 0 ≤ x ∧ x < (size : Int) := fun x hx => by
      rw [← hds] at hx
      obtain ⟨j, hj, rfl⟩ := List.mem_map.mp (perm.mem_iff.mp (List.mem_of_mem_take hx))
      have := List.mem_range.mp hj
      omega
    have dsn : ds.Nodup := by
      rw [← hds]
      refine (List.take_sublist k3 ys).nodup (perm.nodup_iff.mpr ?_)
      rw [List.nodup_iff_pairwise_ne, List.pairwise_map]
      exact List.nodup_range.imp fun h z => h (by omega)
    have dsl : ds.length ≤ 3 := by
      rw [← hds, List.length_take]
      omega
    have eqd : Hl q = some (.dK (plO y Lr fr C0)) := Bl.at_ 5
    have dp1 := DPut.k (k := .inr "rest") (v := .ref qs) eqd (by show 5 < sizeLine; decide)
    refine ⟨dp1, ?_⟩
    clear dp1
    obtain ⟨kv, hkv⟩ : ∃ kv, putK (plO y Lr fr C0) (.inr "rest") (.ref qs) = kv := ⟨_, rfl⟩
    have w1 : 7 ≤ size ∧ size ≤ 10 := by omega
    have l2 : 1 ≤ row.length ∧ row.length ≤ 2 := by omega
    have yo : YrOk [row] := ⟨by show 0 < 1; decide, by show 1 ≤ 400; decide, by show 0 < row.length; omega, by show row.length ≤ 14; omega, fun r hr => by rw [List.mem_singleton.mp hr]; rfl, fun r hr x hx => by rw [List.mem_singleton.mp hr] at hx; exact hz x hx⟩
    have fl : ([row] : List (List Nat)).flatten = row := by rw [List.flatten_cons, List.flatten_nil, List.append_nil]
    have sl : row.sum ≤ 80 := by
      have := My.sum_le (ls := row) (B := 40) fun x hx => (hz x hx).2
      omega
    have s0 : 0 < row.sum := sum_pos (by omega) fun x hx => (hz x hx).1
    have per : Nat.lcm ([row] : List (List Nat)).flatten.sum size ≤ 800 := by
      rw [fl]
      have h1 : Nat.lcm row.sum size ∣ row.sum * size := Nat.lcm_dvd (Nat.dvd_mul_right _ _) (Nat.dvd_mul_left _ _)
      have h2 := Nat.le_of_dvd (Nat.mul_pos s0 (by omega)) h1
      have h3 := Nat.mul_le_mul sl (show size ≤ 10 by omega)
      omega
    have okc : Cal.Ok ⟨[row], size, bg.toNat, ds, []⟩ := ⟨yo, by show 0 < size; omega, by show size ≤ 10; omega, by show bg.toNat < size; omega, dsm, dsn, by show ds.length < 64; omega, fun p hp => (by cases hp), by show ([] : List (Int × Int)).Nodup; exact List.nodup_nil, by show 0 < 64; decide, Nat.le_trans per (by decide)⟩
    have pw : PlW kv y Lr qs fr ⟨[row], size, bg.toNat, ds, []⟩ := by
      rw [← hkv, hC0]
      exact ⟨rfl, rfl, rfl, rfl, rfl, rfl⟩
    have nqs : ∀ {t : Addr} {xs : List V}, Hl t = some (.lst xs) → upd Hl q (.dK kv) t = some (.lst xs) := fun h => (upd_ne fun z => by rw [z, eqd] at h; cases h).trans h
    have pln : PlnAt (upd Hl q (.dK kv)) q ⟨[row], size, bg.toNat, ds, []⟩ := ⟨y, Lr, qs, fr, ⟨kv, upd_same, pw⟩, ⟨⟨[Lr], nqs (Bl.ob 3 rfl), .cons (nqs (Bl.ob 4 rfl)) .nil⟩, by
      show _ = some (HO.lst (([row] : List (List Nat)).flatten.map natV))
      rw [fl]
      exact nqs (Bl.ob 4 rfl), nqs eqs, ⟨[], nqs (Bl.ob 2 rfl), .nil⟩⟩, okc⟩
    have wk : Cal.wrkN ⟨[row], size, bg.toNat, ds, []⟩ (Cal.per ⟨[row], size, bg.toNat, ds, []⟩) ≠ [] := fun z => by
      obtain ⟨x, hx, nx⟩ : ∃ x : Int, (0 ≤ x ∧ x ≤ 3) ∧ x ∉ ds := by
        refine Classical.byContradiction fun q => ?_
        have sub : ([0, 1, 2, 3] : List Int) ⊆ ds := fun x hx => Classical.byContradiction fun nx => q ⟨x, by simp only [List.mem_cons, List.not_mem_nil, or_false] at hx; omega, nx⟩
        have := List.Nodup.length_le_of_subset (by decide : ([0, 1, 2, 3] : List Int).Nodup) sub
        have h4 : ([0, 1, 2, 3] : List Int).length = 4 := rfl
        omega
      obtain ⟨d, hd⟩ : ∃ d : Nat, (d : Int) = (x - bg) % (size : Int) := ⟨((x - bg) % (size : Int)).toNat, by
        have := Int.emod_nonneg (x - bg) (show (size : Int) ≠ 0 by omega)
        omega⟩
      have dl := Int.emod_lt_of_pos (x - bg) (show (0 : Int) < (size : Int) by omega)
      have ps : size ≤ Cal.per ⟨[row], size, bg.toNat, ds, []⟩ := Nat.le_of_dvd okc.p0 (Nat.dvd_lcm_right _ _)
      have hw : Cal.wkd ⟨[row], size, bg.toNat, ds, []⟩ (d : Int) = x := by
        show ((d : Int) + ((bg.toNat : Nat) : Int)) % (size : Int) = x
        rw [hd, show ((bg.toNat : Nat) : Int) = bg by omega, Int.emod_add_emod, Int.sub_add_cancel]
        exact Int.emod_eq_of_lt hx.1 (by omega)
      have : d ∈ Cal.wrkN ⟨[row], size, bg.toNat, ds, []⟩ (Cal.per ⟨[row], size, bg.toNat, ds, []⟩) := Cal.mem_wrkN.mpr ⟨by omega, by
        unfold Cal.isW
        rw [hw]
        show (!decide (x ∈ ds) && !decide (_ ∈ ([] : List (Int × Int)))) = true
        rw [decide_eq_false nx]
        simp⟩
      rw [z] at this
      cases this
    refine ⟨_, rfl, ?_⟩
    rw [hkv]
    exact k q ⟨[row], size, bg.toNat, ds, []⟩ _ ((Bl.pen.set qpl.1 qpl.2).mono (by omega)) (kx_new (Bl.at_ 6) nqH) qpl.1 pln wk per
  )]); intro f; simpa using My.gz f 5 true
theorem c__law_wide {X : Cx} {k : Nat} {t : TA} {e : Expr} {es : List Expr} {np pos : Pos} (T : Tx K mg) (hr : Room k X.A) (ha : PA X (e :: es) t) (hk : 4 ≤ k := by decide) (hK : X.K = K := by rfl) (hm : X.mg = mg := by rfl)
    (hg : Gl X "_law_wide" := by rfl) (hse : starEach (e :: es) X.env = (false, eval e X.env) :: starEach es X.env := by rfl) (hpl : (backTo pos (starEach es X.env)).any (·.1) = false := by rfl) :
    PE X (.Call (.Name "_law_wide" np) (e :: es) [] pos) (tFn sp_lwide E0 t) := by
  subst hK
  subst hm
  exact pe_fR (ok__law_wide T) T.kp__law_wide T.g__law_wide (hr.mono hk) pass0 ha hg (by decide) hse hpl
end
end Lw
namespace Lw
open PySem PySem.Spec PyProof.Rows L2 My
section
variable {P : Program} {w : World} {K : Fg} {mg : Str → Option Value} {base : Heap}
theorem Lf.holds_re {C : Cal} {rs : List Int} {ps : List (Int × Int)} (h1 : rs.Perm C.rest) (h2 : ps.Perm C.hol) (d : Int) (l : Lf) : l.holds (C.re rs ps) d = l.holds C d := by
  apply My.two; (focus intro zzI; simp only [↓ My.mkB zzI (by
  clear zzI
  cases l with
  | work => exact Cal.re_isW h1 h2 d
  | rest => exact congrArg not (Cal.re_isW h1 h2 d)
  | _ => rfl
  )]); intro f; simpa using My.gz f 5 true
theorem Pn.holds_re {C : Cal} {rs : List Int} {ps : List (Int × Int)} (h1 : rs.Perm C.rest) (h2 : ps.Perm C.hol) (d : Int) : ∀ (n : Nat) (p : Pn n), Pn.holds (C.re rs ps) n p d = Pn.holds C n p d
  | 0, l => Lf.holds_re h1 h2 d l
  | _ + 1, .inl l => Lf.holds_re h1 h2 d l
  | n + 1, .inr ts => by
    apply My.two; (focus intro zzI; simp only [↓ My.mkB zzI (by
    clear zzI
    have ih := Pn.holds_re h1 h2 d n
    show (ts.any fun t => t.all fun f => (f.1 % 2 == 1) ^^ Pn.holds (C.re rs ps) n f.2 d) = (ts.any fun t => t.all fun f => (f.1 % 2 == 1) ^^ Pn.holds C n f.2 d)
    simp only [ih]
    )]); intro f; simpa using My.gz f 5 true
theorem Cd.holds_re {C : Cal} {rs : List Int} {ps : List (Int × Int)} (h1 : rs.Perm C.rest) (h2 : ps.Perm C.hol) {n : Nat} (c : Cd n) (d : Int) : c.holds (C.re rs ps) d = c.holds C d := Pn.holds_re h1 h2 d (n + 1) (.inr c)
theorem Lf.ok_re {C : Cal} {rs : List Int} {ps : List (Int × Int)} {l : Lf} (h : l.ok C) : l.ok (C.re rs ps) := by cases l <;> exact h
theorem Pn.ok_re {C : Cal} {rs : List Int} {ps : List (Int × Int)} : ∀ (n : Nat) (p : Pn n), Pn.ok C n p → Pn.ok (C.re rs ps) n p
  | 0, _, h => Lf.ok_re h
  | _ + 1, .inl _, h => Lf.ok_re h
  | n + 1, .inr _, h => ⟨h.1, fun t ht => ⟨(h.2 t ht).1, fun f hf => Pn.ok_re n f.2 ((h.2 t ht).2 f hf)⟩⟩
theorem Cd.ok_re {C : Cal} {rs : List Int} {ps : List (Int × Int)} {n : Nat} {c : Cd n} (h : c.ok C) : c.ok (C.re rs ps) := Pn.ok_re (n + 1) (.inr c) h
theorem CalAt.keep {p l : Addr} {n : Nat} {H H' : Hp} {c : Addr} {C : Cal} (hp : PenAt H p l n) (k : Kx p H H') (h : CalAt K H c C) : CalAt K H' c C := by
  apply My.two; (focus intro zzI; simp only [↓ My.mkB zzI (by
  clear zzI
  obtain ⟨kvs, hk⟩ := hp.dict
  have L : ∀ {a : Addr} {xs : List V}, H a = some (.lst xs) → H' a = some (.lst xs) := fun h => k _ _ h (ne_dict hk h (by intro z; cases z))
  have U : ∀ {a : Addr} {xs : List V}, H a = some (.tup xs) → H' a = some (.tup xs) := fun h => k _ _ h (ne_dict hk h (by intro z; cases z))
  have R : ∀ {ts : List Addr} {rows : List (List Nat)}, RowsT H ts rows → RowsT H' ts rows := fun {ts rows} h => by
    induction h with
    | nil => exact .nil
    | cons h _ ih => exact .cons (U h) ih
  have Pr : ∀ {ts : List Addr} {ps : List (Int × Int)}, PrT H ts ps → PrT H' ts ps := fun {ts ps} h => by
    induction h with
    | nil => exact .nil
    | cons h _ ih => exact .cons (U h) ih
  obtain ⟨a, ⟨dx, ay, rr, fr, l, s, e, ⟨⟨t1, a1, a2⟩, b1, ⟨t2, c1, c2⟩, d1, e1⟩, ok⟩, wk, nw⟩ := h
  exact ⟨a, ⟨dx, ay, rr, fr, l, s, k _ _ e (ne_dict hk e (by intro z; cases z)), ⟨⟨t1, U a1, R a2⟩, U b1, ⟨t2, U c1, Pr c2⟩, L d1, L e1⟩, ok⟩, L wk, nw⟩
  )]); intro f; simpa using My.gz f 5 true
theorem stay_cal {p c : Addr} {C : Cal} : Stay p (fun H => CalAt K H c C) := fun _ _ _ _ hp k h => CalAt.keep hp k h
theorem stay_tr0 {p : Addr} {n : Nat} {t : Tr n} {v : V} : Stay p (fun H => TrAt H n t v) := fun H H' l c hp kx h => by
  obtain ⟨kvs, hk⟩ := hp.dict
  exact TrAt.mono (KdL.kx hk kx) _ _ _ h
theorem fn_ex {α : Type} {k : Nat} {f : Addr} {sp : α → Sp} (h : ∀ x, FnR P w K mg base CX0 k f (sp x)) : FnR P w K mg base CX0 k f (fun vs H Q E => ∃ x, sp x vs H Q E) := fun A outer s H us vs Q E hr e0 r z => z.elim fun x z => h x A outer s H us vs Q E hr e0 r z
def sp_ltrA : Sp := fun vs H Q E => ∃ C : Cal, sp_ltr C 6 vs H Q E
theorem ok__law_treeA (T : Tx K mg) : FnR P w K mg base CX0 12 (He.ga K "_law_tree") sp_ltrA := fn_ex fun C => ok__law_tree T (C := C) 6
theorem c__law_treeA {X : Cx} {k : Nat} {t : TA} {e : Expr} {es : List Expr} {np pos : Pos} (T : Tx K mg) (hr : Room k X.A) (ha : PA X (e :: es) t) (hk : 12 ≤ k := by decide) (hK : X.K = K := by rfl) (hm : X.mg = mg := by rfl)
    (hg : Gl X "_law_tree" := by rfl) (hse : starEach (e :: es) X.env = (false, eval e X.env) :: starEach es X.env := by rfl) (hpl : (backTo pos (starEach es X.env)).any (·.1) = false := by rfl) :
    PE X (.Call (.Name "_law_tree" np) (e :: es) [] pos) (tFn sp_ltrA E0 t) := by
  subst hK
  subst hm
  exact pe_fR (ok__law_treeA T) T.kp__law_tree T.g__law_tree (hr.mono hk) pass0 ha hg (by decide) hse hpl
def sp_lwA : Sp := fun vs H Q E => ∃ C : {C : Cal // C.Ok}, sp_lw C.1 6 vs H Q E
theorem ok__law_wordsA (T : Tx K mg) : FnR P w K mg base CX0 10 (He.ga K "_law_words") sp_lwA := fn_ex fun C => ok__law_words T C.2 6 (by decide)
theorem c__law_wordsA {X : Cx} {k : Nat} {t : TA} {e : Expr} {es : List Expr} {np pos : Pos} (T : Tx K mg) (hr : Room k X.A) (ha : PA X (e :: es) t) (hk : 10 ≤ k := by decide) (hK : X.K = K := by rfl) (hm : X.mg = mg := by rfl)
    (hg : Gl X "_law_words" := by rfl) (hse : starEach (e :: es) X.env = (false, eval e X.env) :: starEach es X.env := by rfl) (hpl : (backTo pos (starEach es X.env)).any (·.1) = false := by rfl) :
    PE X (.Call (.Name "_law_words" np) (e :: es) [] pos) (tFn sp_lwA E0 t) := by
  subst hK
  subst hm
  exact pe_fR (ok__law_wordsA T) T.kp__law_words T.g__law_words (hr.mono hk) pass0 ha hg (by decide) hse hpl
def sp_lhA : Sp := fun vs H Q E => sp_lh 6 vs H Q E
theorem ok__law_holdsA (T : Tx K mg) : FnR P w K mg base CX0 10 (He.ga K "_law_holds") sp_lhA := ok__law_holds T 6
theorem c__law_holdsA {X : Cx} {k : Nat} {t : TA} {e : Expr} {es : List Expr} {np pos : Pos} (T : Tx K mg) (hr : Room k X.A) (ha : PA X (e :: es) t) (hk : 10 ≤ k := by decide) (hK : X.K = K := by rfl) (hm : X.mg = mg := by rfl)
    (hg : Gl X "_law_holds" := by rfl) (hse : starEach (e :: es) X.env = (false, eval e X.env) :: starEach es X.env := by rfl) (hpl : (backTo pos (starEach es X.env)).any (·.1) = false := by rfl) :
    PE X (.Call (.Name "_law_holds" np) (e :: es) [] pos) (tFn sp_lhA E0 t) := by
  subst hK
  subst hm
  exact pe_fR (ok__law_holdsA T) T.kp__law_holds T.g__law_holds (hr.mono hk) pass0 ha hg (by decide) hse hpl
theorem two_plains {σ : L2.St} {H : Hp} {Q : VK} {p l : Addr} {n : Nat} {b : Bool} (h1 : σ[1]? = some (some (V.ref p))) (hp : PenAt H p l n) (hn : n + 100 ≤ 1000000000000)
    (h : ∀ (q : Addr) (C : Cal) (H' : Hp), PenAt H' p l (n + 100) → Kx p H H' → q ≠ p → PlnAt H' q C → C.wrkN C.per ≠ [] → C.per ≤ 800 → Q (.ref q) H') :
    if b = true then tFn sp_lwide E0 (tCons (tVar 1) tNil) σ H Q else tFn sp_lcal E0 (tCons (tVar 1) (tCons (tC (V.int 7)) tNil)) σ H Q := by
  apply My.two; (focus intro zzI; simp only [↓ My.mkB zzI (by
  clear zzI
  cases b
  · exact ⟨_, h1, p, l, 7, n, rfl, hp, hn, by decide, by decide, fun q C H' a b c d e f => h q C H' a b c d e (Nat.le_trans f.per (by decide))⟩
  · exact ⟨_, h1, p, l, n, rfl, hp, hn, fun q C H' a b c d e f => h q C H' a b c d e f⟩
  )]); intro f; simpa using My.gz f 5 true
theorem Tr.hold_add {C : Cal} (o : C.Ok) (n : Nat) (t : Tr n) (d k : Int) : Tr.hold C n t (d + (C.per : Int) * k) = Tr.hold C n t d := by
  rw [← (Tr.holds (C := C) (d + (C.per : Int) * k) n t).c, ← (Tr.holds (C := C) d n t).c, Cd.holds_add o]
theorem ok_law (T : Tx K mg) : LawG P w K mg 40 (He.ga K "law") := by
  apply My.two; (focus intro zzI; simp only [↓ My.mkB zzI (by
  clear zzI
  refine T.lawG 92 (st := s_law) (at_ := fun K => He.ga K "law") rfl sc_law (fun _ _ _ _ _ _ us hl => match us, hl with | [_], _ => rfl) (fun base cdv A outer s H a ns Q E hG hr hS hl k => ?_)
  refine ⟨_, (pss_cons (ps_set (i := 1) sc_law.nd rfl (Or.inl rfl) (c__law_pen T hr (pa_cons (pv 0) pa_nil)))
 (pss_cons (ps_for PassesOwn.never rfl (pi_range1 rfl T.n_range (pa_cons (pe_op op_add pe_int (pe_callB (call_min2 rfl) (by rfl) T.n_min (by decide +kernel) (pa_cons pe_int (pa_cons (pe_callB (len_k T) (by rfl) T.n_len (by decide +kernel) (pa_cons (pv 0) pa_nil)) pa_nil)))) pa_nil)) (pg_name (i := 2) sc_law.nd rfl (Or.inl rfl))
 (pss_cons (ps_set (i := 3) sc_law.nd rfl (Or.inr rfl) (pe_ifExp (pt_cmpR op_eq (c__law_draw T hr (pa_cons (pv 1) (pa_cons pe_int pa_nil))) pe_int (nomark _)) (c__law_wide T hr (pa_cons (pv 1) pa_nil)) (c__law_calendar T hr (pa_cons (pv 1) (pa_cons pe_int pa_nil)))))
 (pss_cons (ps_par (i := 4) (j := 5) (by rfl) sc_law.nd rfl rfl (by decide) rfl rfl (pa_cons (c__law_opened T hr (pa_cons (pv 3) pa_nil)) (pa_cons (c__law_cycle T hr (pa_cons (pv 3) pa_nil)) pa_nil)) (by rfl))
 (pss_one (ps_for PassesOwn.never rfl (pi_range1 rfl T.n_range (pa_cons pe_int pa_nil)) (pg_name (i := 6) sc_law.nd rfl (Or.inl rfl))
 (pss_cons (ps_set (i := 7) sc_law.nd rfl (Or.inr rfl) (c__law_treeA T hr (pa_cons (pv 1) (pa_cons (pv 3) (pa_cons (pe_ix (ixl T) (pe_lst (pa_cons pe_int (pa_cons pe_int pa_nil))) (pv 6) (fun _ _ => rfl)) pa_nil)))))
 (pss_cons (ps_set (i := 8) sc_law.nd rfl (Or.inl rfl) (pe_joinK T pe_str (c__law_wordsA T hr (pa_cons (pv 7) (pa_cons pe_int pa_nil)))))
 (pss_cons (ps_if (pt_cmpR op_gt (pe_op op_mul (pe_callB call_len (by rfl) T.n_len (by decide +kernel) (pa_cons (pv 8) pa_nil)) (pv 5)) pe_int (nomark _))
 (pss_one ps_continue)
 pss_nil)
 (pss_cons (ps_setLc (i := 9) (own := [("_law_day", 12)]) rfl sc_law.nd rfl rfl (sw_true rfl rfl rfl (by decide +kernel)) (pi_range1 rfl T.n_range (pa_cons (pv 5) pa_nil)) (blkOk_by (own := [("_law_day", 12)]) (N := N_law) (sc := defScope s_law) (by decide +kernel)) (fun _ _ _ _ _ => (pg_name (i := 12) sc_law.nd rfl (Or.inl rfl))) (fun _ _ _ _ _ => pts_nil) (fun _ _ _ _ _ => (c__law_holdsA T hr (pa_cons (pv 3) (pa_cons (pv 7) (pa_cons (pv 12) pa_nil))))))
 (pss_cons (ps_set (i := 10) sc_law.nd rfl (Or.inl rfl) (cm_read T hr (pe_glob (v := .ref (He.ga K "DaySet")) rfl T.g_DaySet rfl) (pa_cons (pv 4) (pa_cons (pv 8) pa_nil))))
 (pss_cons (ps_if (PW.pt (pw_or (pt_not (pt_val (c__law_is T hG hr (pa_cons (pv 10) (pa_cons (pv 9) pa_nil))))) (pw_or1 (pt_not (pt_cmpR (oD_eq T hr) (cmk_read_text_calendar T hr (pe_glob (v := .ref (He.ga K "DaySet")) rfl T.g_DaySet rfl) (pk_cons (pv 8) (pk_cons (pv 4) pk_nil))) (pv 10) (nomark _))))))
 (pss_one (ps_ret pe_bl))
 pss_nil)
 (pss_cons (ps_set (i := 11) sc_law.nd rfl (Or.inl rfl) (c__law_far T hr (pa_cons (pv 1) (pa_cons pe_int pa_nil))))
 (pss_one (ps_if (pt_cmpR op_ne (pe_callB (show_k T hG hr) (by rfl) T.n_repr (by decide +kernel) (pa_cons (pe_cmpR (oD_in T hr) (pv 11) (pv 10) (by rfl)) pa_nil)) (pe_callB (show_k T hG hr) (by rfl) T.n_repr (by decide +kernel) (pa_cons (c__law_holdsA T hr (pa_cons (pv 3) (pa_cons (pv 7) (pa_cons (pv 11) pa_nil)))) pa_nil)) (nomark _))
 (pss_one (ps_ret pe_bl))
 pss_nil))))))))))))))
 (pss_one (ps_ret pe_bl)))), ?_⟩
  refine ⟨_, rfl, a, ns, rfl, hS, fun p l H1 s1 hp0 hp => ?_⟩
  have hS1 := sqL_same hS s1
  rfl'
  obtain ⟨N, hN, hN2⟩ : ∃ N : Nat, (2 + if (((ns.map V.int).length : Nat) : Int) < 4 then (((ns.map V.int).length : Nat) : Int) else 4).toNat = N ∧ N ≤ 10 := ⟨_, rfl, by split <;> omega⟩
  rw [hN]
  clear hN
  refine for_range (n := N) (fun i σ H' => ∃ v2 v3 v4 v5 v6 v7 v8 v9 v10 v11 v12 : Option V, σ = [some (.ref a), some (.ref p), v2, v3, v4, v5, v6, v7, v8, v9, v10, v11, v12] ∧ PenAt H' p l (100000 * i)) ⟨_, _, _, _, _, _, _, _, _, _, _, rfl, hp⟩ ?_ ?_
  · rintro i σ H2 hi ⟨v2, v3, v4, v5, v6, v7, v8, v9, v10, v11, v12, rfl, hp2⟩
    clear hS hl hp hp0 s1 hS1
    have B2 := Bd.start hp2
    rfl'
    rename_i r H3 r0 r1 B3
    refine two_plains rfl B3.pen (by omega) fun q C H4 hp4 k4 qp pl nw per => ?_
    have ok := pl.ok
    have hw : C.works ≠ [] := by
      unfold Cal.works
      rw [if_pos (by omega)]
      exact nw
    have B4 := (Bd.start hp4).add (stay_pln qp) pl
    clear B3 B2 hp2 hp4 k4
    refine ⟨_, rfl, q, C, rfl, pl, hw, fun c rs ps H5 s5 nc ca rp1 rp2 rp3 rp4 => ?_⟩
    have B5 := (B4.same s5).add stay_cal ca
    clear B4 pl nc ca
    refine ⟨_, rfl, q, C, rfl, B5.at_ 1, ?_⟩
    rfl'
    refine for_range (n := 2) (fun j σ H' => ∃ v6 v7 v8 v9 v10 v11 v12 : Option V, σ = [some (.ref a), some (.ref p), some (.int (0 + (i : Int))), some (.ref q), some (.ref c), some (.int (C.per : Int)), v6, v7, v8, v9, v10, v11, v12] ∧ Bd H' p l (100000 * i + 101 + 40000 * j) [fun H => CalAt K H c (C.re rs ps), fun H => PlnAt H q C]) ⟨_, _, _, _, _, _, _, rfl, B5⟩ ?_ ?_
    · clear B5
      rintro j σ H6 hj ⟨v6, v7, v8, v9, v10, v11, v12, rfl, B6⟩
      obtain ⟨D, hD, hD6⟩ : ∃ D : Nat, atI [V.int 3, V.int 6] (0 + (j : Int)) = some (V.int (D : Int)) ∧ D ≤ 6 := by
        match j, hj with
        | 0, _ => exact ⟨3, atI_nat (j := 0) rfl, by decide⟩
        | 1, _ => exact ⟨6, atI_nat (j := 1) rfl, by decide⟩
      have d6 : dT 6 = 36430 := rfl
      rfl'
      rename_i q7 H7 B7
      refine ⟨B7.at_ 2, fun v t H8 ot ht hp8 k8 => ?_⟩
      rw [d6] at hp8
      have B8 := ((B7.drawn k8 hp8).last (Fs := [_]) (Gs := [_, _])).add stay_tr ht
      clear B7 B6 k8 hp8 ht
      have tw := Tr.words 6 t
      have th := fun d => Tr.holds (C := C) d 6 t
      have tok := Tr.oks 6 t ot
      have wl := Tr.wrd_len 6 t 0 ot
      have w4 : wB 6 = 4007 := rfl
      rw [w4] at wl
      obtain ⟨x, hx⟩ : ∃ x : Cd 6, x = (Tr.cv 6 t).c := ⟨_, rfl⟩
      have ew : Tr.wrd 6 t 0 = Cd.words x := by
        rw [hx]
        exact tw.c.symm
      have xok : x.ok C := by
        rw [hx]
        exact tok.c
      have xh : ∀ d, Cd.holds C x d = Tr.hold C 6 t d := fun d => by
        rw [hx]
        exact (th d).c
      clear hx tw th tok
      have tr8 : TrAt H8 6 t v := TrAt.mono newOf_sub 6 t v (B8.at_ 0)
      refine ⟨⟨_, rfl⟩, ?_⟩
      rfl'
      refine ⟨(show Tr.ok (⟨C, ok⟩ : {C : Cal // C.Ok}).1 6 t from ot), fun b H9 s9 nb eb => ?_⟩
      rw [ew] at eb wl
      have B9 := B8.same s9
      have tr9 : TrAt H9 6 t v := TrAt.mono (KdL.of s9) 6 t v tr8
      clear B8 tr8 s9 nb
      obtain ⟨_, jl, sl⟩ := join_split_ok (Cd.words_ok ok xok) (Cd.words_ne xok) (by omega)
      refine ⟨_, b, Cd.words x, rfl, rfl, .inl (SqL.of eb), Nat.le_trans sl (by decide), ?_⟩
      have cm : CMul ((Txt.join " " (Cd.words x)).length : Int) (C.per : Int) := .inr ⟨by omega, by omega⟩
      obtain ⟨tx, htx⟩ : ∃ tx, Txt.join " " (Cd.words x) = tx := ⟨_, rfl⟩
      rw [htx] at jl cm ⊢
      clear sl eb
      have wlx : (Cd.words x).length ≤ 20000 := by omega
      rfl'
      refine ⟨⟨Nat.le_trans jl (by decide), rfl⟩, ?_⟩
      rfl'
      refine ite2 (fun cc => ?_) (fun cc => ?_)
      · exact ⟨_, _, _, _, _, _, _, rfl, B9.tl.mono (by omega)⟩
      generalize hZ : (List.set _ _ _ : L2.St) = Z
      have eZ : Z = [some (.ref a), some (.ref p), some (.int (0 + (i : Int))), some (.ref q), some (.ref c), some (.int (C.per : Int)), some (.int (0 + (j : Int))), some v, some (.str tx), v9, v10, v11, v12] := by
        rw [← hZ]
        rfl
      subst eZ
      clear hZ cc cm hD d6 w4 wl
      rfl'
      obtain ⟨r, hrr⟩ : ∃ r : List Int, ((List.range C.per).map fun i : Nat => if x.holds C (i : Int) = true then (1 : Int) else 0) = r := ⟨_, rfl⟩
      have rl : r.length = C.per := by rw [← hrr, List.length_map, List.length_range]
      have rg : ∀ i : Nat, i < C.per → r[i]? = some (if x.holds C (i : Int) = true then 1 else 0) := fun i hi => by
        rw [← hrr, List.getElem?_map, List.getElem?_range hi]
        rfl
      have rb : Bits r := fun z hz => by
        rw [← hrr] at hz
        obtain ⟨i, _, rfl⟩ := List.mem_map.mp hz
        split
        · exact .inr rfl
        · exact .inl rfl
      have p0 := ok.p0
      intro D9 hD9
      refine walk_w walk_range (fun k H' => Same H9 H' ∧ H' D9 = some (.lst ((r.take k).map vB))) ⟨same_upd hD9, upd_same⟩ (fun _ _ _ _ => trivial) ?_ ?_
      · rintro k y _ H10 hk ⟨s10, e10⟩ ⟨rfl, rfl⟩
        rw [Int.toNat_natCast] at hk
        refine ⟨rfl, ?_⟩
        refine yes_t ?_
        refine ⟨_, rfl, _, rfl, _, rfl, q, v, C, t, _, rfl, (B9.at_ 2 : PlnAt H9 q C).same s10, TrAt.mono (KdL.of s10) 6 t v tr9, ot, fun H11 s11 => ?_⟩
        refine ⟨_, s11 _ _ e10, by rw [List.length_map, List.length_take, sizeLine_eq]; omega, same_under (s10.trans s11) hD9, ?_⟩
        rw [upd_same, List.take_add_one, rg k hk, List.map_append]
        show some (HO.lst (_ ++ [V.bl (Tr.hold C 6 t (0 + (k : Int)))])) = _
        rw [Int.zero_add, ← xh]
        cases x.holds C (k : Int) <;> rfl
      rintro H10 ⟨s10, e10⟩
      rw [Int.toNat_natCast, ← rl, List.take_length] at e10
      have n9 : D9 ≠ p ∧ D9 ≠ l := B9.pen.new hD9
      have B10 := (B9.tl.same s10).addL e10
      have tr10 : TrAt H10 6 t v := TrAt.mono (KdL.of s10) 6 t v tr9
      clear B9 tr9 s10 hD9
      subst htx
      have xok2 : x.ok (C.re rs ps) := Cd.ok_re xok
      have per2 : (C.re rs ps).per ≤ 4000 := Nat.le_trans (show C.per ≤ 800 from per) (by decide)
      have er : ((List.range (C.re rs ps).per).map fun i : Nat => if x.holds (C.re rs ps) (i : Int) = true then (1 : Int) else 0) = r := by
        rw [← hrr]
        show (List.range C.per).map _ = _
        refine List.map_congr_left fun i _ => ?_
        rw [Cd.holds_re rp1 rp3]
      have r0 : 0 < r.length := by omega
      have r2 : r.length ≤ 200000 := by omega
      refine ⟨rfl, _, rfl, _, rfl, c, C.re rs ps, x, rfl, (B10.at_ 1 : CalAt K H10 c (C.re rs ps)).x, xok2, wlx, per2, fun s11a H11 s11 ns11 sa11 => ?_⟩
      rw [er] at sa11
      have B11 := B10.same s11
      have tr11 := TrAt.mono (KdL.of s11) 6 t v tr10
      clear B10 tr10
      refine ⟨_, rfl, _, rfl, s11a, D9, r, rfl, sa11, B11.ob 0 rfl, rb, r0, r2, fun H12 s12 => ?_⟩
      have B12 := B11.same s12
      have tr12 := TrAt.mono (KdL.of s12) 6 t v tr11
      have sa12 := sa11.same s12
      clear B11 tr11 sa11
      refine ⟨_, rfl, ?_⟩
      refine iteF ?_
      refine ⟨rfl, _, rfl, _, rfl, rfl, c, C.re rs ps, x, rfl, (B12.at_ 1 : CalAt K H12 c (C.re rs ps)).x, xok2, wlx, per2, fun s13a H13 s13 ns13 sa13 => ?_⟩
      rw [er] at sa13
      have B13 := B12.same s13
      have tr13 := TrAt.mono (KdL.of s13) 6 t v tr12
      have sb13 := sa12.same s13
      clear B12 tr12 sa12
      obtain ⟨ra, ⟨dxa, la, ta, ia, ia2, ia3⟩, _⟩ := id sa13
      obtain ⟨rb2, ⟨dxb, lb, tb, ib, ib2, ib3⟩, _⟩ := id sb13
      refine ⟨_, rfl, s13a, dxa, _, s11a, DS K, dxb, _, rfl, rfl, ia, ib, T.fst_DS.2, s13a, s11a, _, _, rfl, sa13, sb13, fun bb hbb => ?_⟩
      obtain rfl : bb = true := hbb.mpr rfl
      refine ⟨_, rfl, ?_⟩
      refine iteF ?_
      have B14 := ((B13.addS sb13).add stay_tr0 tr13).add (F := fun H => H s11a = some (.ins (DS K) dxb (sfs lb tb))) stay_ins ib
      clear ia ia2 ia3 ib ib2 ib3 sa13 hbb B13 sb13 tr13
      rfl'
      rename_i y H15 yb B15
      have ho : off r y = if Tr.hold C 6 t y = true then 1 else 0 := by
        have g1 := off_get r0 y
        have m0 := Int.emod_nonneg y (show (r.length : Int) ≠ 0 by omega)
        have m1 := Int.emod_lt_of_pos y (show (0 : Int) < (r.length : Int) by omega)
        rw [rg (y % (r.length : Int)).toNat (by omega)] at g1
        rw [← Option.some.inj g1, Int.toNat_of_nonneg m0, xh, rl]
        have dm := Int.emod_add_mul_ediv y (C.per : Int)
        rw [show Tr.hold C 6 t y = Tr.hold C 6 t (y % (C.per : Int) + (C.per : Int) * (y / (C.per : Int))) by rw [dm], Tr.hold_add ok]
      have hvb : decide (off r y = 1) = Tr.hold C 6 t y := by
        rw [ho]
        cases Tr.hold C 6 t y <;> rfl
      rw [if_neg Bool.false_ne_true, hvb]
      refine show_any (v := .bl (Tr.hold C 6 t y)) (B := 0) (.bl _) (.bl _) (by decide) (by decide) (by decide) ?_
      refine ⟨_, rfl, _, rfl, _, rfl, q, v, C, t, y, rfl, B15.at_ 5, B15.at_ 1, ot, fun H16 s16 => ?_⟩
      refine show_any (v := .bl (Tr.hold C 6 t y)) (B := 0) (.bl _) (.bl _) (by decide) (by decide) (by decide) ?_
      refine ⟨rfl, _, rfl, ?_⟩
      refine iteNS rfl ?_
      exact ⟨_, _, _, _, _, _, _, rfl, ((B15.same s16).last (Fs := [_, _, _, _]) (Gs := [_, _])).mono (by omega)⟩
    · rintro σ H6 ⟨v6, v7, v8, v9, v10, v11, v12, rfl, B6⟩
      exact ⟨_, _, _, _, _, _, _, _, _, _, _, rfl, B6.pen.mono (by omega)⟩
  · rintro σ HA ⟨v2, v3, v4, v5, v6, v7, v8, v9, v10, v11, v12, rfl, B⟩
    exact k HA
  )]); intro f; simpa using My.gz f 5 true
end
end Lw
end
set_option maxHeartbeats 0
open PySem PySem.W PySem.Calls PyProof.Rows
theorem PySem.Challenge.cw_dayrecipes_k52_whole_sets_of_texts_holds : PySem.Challenge.rw_dayrecipes_k52_whole_sets_of_texts.Holds := by
  w_on; o_law
  refine HandSHeadRun.head_any (r := OpenLaw.row PySem.Challenge.rw_dayrecipes_k52_whole_sets_of_texts) (q := view (OpenLaw.row PySem.Challenge.rw_dayrecipes_k52_whole_sets_of_texts).prog [86]) (H := Hd.hk) (ob := Hd.ob) (M := 20000) (loose := Hd.loose) (d := HandSHeadRun.topDef (OpenLaw.row PySem.Challenge.rw_dayrecipes_k52_whole_sets_of_texts).prog 86) (kwd := []) Hd.ob_eq
    (by kernel_rfl) (fun s => by kernel_rfl) Hd.run (by kernel_rfl) (by kernel_rfl) (by kernel_rfl) (by rfl) (by first | assumption | decide +kernel) (by decide +kernel) ⟨rfl, rfl, rfl, rfl, rfl, by decide +kernel⟩ ?hw ?hc
  case hw => w_witness2
  case hc =>
    refine My.walkG (l := PySem.Challenge.rw_dayrecipes_k52_whole_sets_of_texts) (n := 63) (k := 40) rfl (by decide) (by kernel_rfl) ⟨rfl, by decide, by decide⟩ ?F
    intro w mg fa h Y G hmg0
    obtain ⟨K, KX, c⟩ := Y
    have hmg : mg ("law" : PySem.Str) = some (.ref fa) := by
      have e : (HandSHeadRun.topDef (OpenLaw.row PySem.Challenge.rw_dayrecipes_k52_whole_sets_of_texts).prog 86).name = ("law" : PySem.Str) := by kernel_rfl
      rw [← e]
      exact hmg0
    have T : Lw.Tx K mg := ⟨⟨h, KX, G⟩, c⟩
    cases hmg.symm.trans T.g_law
    exact ⟨K, KX, Lw.ok_law (P := (PySem.Challenge.rw_dayrecipes_k52_whole_sets_of_texts).prog) (w := w) T⟩
