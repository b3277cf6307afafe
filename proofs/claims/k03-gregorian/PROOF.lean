import PyProof.Rows.All
import Wide.All
import OpenK.AllK
import Wide.FinOn
import HandS.ForMost
import HandS.IsInst
import HandS.Property
import HandS.ClsMeth
import HandS.Star
import HandS.SlotsOwn
import HandS.NoneIn
import HandS.TupMul
import HandS.Conv
import HandS.RaiseMore
import HandS.Walk
import HandS.Style
import HandS.HeadNt
import HandS.HeadEnd
import HandS.Head2
import PyProof.ReprRoads
import HandS.FStrTup
import KE.GoesMore
import KE.GoesEnum
import HandS.Iter
import KE.KOpsOwn
import HandS.Wide
import HandS.MakeKwOnly
import PyProof.LongRange
import HandS.Zip
import HandS.SetFor
import HandS.DictComp
import HandS.Records
import KE.KDictZip
import PyProof.Draws
import KE.GoesZip
import PyProof.Rows.Range3
import HandS.More
import HandS.SetBool
import HandS.Strs
import HandS.SortInts
import HandS.Text
import HandS.Exc
import HandS.ExcIs
import HandS.ExcField
import HandS.ExcValue
import KE.KExcIs
import HandS.ExcInit
import HandS.SortKw
import PyProof.WalkInts
import KE.KMinKey
import KE.KExcInit
import HandS.Lambda
import KE.LtSeq
import KE.LtData
import KE.KSortAsk
import HandS.NamedTupSort
import PyProof.MaxThree
import HandS.TupAny
import HandS.MakeKw
import KE.KStateDown
import PySem.Challenge.RW_dayrecipes_k03_gregorian_calendar
import HandS.TupSets
import HandS.Deep
import PyProof.TupleOfSeq
import PyProof.DictUpdate
import HandS.FStr
import HandS.StrMore
import HandS.Codes
import KE.IntTextLaws
import PyProof.SumWalk
import PyProof.Rows.SeqMore
import HandS.FltList
import PyProof.Rows.StrIntSpec
import PyProof.FString3
import PyProof.Rows.StrPadFill
set_option Elab.async false
set_option linter.all false
set_option maxRecDepth 100000
set_option maxHeartbeats 40000000
namespace My
structure Wg (α : Type) where
  n : Bool
instance wgCoe : Coe Bool (Wg Nat) := ⟨fun n => ⟨n⟩⟩
inductive Qz : Prop
theorem gz (f : False) {α : Type} (_ : α) (_ : Wg α) : False := f
structure Bx (p : Prop) : Prop where
  h : p
theorem two {p : Prop} (h : (p → p) → Bx p) (_ : False → Qz) : p := (h id).h
theorem mkB {p : Prop} (_ : p → p) (h : p) : Bx p := ⟨h⟩
end My
namespace My
/-- f repeats with d -/
def Per (f : Int → Int) (d : Nat) : Prop := ∀ x : Int, f (x + (d : Int)) = f x
theorem Per.zero {f : Int → Int} : Per f 0 := fun x => by simp
theorem Per.mulN {f : Int → Int} {d : Nat} (h : Per f d) (k : Nat) : Per f (d * k) := by
  apply My.two; (focus intro zzI; simp only [↓ My.mkB zzI (by
  clear zzI
  induction k with
  | zero => intro x; simp
  | succ k ih =>
    intro x
    have e : x + ((d * (k + 1) : Nat) : Int) = (x + ((d * k : Nat) : Int)) + (d : Int) := by
      rw [Nat.mul_succ]; omega
    rw [e, h, ih]
  )]); intro f; simpa using My.gz f 5 true
theorem Per.dvd {f : Int → Int} {d e : Nat} (h : Per f d) (hd : d ∣ e) : Per f e := by
  obtain ⟨k, rfl⟩ := hd
  exact h.mulN k
theorem Per.back {f : Int → Int} {d : Nat} (h : Per f d) (x : Int) : f (x - (d : Int)) = f x := by
  apply My.two; (focus intro zzI; simp only [↓ My.mkB zzI (by
  clear zzI
  have := h (x - d)
  rw [Int.sub_add_cancel] at this
  exact this.symm
  )]); intro f; simpa using My.gz f 5 true
theorem Per.mulI {f : Int → Int} {d : Nat} (h : Per f d) (x k : Int) : f (x + (d : Int) * k) = f x := by
  apply My.two; (focus intro zzI; simp only [↓ My.mkB zzI (by
  clear zzI
  rcases Int.le_total 0 k with hk | hk
  · have e := h.mulN k.toNat x
    have e2 : ((d * k.toNat : Nat) : Int) = (d : Int) * k := by
      rw [Int.natCast_mul, Int.toNat_of_nonneg hk]
    rw [e2] at e
    exact e
  · have e := (h.mulN (-k).toNat).back x
    have e2 : ((d * (-k).toNat : Nat) : Int) = -((d : Int) * k) := by
      rw [Int.natCast_mul, Int.toNat_of_nonneg (by omega), Int.mul_neg]
    rw [e2] at e
    have e3 : x - -((d : Int) * k) = x + (d : Int) * k := by omega
    rw [e3] at e
    exact e
  )]); intro f; simpa using My.gz f 5 true
theorem Per.emod {f : Int → Int} {d : Nat} (h : Per f d) (x : Int) : f (x % (d : Int)) = f x := by
  apply My.two; (focus intro zzI; simp only [↓ My.mkB zzI (by
  clear zzI
  have e := h.mulI (x % (d : Int)) (x / (d : Int))
  rw [Int.emod_add_mul_ediv] at e
  exact e.symm
  )]); intro f; simpa using My.gz f 5 true
theorem Per.mod {f : Int → Int} {a b : Nat} (ha : Per f a) (hb : Per f b) : Per f (a % b) := by
  apply My.two; (focus intro zzI; simp only [↓ My.mkB zzI (by
  clear zzI
  intro x
  have e : x + (a : Int) = (x + ((a % b : Nat) : Int)) + (b : Int) * ((a / b : Nat) : Int) := by
    have := Nat.mod_add_div a b
    have h2 : ((a % b + b * (a / b) : Nat) : Int) = (a : Int) := by rw [this]
    rw [Int.natCast_add, Int.natCast_mul] at h2
    omega
  have h1 := ha x
  rw [e, hb.mulI] at h1
  exact h1
  )]); intro f; simpa using My.gz f 5 true
theorem Per.gcd {f : Int → Int} (a b : Nat) : Per f a → Per f b → Per f (Nat.gcd a b) := by
  apply My.two; (focus intro zzI; simp only [↓ My.mkB zzI (by
  clear zzI
  induction a, b using Nat.gcd.induction with
  | H0 n => intro _ hb; rw [Nat.gcd_zero_left]; exact hb
  | H1 m n hm ih =>
    intro ha hb
    rw [Nat.gcd_rec]
    exact ih (hb.mod ha) ha
  )]); intro f; simpa using My.gz f 5 true
/-- n days from day 0 on -/
def tab (n : Nat) (f : Int → Int) : List Int := (List.range n).map fun (i : Nat) => f (i : Int)
/-- the offset of a list at a date -/
def off (r : List Int) (x : Int) : Int := r.getD (x % (r.length : Int)).toNat 0
theorem off_get {r : List Int} (h : 0 < r.length) (x : Int) : r[(x % (r.length : Int)).toNat]? = some (off r x) := by
  apply My.two; (focus intro zzI; simp only [↓ My.mkB zzI (by
  clear zzI
  have h1 : 0 ≤ x % (r.length : Int) := Int.emod_nonneg _ (by omega)
  have h2 : x % (r.length : Int) < r.length := Int.emod_lt_of_pos _ (by omega)
  have h3 : (x % (r.length : Int)).toNat < r.length := by omega
  unfold off
  rw [List.getD_eq_getElem?_getD, List.getElem?_eq_getElem h3]
  rfl
  )]); intro f; simpa using My.gz f 5 true
/-- d is the least period -/
structure Least (f : Int → Int) (d : Nat) : Prop where
  pos : 0 < d
  per : Per f d
  dvd : ∀ e : Nat, 0 < e → Per f e → d ∣ e
theorem Least.uniq {f : Int → Int} {d e : Nat} (a : Least f d) (b : Least f e) : d = e :=
  Nat.dvd_antisymm (a.dvd e b.pos b.per) (b.dvd d a.pos a.per)
/-- rows stand for f with its least period -/
structure Rows (f : Int → Int) (r : List Int) : Prop where
  least : Least f r.length
  eq : r = tab r.length f
structure LpInv (f : Int → Int) (n found rest prime : Nat) : Prop where
  rpos : 0 < rest
  rdv : rest ∣ found
  fdv : found ∣ n
  fpos : 0 < found
  per : Per f found
  p2 : 2 ≤ prime
  low : ∀ q, 2 ≤ q → q < prime → ¬ q ∣ rest
  goal : ∀ g, 0 < g → Per f g → found ∣ g * rest
  ple : 1 < rest → prime ≤ rest
theorem LpInv.done {f : Int → Int} {n found rest prime : Nat} (I : LpInv f n found rest prime) (h : ¬ 1 < rest) : Least f found := by
  apply My.two; (focus intro zzI; simp only [↓ My.mkB zzI (by
  clear zzI
  have e : rest = 1 := by have := I.rpos; omega
  subst e
  exact ⟨I.fpos, I.per, fun e he hp => by have := I.goal e he hp; rw [Nat.mul_one] at this; exact this⟩
  )]); intro f; simpa using My.gz f 5 true
section
variable {f : Int → Int} {n found rest prime : Nat}
theorem LpInv.div_low (I : LpInv f n found rest prime) (hd : prime ∣ rest) : ∀ q, 2 ≤ q → q < prime → ¬ q ∣ rest / prime := by
  intro q h1 h2 h3
  exact I.low q h1 h2 (Nat.dvd_trans h3 (Nat.div_dvd_of_dvd hd))
theorem LpInv.ple' (I : LpInv f n found rest prime) (hd : prime ∣ rest) : 1 < rest / prime → prime ≤ rest / prime := by
  apply My.two; (focus intro zzI; simp only [↓ My.mkB zzI (by
  clear zzI
  intro h1
  rcases Nat.lt_or_ge (rest / prime) prime with h | h
  · exact absurd (Nat.dvd_refl _) (I.div_low hd (rest / prime) (by omega) h)
  · exact h
  )]); intro f; simpa using My.gz f 5 true
theorem LpInv.yes (I : LpInv f n found rest prime) (hd : prime ∣ rest) (hp : Per f (found / prime)) : LpInv f n (found / prime) (rest / prime) prime := by
  apply My.two; (focus intro zzI; simp only [↓ My.mkB zzI (by
  clear zzI
  have p2 := I.p2
  have hpf : prime ∣ found := Nat.dvd_trans hd I.rdv
  obtain ⟨r', rfl⟩ := hd
  obtain ⟨f', rfl⟩ := hpf
  have pp : 0 < prime := by omega
  have er : prime * r' / prime = r' := Nat.mul_div_cancel_left _ pp
  have ef : prime * f' / prime = f' := Nat.mul_div_cancel_left _ pp
  have hl := I.div_low (Nat.dvd_mul_right _ _)
  have hple := I.ple' (Nat.dvd_mul_right _ _)
  rw [er] at hl hple ⊢
  rw [ef] at hp ⊢
  refine ⟨?_, ?_, ?_, ?_, hp, p2, hl, ?_, hple⟩
  · exact Nat.pos_of_ne_zero fun e => by have := I.rpos; rw [e] at this; simp at this
  · exact Nat.dvd_of_mul_dvd_mul_left pp I.rdv
  · exact Nat.dvd_trans (Nat.dvd_mul_left _ _) I.fdv
  · exact Nat.pos_of_ne_zero fun e => by have := I.fpos; rw [e] at this; simp at this
  · intro g h1 h2
    have := I.goal g h1 h2
    rw [show g * (prime * r') = prime * (g * r') by rw [Nat.mul_left_comm]] at this
    exact Nat.dvd_of_mul_dvd_mul_left pp this
  )]); intro f; simpa using My.gz f 5 true
theorem LpInv.no (I : LpInv f n found rest prime) (hd : prime ∣ rest) (hp : ¬ Per f (found / prime)) : LpInv f n found (rest / prime) prime := by
  apply My.two; (focus intro zzI; simp only [↓ My.mkB zzI (by
  clear zzI
  have p2 := I.p2
  have hpf : prime ∣ found := Nat.dvd_trans hd I.rdv
  have hl := I.div_low hd
  have hple := I.ple' hd
  have rdv' : rest / prime ∣ found := Nat.dvd_trans (Nat.div_dvd_of_dvd hd) I.rdv
  have rpos' : 0 < rest / prime := Nat.div_pos (Nat.le_of_dvd I.rpos hd) (by omega)
  refine ⟨rpos', rdv', I.fdv, I.fpos, I.per, p2, hl, ?_, hple⟩
  intro g h1 h2
  have hg' : Per f (Nat.gcd g found) := Per.gcd g found h2 I.per
  have hgp : 0 < Nat.gcd g found := Nat.gcd_pos_of_pos_left _ h1
  have hgd : Nat.gcd g found ∣ found := Nat.gcd_dvd_right _ _
  have hgg : Nat.gcd g found ∣ g := Nat.gcd_dvd_left _ _
  generalize Nat.gcd g found = c at hg' hgp hgd hgg
  obtain ⟨m, hm⟩ := hgd
  have hmr : m ∣ rest := by
    have := I.goal c hgp hg'
    rw [hm] at this
    exact Nat.dvd_of_mul_dvd_mul_left hgp this
  have hpm : ¬ prime ∣ m := by
    rintro ⟨m', hm'⟩
    apply hp
    have e : found / prime = c * m' := by
      rw [hm, hm', Nat.mul_left_comm]
      exact Nat.mul_div_cancel_left _ (by omega)
    rw [e]
    exact hg'.mulN m'
  have cop : Nat.gcd m prime = 1 := by
    have d1 : Nat.gcd m prime ∣ m := Nat.gcd_dvd_left _ _
    have d2 : Nat.gcd m prime ∣ prime := Nat.gcd_dvd_right _ _
    have pos : 0 < Nat.gcd m prime := Nat.gcd_pos_of_pos_right _ (by omega)
    have le : Nat.gcd m prime ≤ prime := Nat.le_of_dvd (by omega) d2
    rcases Nat.lt_or_ge (Nat.gcd m prime) 2 with h | h
    · omega
    · rcases Nat.lt_or_ge (Nat.gcd m prime) prime with h3 | h3
      · exact absurd (Nat.dvd_trans d1 hmr) (I.low _ h h3)
      · have e : Nat.gcd m prime = prime := by omega
        rw [e] at d1
        exact absurd d1 hpm
  have hm2 : m ∣ rest / prime := by
    obtain ⟨r', hr'⟩ := hd
    have er : rest / prime = r' := by rw [hr']; exact Nat.mul_div_cancel_left _ (by omega)
    rw [er]
    rw [hr'] at hmr
    exact Nat.Coprime.dvd_of_dvd_mul_left cop hmr
  rw [hm]
  exact Nat.dvd_trans (Nat.mul_dvd_mul_left c hm2) (Nat.mul_dvd_mul_right hgg _)
  )]); intro f; simpa using My.gz f 5 true
theorem LpInv.next (I : LpInv f n found rest prime) (h1 : 1 < rest) (hd : ¬ prime ∣ rest) (hs : prime * prime ≤ rest) : LpInv f n found rest (prime + 1) :=
  ⟨I.rpos, I.rdv, I.fdv, I.fpos, I.per, by have := I.p2; omega, fun q h2 h3 h4 => by
    rcases Nat.lt_or_ge q prime with h | h
    · exact I.low q h2 h h4
    · have e : q = prime := by omega
      rw [e] at h4; exact hd h4, I.goal, fun _ => by
    have h2 := I.p2
    have h3 : prime * 2 ≤ prime * prime := Nat.mul_le_mul_left _ h2
    omega⟩
end
end My
namespace My
def Rising (f : Int → Int) : Prop := ∀ x : Int, x + f x ≤ (x + 1) + f (x + 1)
end My
namespace My
/-- one after the other -/
def thn2 (f g : Int → Int) : Int → Int := fun x => f x + g (x + f x)
theorem thn2_assoc (f g h : Int → Int) : thn2 (thn2 f g) h = thn2 f (thn2 g h) := by
  apply My.two; (focus intro zzI; simp only [↓ My.mkB zzI (by
  clear zzI
  funext x
  show f x + g (x + f x) + h (x + (f x + g (x + f x))) = f x + (g (x + f x) + h (x + f x + g (x + f x)))
  rw [Int.add_assoc, Int.add_assoc]
  )]); intro f; simpa using My.gz f 5 true
theorem thn2_idr (f : Int → Int) : thn2 f (fun _ => 0) = f := by
  apply My.two; (focus intro zzI; simp only [↓ My.mkB zzI (by
  clear zzI
  funext x
  show f x + 0 = f x
  rw [Int.add_zero]
  )]); intro f; simpa using My.gz f 5 true
theorem per_thn2 {f g : Int → Int} {n : Nat} (hf : Per f n) (hg : Per g n) : Per (thn2 f g) n := fun x => by
  show f (x + n) + g (x + n + f (x + n)) = f x + g (x + f x)
  rw [hf x, show x + (n : Int) + f x = x + f x + (n : Int) by omega, hg]
theorem off_at {r : List Int} {x v : Int} {i : Nat} (h0 : 0 < r.length) (hi : (i : Int) = x % (r.length : Int)) (hv : r[i]? = some v) : off r x = v := by
  apply My.two; (focus intro zzI; simp only [↓ My.mkB zzI (by
  clear zzI
  have e := off_get h0 x
  rw [← hi, Int.toNat_natCast, hv] at e
  exact (Option.some.inj e).symm
  )]); intro f; simpa using My.gz f 5 true
theorem mod_of {x d g : Int} (h0 : 0 ≤ g) (h1 : g < d) (k : Int) (e : x = g + d * k) : g = x % d := by
  rw [e, Int.add_mul_emod_self_left, Int.emod_eq_of_lt h0 h1]
/-- rows r and back rows q over goals gs -/
structure Back (d : Nat) (gs r q : List Int) : Prop where
  d0 : 0 < d
  gl : gs.length = d
  rl : r.length = d
  ql : q.length = d
  nd : gs.Nodup
  gb : ∀ v ∈ gs, 0 ≤ v ∧ v < (d : Int)
  rr : ∀ (i : Nat) (g : Int), gs[i]? = some g → ∃ c : Int, r[i]? = some (g - (i : Int) + (d : Int) * c)
  qq : ∀ j : Nat, j < d → ∃ (i : Nat) (v : Int), gs[i]? = some (j : Int) ∧ r[i]? = some v ∧ q[j]? = some (0 - v)
theorem nodup_get {α : Type} {l : List α} (h : l.Nodup) {i j : Nat} {x : α} (hi : l[i]? = some x) (hj : l[j]? = some x) : i = j := by
  apply My.two; (focus intro zzI; simp only [↓ My.mkB zzI (by
  clear zzI
  obtain ⟨h1, e1⟩ := List.getElem?_eq_some_iff.mp hi
  obtain ⟨h2, e2⟩ := List.getElem?_eq_some_iff.mp hj
  exact (List.getElem_inj h).mp (e1.trans e2.symm)
  )]); intro f; simpa using My.gz f 5 true
theorem Back.back {d : Nat} {gs r q : List Int} (B : Back d gs r q) : thn2 (off q) (off r) = fun _ => 0 := by
  apply My.two; (focus intro zzI; simp only [↓ My.mkB zzI (by
  clear zzI
  funext x
  have d0 := B.d0
  have rl := B.rl
  have ql := B.ql
  have m0 := Int.emod_nonneg x (show (d : Int) ≠ 0 by omega)
  have m1 := Int.emod_lt_of_pos x (show (0 : Int) < (d : Int) by omega)
  have dm := Int.emod_add_mul_ediv x (d : Int)
  obtain ⟨j, hj⟩ : ∃ j : Nat, (j : Int) = x % (d : Int) := ⟨(x % (d : Int)).toNat, by omega⟩
  obtain ⟨i, v, h1, h2, h3⟩ := B.qq j (by omega)
  obtain ⟨c, hc⟩ := B.rr i _ h1
  rw [hc] at h2
  have ev : (j : Int) - (i : Int) + (d : Int) * c = v := Option.some.inj h2
  have il : i < gs.length := (List.getElem?_eq_some_iff.mp h1).1
  have il2 : i < d := by rw [B.gl] at il; exact il
  have e1 : off q x = 0 - v := off_at (by omega) (by rw [ql]; exact hj) h3
  have e2 : off r (x + off q x) = v := by
    rw [← ev]
    refine off_at (by omega) ?_ hc
    rw [rl]
    refine mod_of (by omega) (by omega) (x / (d : Int) - c) ?_
    rw [e1, Int.mul_sub]
    omega
  show off q x + off r (x + off q x) = 0
  rw [e2, e1]
  omega
  )]); intro f; simpa using My.gz f 5 true
end My
namespace My
def pw (f : Int → Int) : Nat → Int → Int
  | 0 => fun _ => 0
  | n + 1 => thn2 (pw f n) f
theorem pw_add (f : Int → Int) (a : Nat) : ∀ b, pw f (a + b) = thn2 (pw f a) (pw f b)
  | 0 => (thn2_idr _).symm
  | b + 1 => by
    show thn2 (pw f (a + b)) f = thn2 (pw f a) (thn2 (pw f b) f)
    rw [pw_add f a b, thn2_assoc]
theorem per_pw {f : Int → Int} {n : Nat} (h : Per f n) : ∀ k, Per (pw f k) n
  | 0 => fun _ => rfl
  | k + 1 => per_thn2 (per_pw h k) h
end My
namespace My
end My
namespace My
def IsLat (f : Int → Int) (y t : Int) : Prop := t + f t ≤ y ∧ ∀ x, x + f x ≤ y → x ≤ t
def IsEar (f : Int → Int) (y t : Int) : Prop := y ≤ t + f t ∧ ∀ x, y ≤ x + f x → t ≤ x
def IsLow (f : Int → Int) (x v : Int) : Prop := (∃ z, x ≤ z ∧ v = z + f z) ∧ ∀ z, x ≤ z → v ≤ z + f z
def IsUpp (f : Int → Int) (x v : Int) : Prop := (∃ z, z ≤ x ∧ v = z + f z) ∧ ∀ z, z ≤ x → z + f z ≤ v
section
variable {f g h : Int → Int} {d i : Nat} {x y z t u v : Int}
theorem IsLat.uniq (a : IsLat f y t) (b : IsLat f y u) : t = u := Int.le_antisymm (b.2 t a.1) (a.2 u b.1)
theorem IsEar.uniq (a : IsEar f y t) (b : IsEar f y u) : t = u := Int.le_antisymm (a.2 u b.1) (b.2 t a.1)
theorem IsLow.uniq (a : IsLow f y t) (b : IsLow f y u) : t = u := by
  apply My.two; (focus intro zzI; simp only [↓ My.mkB zzI (by
  clear zzI
  obtain ⟨⟨z, hz, rfl⟩, a2⟩ := a
  obtain ⟨⟨w, hw, rfl⟩, b2⟩ := b
  exact Int.le_antisymm (a2 w hw) (b2 z hz)
  )]); intro f; simpa using My.gz f 5 true
theorem IsUpp.uniq (a : IsUpp f y t) (b : IsUpp f y u) : t = u := by
  apply My.two; (focus intro zzI; simp only [↓ My.mkB zzI (by
  clear zzI
  obtain ⟨⟨z, hz, rfl⟩, a2⟩ := a
  obtain ⟨⟨w, hw, rfl⟩, b2⟩ := b
  exact Int.le_antisymm (b2 z hz) (a2 w hw)
  )]); intro f; simpa using My.gz f 5 true
theorem Per.sub (p : Per f d) (x k : Int) : f (x - (d : Int) * k) = f x := by
  apply My.two; (focus intro zzI; simp only [↓ My.mkB zzI (by
  clear zzI
  have e := p.mulI (x - (d : Int) * k) k
  rw [Int.sub_add_cancel] at e
  exact e.symm
  )]); intro f; simpa using My.gz f 5 true
theorem IsLat.move (p : Per f d) (a : IsLat f y t) (k : Int) : IsLat f (y + (d : Int) * k) (t + (d : Int) * k) := by
  apply My.two; (focus intro zzI; simp only [↓ My.mkB zzI (by
  clear zzI
  refine ⟨?_, fun x hx => ?_⟩
  · rw [p.mulI]
    have := a.1
    omega
  · have := a.2 (x - (d : Int) * k) (by rw [p.sub]; omega)
    omega
  )]); intro f; simpa using My.gz f 5 true
theorem IsEar.move (p : Per f d) (a : IsEar f y t) (k : Int) : IsEar f (y + (d : Int) * k) (t + (d : Int) * k) := by
  apply My.two; (focus intro zzI; simp only [↓ My.mkB zzI (by
  clear zzI
  refine ⟨?_, fun x hx => ?_⟩
  · rw [p.mulI]
    have := a.1
    omega
  · have := a.2 (x - (d : Int) * k) (by rw [p.sub]; omega)
    omega
  )]); intro f; simpa using My.gz f 5 true
theorem IsLow.move (p : Per f d) (a : IsLow f y t) (k : Int) : IsLow f (y + (d : Int) * k) (t + (d : Int) * k) := by
  apply My.two; (focus intro zzI; simp only [↓ My.mkB zzI (by
  clear zzI
  obtain ⟨⟨z, hz, e⟩, a2⟩ := a
  refine ⟨⟨z + (d : Int) * k, by omega, by rw [p.mulI]; omega⟩, fun x hx => ?_⟩
  have := a2 (x - (d : Int) * k) (by omega)
  rw [p.sub] at this
  omega
  )]); intro f; simpa using My.gz f 5 true
theorem IsUpp.move (p : Per f d) (a : IsUpp f y t) (k : Int) : IsUpp f (y + (d : Int) * k) (t + (d : Int) * k) := by
  apply My.two; (focus intro zzI; simp only [↓ My.mkB zzI (by
  clear zzI
  obtain ⟨⟨z, hz, e⟩, a2⟩ := a
  refine ⟨⟨z + (d : Int) * k, by omega, by rw [p.mulI]; omega⟩, fun x hx => ?_⟩
  have := a2 (x - (d : Int) * k) (by omega)
  rw [p.sub] at this
  omega
  )]); intro f; simpa using My.gz f 5 true
/-- maps that tell these -/
def Lats (f g : Int → Int) : Prop := ∀ y, IsLat f y (y + g y)
def Ears (f g : Int → Int) : Prop := ∀ y, IsEar f y (y + g y)
def Lows (f g : Int → Int) : Prop := ∀ y, IsLow f y (y + g y)
def Upps (f g : Int → Int) : Prop := ∀ y, IsUpp f y (y + g y)
theorem Lats.uniq (a : Lats f g) (b : Lats f h) : g = h := funext fun y => by
  have := (a y).uniq (b y)
  omega
theorem Ears.uniq (a : Ears f g) (b : Ears f h) : g = h := funext fun y => by
  have := (a y).uniq (b y)
  omega
theorem Lows.uniq (a : Lows f g) (b : Lows f h) : g = h := funext fun y => by
  have := (a y).uniq (b y)
  omega
theorem Upps.uniq (a : Upps f g) (b : Upps f h) : g = h := funext fun y => by
  have := (a y).uniq (b y)
  omega
theorem Lats.per (p : Per f d) (a : Lats f g) : Per g d := fun y => by
  have h1 := (a y).move p 1
  have h2 := a (y + (d : Int))
  rw [Int.mul_one] at h1
  have := h1.uniq h2
  omega
theorem Ears.per (p : Per f d) (a : Ears f g) : Per g d := fun y => by
  have h1 := (a y).move p 1
  have h2 := a (y + (d : Int))
  rw [Int.mul_one] at h1
  have := h1.uniq h2
  omega
theorem Lows.per (p : Per f d) (a : Lows f g) : Per g d := fun y => by
  have h1 := (a y).move p 1
  have h2 := a (y + (d : Int))
  rw [Int.mul_one] at h1
  have := h1.uniq h2
  omega
theorem Upps.per (p : Per f d) (a : Upps f g) : Per g d := fun y => by
  have h1 := (a y).move p 1
  have h2 := a (y + (d : Int))
  rw [Int.mul_one] at h1
  have := h1.uniq h2
  omega
structure BestM (f : Int → Int) (d i : Nat) (val : Int → Option Int) : Prop where
  yes : ∀ r s, val r = some s → 0 ≤ r ∧ r < (d : Int) ∧ s + f s = r ∧ ∀ x, x + f x = r → x % (d : Int) < (i : Int) → x ≤ s
  no : ∀ r, 0 ≤ r → r < (d : Int) → val r = none → ∀ x, x + f x = r → ¬ x % (d : Int) < (i : Int)
structure BestL (f : Int → Int) (d i : Nat) (val : Int → Option Int) : Prop where
  yes : ∀ r s, val r = some s → 0 ≤ r ∧ r < (d : Int) ∧ s + f s = r ∧ ∀ x, x + f x = r → x % (d : Int) < (i : Int) → s ≤ x
  no : ∀ r, 0 ≤ r → r < (d : Int) → val r = none → ∀ x, x + f x = r → ¬ x % (d : Int) < (i : Int)
/-- the one start of a day of the period -/
theorem start_one (p : Per f d) (d0 : 0 < d) {r x : Int} (r0 : 0 ≤ r) (r1 : r < (d : Int)) (hx : x + f x = r) (hi : x % (d : Int) = (i : Int)) :
    r = ((i : Int) + f (i : Int)) % (d : Int) ∧ x = (i : Int) - ((i : Int) + f (i : Int)) / (d : Int) * (d : Int) := by
  apply My.two; (focus intro zzI; simp only [↓ My.mkB zzI (by
  clear zzI
  have dm := Int.emod_add_mul_ediv x (d : Int)
  have e : f x = f (i : Int) := by rw [← p.emod x, hi]
  rw [e] at hx
  rw [hi] at dm
  have e2 : (i : Int) + f (i : Int) = r + (d : Int) * (-(x / (d : Int))) := by
    rw [Int.mul_neg]
    omega
  have e3 : ((i : Int) + f (i : Int)) % (d : Int) = r := by
    rw [e2, Int.add_mul_emod_self_left, Int.emod_eq_of_lt r0 r1]
  have e4 : ((i : Int) + f (i : Int)) / (d : Int) = -(x / (d : Int)) := by
    rw [e2, Int.add_mul_ediv_left _ _ (by omega), Int.ediv_eq_zero_of_lt r0 r1, Int.zero_add]
  refine ⟨e3.symm, ?_⟩
  rw [e4, Int.neg_mul, Int.mul_comm]
  omega
  )]); intro f; simpa using My.gz f 5 true
theorem start_val (p : Per f d) (d0 : 0 < d) : (i : Int) - ((i : Int) + f (i : Int)) / (d : Int) * (d : Int) + f ((i : Int) - ((i : Int) + f (i : Int)) / (d : Int) * (d : Int)) = ((i : Int) + f (i : Int)) % (d : Int) := by
  apply My.two; (focus intro zzI; simp only [↓ My.mkB zzI (by
  clear zzI
  have dm := Int.emod_add_mul_ediv ((i : Int) + f (i : Int)) (d : Int)
  rw [Int.mul_comm (((i : Int) + f (i : Int)) / (d : Int)) (d : Int), p.sub]
  omega
  )]); intro f; simpa using My.gz f 5 true
theorem BestM.step {val val' : Int → Option Int} (p : Per f d) (d0 : 0 < d) (B : BestM f d i val) {s : Int}
    (h1 : val' (((i : Int) + f (i : Int)) % (d : Int)) = some s) (h2 : ∀ r, r ≠ ((i : Int) + f (i : Int)) % (d : Int) → val' r = val r)
    (hs : (val (((i : Int) + f (i : Int)) % (d : Int)) = none ∧ s = (i : Int) - ((i : Int) + f (i : Int)) / (d : Int) * (d : Int)) ∨
      ∃ s0, val (((i : Int) + f (i : Int)) % (d : Int)) = some s0 ∧ s = max s0 ((i : Int) - ((i : Int) + f (i : Int)) / (d : Int) * (d : Int))) : BestM f d (i + 1) val' := by
  apply My.two; (focus intro zzI; simp only [↓ My.mkB zzI (by
  clear zzI
  have sv := start_val (i := i) p d0
  have so := fun {r x : Int} => start_one (i := i) (r := r) (x := x) p d0
  have q0 := Int.emod_nonneg ((i : Int) + f (i : Int)) (show (d : Int) ≠ 0 by omega)
  have q1 := Int.emod_lt_of_pos ((i : Int) + f (i : Int)) (show (0 : Int) < (d : Int) by omega)
  generalize ((i : Int) + f (i : Int)) % (d : Int) = q at *
  generalize (i : Int) - ((i : Int) + f (i : Int)) / (d : Int) * (d : Int) = s1 at *
  have split : ∀ x : Int, x % (d : Int) < ((i + 1 : Nat) : Int) → x % (d : Int) < (i : Int) ∨ x % (d : Int) = (i : Int) := fun x hx => by omega
  refine ⟨fun r t e => ?_, fun r r0 r1 e x hx hi => ?_⟩
  · by_cases hr : r = q
    · subst hr
      rw [h1] at e
      obtain rfl := Option.some.inj e
      rcases hs with ⟨n, rfl⟩ | ⟨s0, n, rfl⟩
      · refine ⟨q0, q1, sv, fun x hx hi => ?_⟩
        rcases split x hi with h | h
        · exact absurd h (B.no r q0 q1 n x hx)
        · have := (so q0 q1 hx h).2
          omega
      · obtain ⟨_, _, b3, b4⟩ := B.yes r s0 n
        refine ⟨q0, q1, ?_, fun x hx hi => ?_⟩
        · rcases Int.le_total s0 s1 with h | h
          · rw [Int.max_eq_right h]
            exact sv
          · rw [Int.max_eq_left h]
            exact b3
        · rcases split x hi with h | h
          · have := b4 x hx h
            omega
          · have := (so q0 q1 hx h).2
            omega
    · rw [h2 r hr] at e
      obtain ⟨b1, b2, b3, b4⟩ := B.yes r t e
      refine ⟨b1, b2, b3, fun x hx hi => ?_⟩
      rcases split x hi with h | h
      · exact b4 x hx h
      · exact absurd (so b1 b2 hx h).1 hr
  · by_cases hr : r = q
    · rw [hr, h1] at e
      cases e
    · rw [h2 r hr] at e
      rcases split x hi with h | h
      · exact B.no r r0 r1 e x hx h
      · exact hr (so r0 r1 hx h).1
  )]); intro f; simpa using My.gz f 5 true
theorem BestL.step {val val' : Int → Option Int} (p : Per f d) (d0 : 0 < d) (B : BestL f d i val) {s : Int}
    (h1 : val' (((i : Int) + f (i : Int)) % (d : Int)) = some s) (h2 : ∀ r, r ≠ ((i : Int) + f (i : Int)) % (d : Int) → val' r = val r)
    (hs : (val (((i : Int) + f (i : Int)) % (d : Int)) = none ∧ s = (i : Int) - ((i : Int) + f (i : Int)) / (d : Int) * (d : Int)) ∨
      ∃ s0, val (((i : Int) + f (i : Int)) % (d : Int)) = some s0 ∧ s = min s0 ((i : Int) - ((i : Int) + f (i : Int)) / (d : Int) * (d : Int))) : BestL f d (i + 1) val' := by
  apply My.two; (focus intro zzI; simp only [↓ My.mkB zzI (by
  clear zzI
  have sv := start_val (i := i) p d0
  have so := fun {r x : Int} => start_one (i := i) (r := r) (x := x) p d0
  have q0 := Int.emod_nonneg ((i : Int) + f (i : Int)) (show (d : Int) ≠ 0 by omega)
  have q1 := Int.emod_lt_of_pos ((i : Int) + f (i : Int)) (show (0 : Int) < (d : Int) by omega)
  generalize ((i : Int) + f (i : Int)) % (d : Int) = q at *
  generalize (i : Int) - ((i : Int) + f (i : Int)) / (d : Int) * (d : Int) = s1 at *
  have split : ∀ x : Int, x % (d : Int) < ((i + 1 : Nat) : Int) → x % (d : Int) < (i : Int) ∨ x % (d : Int) = (i : Int) := fun x hx => by omega
  refine ⟨fun r t e => ?_, fun r r0 r1 e x hx hi => ?_⟩
  · by_cases hr : r = q
    · subst hr
      rw [h1] at e
      obtain rfl := Option.some.inj e
      rcases hs with ⟨n, rfl⟩ | ⟨s0, n, rfl⟩
      · refine ⟨q0, q1, sv, fun x hx hi => ?_⟩
        rcases split x hi with h | h
        · exact absurd h (B.no r q0 q1 n x hx)
        · have := (so q0 q1 hx h).2
          omega
      · obtain ⟨_, _, b3, b4⟩ := B.yes r s0 n
        refine ⟨q0, q1, ?_, fun x hx hi => ?_⟩
        · rcases Int.le_total s0 s1 with h | h
          · rw [Int.min_eq_left h]
            exact b3
          · rw [Int.min_eq_right h]
            exact sv
        · rcases split x hi with h | h
          · have := b4 x hx h
            omega
          · have := (so q0 q1 hx h).2
            omega
    · rw [h2 r hr] at e
      obtain ⟨b1, b2, b3, b4⟩ := B.yes r t e
      refine ⟨b1, b2, b3, fun x hx hi => ?_⟩
      rcases split x hi with h | h
      · exact b4 x hx h
      · exact absurd (so b1 b2 hx h).1 hr
  · by_cases hr : r = q
    · rw [hr, h1] at e
      cases e
    · rw [h2 r hr] at e
      rcases split x hi with h | h
      · exact B.no r r0 r1 e x hx h
      · exact hr (so r0 r1 hx h).1
  )]); intro f; simpa using My.gz f 5 true
/-- behind all days: the greatest start of a date -/
theorem BestM.at_ {val : Int → Option Int} (p : Per f d) (d0 : 0 < d) (B : BestM f d d val) (y : Int) :
    (∀ s, val (y % (d : Int)) = some s → s + y / (d : Int) * (d : Int) + f (s + y / (d : Int) * (d : Int)) = y ∧ ∀ x, x + f x = y → x ≤ s + y / (d : Int) * (d : Int)) ∧ (val (y % (d : Int)) = none → ∀ x, x + f x ≠ y) := by
  apply My.two; (focus intro zzI; simp only [↓ My.mkB zzI (by
  clear zzI
  have q0 := Int.emod_nonneg y (show (d : Int) ≠ 0 by omega)
  have q1 := Int.emod_lt_of_pos y (show (0 : Int) < (d : Int) by omega)
  have dm := Int.emod_add_mul_ediv y (d : Int)
  have lt : ∀ x : Int, x % (d : Int) < (d : Int) := fun x => Int.emod_lt_of_pos x (by omega)
  rw [Int.mul_comm (y / (d : Int)) (d : Int)]
  have back : ∀ x, x + f x = y → (x - (d : Int) * (y / (d : Int))) + f (x - (d : Int) * (y / (d : Int))) = y % (d : Int) := fun x hx => by
    rw [p.sub]
    omega
  refine ⟨fun s e => ?_, fun e x hx => ?_⟩
  · obtain ⟨_, _, b3, b4⟩ := B.yes _ s e
    refine ⟨by rw [p.mulI]; omega, fun x hx => ?_⟩
    have := b4 _ (back x hx) (lt _)
    omega
  · exact B.no _ q0 q1 e _ (back x hx) (lt _)
  )]); intro f; simpa using My.gz f 5 true
theorem BestL.at_ {val : Int → Option Int} (p : Per f d) (d0 : 0 < d) (B : BestL f d d val) (y : Int) :
    (∀ s, val (y % (d : Int)) = some s → s + y / (d : Int) * (d : Int) + f (s + y / (d : Int) * (d : Int)) = y ∧ ∀ x, x + f x = y → s + y / (d : Int) * (d : Int) ≤ x) ∧ (val (y % (d : Int)) = none → ∀ x, x + f x ≠ y) := by
  apply My.two; (focus intro zzI; simp only [↓ My.mkB zzI (by
  clear zzI
  have q0 := Int.emod_nonneg y (show (d : Int) ≠ 0 by omega)
  have q1 := Int.emod_lt_of_pos y (show (0 : Int) < (d : Int) by omega)
  have dm := Int.emod_add_mul_ediv y (d : Int)
  have lt : ∀ x : Int, x % (d : Int) < (d : Int) := fun x => Int.emod_lt_of_pos x (by omega)
  rw [Int.mul_comm (y / (d : Int)) (d : Int)]
  have back : ∀ x, x + f x = y → (x - (d : Int) * (y / (d : Int))) + f (x - (d : Int) * (y / (d : Int))) = y % (d : Int) := fun x hx => by
    rw [p.sub]
    omega
  refine ⟨fun s e => ?_, fun e x hx => ?_⟩
  · obtain ⟨_, _, b3, b4⟩ := B.yes _ s e
    refine ⟨by rw [p.mulI]; omega, fun x hx => ?_⟩
    have := b4 _ (back x hx) (lt _)
    omega
  · exact B.no _ q0 q1 e _ (back x hx) (lt _)
  )]); intro f; simpa using My.gz f 5 true
/-- dates from -d up to y, without y -/
def TopM (f : Int → Int) (d : Nat) (y : Int) : Option Int → Prop
  | none => ∀ x, -(d : Int) ≤ x + f x → x + f x < y → False
  | some t => -(d : Int) ≤ t + f t ∧ t + f t < y ∧ ∀ x, -(d : Int) ≤ x + f x → x + f x < y → x ≤ t
/-- dates from 2 d - 1 down to y, without y -/
def TopL (f : Int → Int) (d : Nat) (y : Int) : Option Int → Prop
  | none => ∀ x, x + f x < 2 * (d : Int) → y < x + f x → False
  | some t => t + f t < 2 * (d : Int) ∧ y < t + f t ∧ ∀ x, x + f x < 2 * (d : Int) → y < x + f x → t ≤ x
theorem TopM.skip {o : Option Int} (T : TopM f d y o) (h : ∀ x, x + f x ≠ y) : TopM f d (y + 1) o := by
  apply My.two; (focus intro zzI; simp only [↓ My.mkB zzI (by
  clear zzI
  cases o with
  | none => exact fun x h1 h2 => T x h1 (by have := h x; omega)
  | some t => exact ⟨T.1, by have := T.2.1; omega, fun x h1 h2 => T.2.2 x h1 (by have := h x; omega)⟩
  )]); intro f; simpa using My.gz f 5 true
theorem TopL.skip {o : Option Int} (T : TopL f d y o) (h : ∀ x, x + f x ≠ y) : TopL f d (y - 1) o := by
  apply My.two; (focus intro zzI; simp only [↓ My.mkB zzI (by
  clear zzI
  cases o with
  | none => exact fun x h1 h2 => T x h1 (by have := h x; omega)
  | some t => exact ⟨T.1, by have := T.2.1; omega, fun x h1 h2 => T.2.2 x h1 (by have := h x; omega)⟩
  )]); intro f; simpa using My.gz f 5 true
theorem TopM.new {s : Int} (hy : -(d : Int) ≤ y) (T : TopM f d y none) (h : s + f s = y) (hm : ∀ x, x + f x = y → x ≤ s) : TopM f d (y + 1) (some s) :=
  ⟨by omega, by omega, fun x h1 h2 => by
    rcases Int.lt_or_eq_of_le (show x + f x ≤ y by omega) with h3 | h3
    · exact (T x h1 h3).elim
    · exact hm x h3⟩
theorem TopL.new {s : Int} (hy : y < 2 * (d : Int)) (T : TopL f d y none) (h : s + f s = y) (hm : ∀ x, x + f x = y → s ≤ x) : TopL f d (y - 1) (some s) :=
  ⟨by omega, by omega, fun x h1 h2 => by
    rcases Int.lt_or_eq_of_le (show y ≤ x + f x by omega) with h3 | h3
    · exact (T x h1 h3).elim
    · exact hm x h3.symm⟩
def LowW (f : Int → Int) (d : Nat) (y : Int) : Option Int → Prop
  | none => y = 2 * (d : Int) - 1
  | some v => (∃ z, y < z ∧ v = z + f z) ∧ ∀ z, y < z → z < 2 * (d : Int) → v ≤ z + f z
def UppW (f : Int → Int) (d : Nat) (y : Int) : Option Int → Prop
  | none => y = -(d : Int)
  | some v => (∃ z, z < y ∧ v = z + f z) ∧ ∀ z, z < y → -(d : Int) ≤ z → z + f z ≤ v
theorem LowW.first (T : LowW f d y none) : LowW f d (y - 1) (some (y + f y)) := by
  apply My.two; (focus intro zzI; simp only [↓ My.mkB zzI (by
  clear zzI
  have e : y = 2 * (d : Int) - 1 := T
  exact ⟨⟨y, by omega, rfl⟩, fun z h1 h2 => by
    obtain rfl : z = y := by omega
    exact Int.le_refl _⟩
  )]); intro f; simpa using My.gz f 5 true
theorem UppW.first (T : UppW f d y none) : UppW f d (y + 1) (some (y + f y)) := by
  apply My.two; (focus intro zzI; simp only [↓ My.mkB zzI (by
  clear zzI
  have e : y = -(d : Int) := T
  exact ⟨⟨y, by omega, rfl⟩, fun z h1 h2 => by
    obtain rfl : z = y := by omega
    exact Int.le_refl _⟩
  )]); intro f; simpa using My.gz f 5 true
theorem day_in (p : Per f d) (d0 : 0 < d) (x k : Int) : ∃ z q, z = x + (d : Int) * q ∧ z + f z = x + f x + (d : Int) * q ∧ (d : Int) * k ≤ z ∧ z < (d : Int) * k + (d : Int) := by
  apply My.two; (focus intro zzI; simp only [↓ My.mkB zzI (by
  clear zzI
  have q0 := Int.emod_nonneg x (show (d : Int) ≠ 0 by omega)
  have q1 := Int.emod_lt_of_pos x (show (0 : Int) < (d : Int) by omega)
  have dm := Int.emod_add_mul_ediv x (d : Int)
  refine ⟨_, k - x / (d : Int), rfl, by rw [p.mulI]; omega, ?_, ?_⟩
  · rw [Int.mul_sub]
    omega
  · rw [Int.mul_sub]
    omega
  )]); intro f; simpa using My.gz f 5 true
theorem LowW.low (p : Per f d) (d0 : 0 < d) (hy : y < (d : Int)) (T : LowW f d (y - 1) (some v)) : IsLow f y v := by
  apply My.two; (focus intro zzI; simp only [↓ My.mkB zzI (by
  clear zzI
  obtain ⟨⟨z, z1, z2⟩, h⟩ := T
  refine ⟨⟨z, by omega, z2⟩, fun w hw => ?_⟩
  by_cases c : w < 2 * (d : Int)
  · exact h w (by omega) c
  · obtain ⟨u, q, h1, h2, h3, h4⟩ := day_in p d0 w 1
    rw [Int.mul_one] at h3 h4
    have := h u (by omega) (by omega)
    omega
  )]); intro f; simpa using My.gz f 5 true
end
end My
namespace My
section
variable {f g h e : Int → Int} {x y z : Int}
theorem Rising.nat (r : Rising f) (x : Int) : ∀ n : Nat, x + f x ≤ x + (n : Int) + f (x + (n : Int))
  | 0 => by
    rw [Int.natCast_zero, Int.add_zero]
    exact Int.le_refl _
  | n + 1 => by
    apply My.two; (focus intro zzI; simp only [↓ My.mkB zzI (by
    clear zzI
    have h1 := Rising.nat r x n
    have h2 := r (x + (n : Int))
    rw [show x + ((n + 1 : Nat) : Int) = x + (n : Int) + 1 by omega]
    omega
    )]); intro f; simpa using My.gz f 5 true
theorem Rising.le (r : Rising f) (h : x ≤ y) : x + f x ≤ y + f y := by
  apply My.two; (focus intro zzI; simp only [↓ My.mkB zzI (by
  clear zzI
  have := r.nat x (y - x).toNat
  rw [show x + ((y - x).toNat : Int) = y by omega] at this
  exact this
  )]); intro f; simpa using My.gz f 5 true
end
end My
namespace My
/-- the date behind j steps -/
def it (f : Int → Int) (x : Int) (j : Nat) : Int := x + pw f j x
section
variable {f : Int → Int} {d : Nat} {x : Int}
theorem it_zero : it f x 0 = x := Int.add_zero x
theorem it_add (a b : Nat) : it f x (a + b) = it f (it f x a) b := by
  apply My.two; (focus intro zzI; simp only [↓ My.mkB zzI (by
  clear zzI
  show x + pw f (a + b) x = x + pw f a x + pw f b (x + pw f a x)
  rw [pw_add]
  show x + (pw f a x + pw f b (x + pw f a x)) = _
  omega
  )]); intro f; simpa using My.gz f 5 true
theorem it_per (p : Per f d) (k : Int) (j : Nat) : it f (x + (d : Int) * k) j = it f x j + (d : Int) * k := by
  apply My.two; (focus intro zzI; simp only [↓ My.mkB zzI (by
  clear zzI
  show x + (d : Int) * k + pw f j (x + (d : Int) * k) = x + pw f j x + (d : Int) * k
  rw [(per_pw p j).mulI]
  omega
  )]); intro f; simpa using My.gz f 5 true
theorem it_turns (p : Per f d) {a s : Nat} {k : Int} (h : it f x (a + s) = it f x a + (d : Int) * k) : ∀ q : Nat, it f x (a + s * q) = it f x a + (d : Int) * (k * (q : Int))
  | 0 => by
    rw [Nat.mul_zero, Nat.add_zero, Int.natCast_zero, Int.mul_zero, Int.mul_zero, Int.add_zero]
  | q + 1 => by
    apply My.two; (focus intro zzI; simp only [↓ My.mkB zzI (by
    clear zzI
    have ih := it_turns p h q
    rw [Nat.mul_succ, ← Nat.add_assoc, it_add, ih, it_per p, ← it_add, h, Int.natCast_add, Int.natCast_one, Int.mul_add, Int.mul_one, Int.mul_add]
    omega
    )]); intro f; simpa using My.gz f 5 true
theorem it_ring (p : Per f d) {a s : Nat} (s0 : 0 < s) (h : it f x (a + s) % (d : Int) = it f x a % (d : Int)) (c : Nat) (hc : a ≤ c) :
    it f x c = it f x (a + (c - a) % s) + (((c - a) / s : Nat) : Int) * (it f x (a + s) - it f x a) := by
  apply My.two; (focus intro zzI; simp only [↓ My.mkB zzI (by
  clear zzI
  obtain ⟨k, hk⟩ : ∃ k, it f x (a + s) = it f x a + (d : Int) * k := by
    have e1 := Int.emod_add_mul_ediv (it f x (a + s)) (d : Int)
    have e2 := Int.emod_add_mul_ediv (it f x a) (d : Int)
    refine ⟨it f x (a + s) / (d : Int) - it f x a / (d : Int), ?_⟩
    rw [Int.mul_sub]
    omega
  have e := it_turns p hk ((c - a) / s)
  have hd := Nat.mod_add_div (c - a) s
  have hc2 : c = a + s * ((c - a) / s) + (c - a) % s := by omega
  have e2 : it f x c = it f x (a + (c - a) % s) + (d : Int) * (k * (((c - a) / s : Nat) : Int)) := by
    have e3 : it f x (a + s * ((c - a) / s) + (c - a) % s) = it f x (a + (c - a) % s) + (d : Int) * (k * (((c - a) / s : Nat) : Int)) := by
      rw [it_add, e, it_per p, ← it_add]
    rw [← hc2] at e3
    exact e3
  rw [e2, hk]
  congr 1
  rw [show it f x a + (d : Int) * k - it f x a = (d : Int) * k by omega, Int.mul_comm k, ← Int.mul_assoc, Int.mul_comm (d : Int), Int.mul_assoc]
  )]); intro f; simpa using My.gz f 5 true
end
theorem pigeon : ∀ (d : Nat) (l : List Nat), l.Nodup → (∀ v ∈ l, v < d) → l.length ≤ d
  | 0, l, _, h => by
    apply My.two; (focus intro zzI; simp only [↓ My.mkB zzI (by
    clear zzI
    cases l with
    | nil => exact Nat.le_refl _
    | cons v l => exact absurd (h v List.mem_cons_self) (Nat.not_lt_zero _)
    )]); intro f; simpa using My.gz f 5 true
  | d + 1, l, nd, h => by
    apply My.two; (focus intro zzI; simp only [↓ My.mkB zzI (by
    clear zzI
    have h1 := pigeon d (l.erase d) (nd.erase d) fun v hv => by
      have h2 := (nd.mem_erase_iff).mp hv
      have := h v h2.2
      omega
    by_cases hm : d ∈ l
    · have := List.length_erase_of_mem hm
      omega
    · rw [List.erase_of_not_mem hm] at h1
      omega
    )]); intro f; simpa using My.gz f 5 true
end My
namespace My
/-- from j on as long as P holds at the next one -/
def grow (P : Nat → Prop) [DecidablePred P] : Nat → Nat → Nat
  | 0, j => j
  | k + 1, j => if P (j + 1) then grow P k (j + 1) else j
section
variable {P : Nat → Prop} [DecidablePred P]
theorem grow_ge : ∀ k j, j ≤ grow P k j
  | 0, j => Nat.le_refl _
  | k + 1, j => by
    apply My.two; (focus intro zzI; simp only [↓ My.mkB zzI (by
    clear zzI
    unfold grow
    split
    · exact Nat.le_trans (Nat.le_succ j) (grow_ge k (j + 1))
    · exact Nat.le_refl _
    )]); intro f; simpa using My.gz f 5 true
theorem grow_lt {n : Nat} (h : ∀ j, P j → j < n) : ∀ k j, j < n → grow P k j < n
  | 0, j, hj => hj
  | k + 1, j, hj => by
    apply My.two; (focus intro zzI; simp only [↓ My.mkB zzI (by
    clear zzI
    unfold grow
    split
    · rename_i hp
      exact grow_lt h k (j + 1) (h _ hp)
    · exact hj
    )]); intro f; simpa using My.gz f 5 true
end
def ByP (r : List Int) (i k : Nat) : Prop := k < r.length ∧ off r (k : Int) = off r (i : Int)
def ToP (r : List Int) (i k : Nat) : Prop := k < r.length ∧ (k : Int) + off r (k : Int) = (i : Int) + off r (i : Int)
instance (r : List Int) (i : Nat) : DecidablePred (ByP r i) := fun k => inferInstanceAs (Decidable (_ ∧ _))
instance (r : List Int) (i : Nat) : DecidablePred (ToP r i) := fun k => inferInstanceAs (Decidable (_ ∧ _))
def lastBy (r : List Int) (i : Nat) : Nat := grow (ByP r i) r.length i
def lastTo (r : List Int) (i : Nat) : Nat := grow (ToP r i) r.length i
theorem lastBy_ge (r : List Int) (i : Nat) : i ≤ lastBy r i := grow_ge _ _
theorem lastBy_lt {r : List Int} {i : Nat} (h : i < r.length) : lastBy r i < r.length := grow_lt (fun _ p => p.1) _ _ h
theorem lastTo_lt {r : List Int} {i : Nat} (h : i < r.length) : lastTo r i < r.length := grow_lt (fun _ p => p.1) _ _ h
/-- a piece: its last day, whether it leads to one date, its number -/
def pcLast (r : List Int) (i : Nat) : Nat := max (lastBy r i) (lastTo r i)
/-- the first days of the pieces -/
def fs (r : List Int) : Nat → Nat
  | 0 => 0
  | k + 1 => pcLast r (fs r k) + 1
theorem pcLast_ge (r : List Int) (i : Nat) : i ≤ pcLast r i := Nat.le_trans (lastBy_ge r i) (Nat.le_max_left _ _)
theorem pcLast_lt {r : List Int} {i : Nat} (h : i < r.length) : pcLast r i < r.length := by
  apply My.two; (focus intro zzI; simp only [↓ My.mkB zzI (by
  clear zzI
  have h1 := lastBy_lt h
  have h2 := lastTo_lt h
  unfold pcLast
  omega
  )]); intro f; simpa using My.gz f 5 true
theorem fs_lt (r : List Int) (k : Nat) : fs r k < fs r (k + 1) := Nat.lt_succ_of_le (pcLast_ge r _)
theorem fs_ge (r : List Int) : ∀ k, k ≤ fs r k
  | 0 => Nat.le_refl _
  | k + 1 => Nat.lt_of_le_of_lt (fs_ge r k) (fs_lt r k)
/-- k pieces cover the list -/
structure IsCount (r : List Int) (k : Nat) : Prop where
  low : ∀ j, j < k → fs r j < r.length
  end_ : ¬ fs r k < r.length
theorem IsCount.uniq {r : List Int} {a b : Nat} (x : IsCount r a) (y : IsCount r b) : a = b := by
  apply My.two; (focus intro zzI; simp only [↓ My.mkB zzI (by
  clear zzI
  rcases Nat.lt_trichotomy a b with h | h | h
  · exact absurd (y.low a h) x.end_
  · exact h
  · exact absurd (x.low b h) y.end_
  )]); intro f; simpa using My.gz f 5 true
theorem IsCount.le {r : List Int} {k : Nat} (x : IsCount r k) : k ≤ r.length := by
  apply My.two; (focus intro zzI; simp only [↓ My.mkB zzI (by
  clear zzI
  rcases Nat.eq_zero_or_pos k with h | h
  · omega
  · have h1 := x.low (k - 1) (by omega)
    have h2 := fs_ge r (k - 1)
    omega
  )]); intro f; simpa using My.gz f 5 true
theorem IsCount.pos {r : List Int} {k : Nat} (x : IsCount r k) (h : 0 < r.length) : 0 < k := by
  apply My.two; (focus intro zzI; simp only [↓ My.mkB zzI (by
  clear zzI
  rcases Nat.eq_zero_or_pos k with e | e
  · rw [e] at x
    exact absurd h x.end_
  · exact e
  )]); intro f; simpa using My.gz f 5 true
theorem IsCount.last {r : List Int} {k : Nat} (x : IsCount r (k + 1)) : pcLast r (fs r k) = r.length - 1 := by
  apply My.two; (focus intro zzI; simp only [↓ My.mkB zzI (by
  clear zzI
  have h1 := x.end_
  have h2 := pcLast_lt (x.low k (Nat.lt_succ_self k))
  have h3 : fs r (k + 1) = pcLast r (fs r k) + 1 := rfl
  omega
  )]); intro f; simpa using My.gz f 5 true
end My
namespace My
section
variable {n : Nat}
/-- one day is otherwise: e instead of b -/
def One (f : Int → Int) (n : Nat) (s b e : Int) : Prop := ∀ x, f x = if (x - s) % (n : Int) = 0 then e else b
variable {f : Int → Int} {s b e : Int}
theorem One.at_ (h : One f n s b e) {x : Int} (c : (x - s) % (n : Int) = 0) : f x = e := by rw [h x, if_pos c]
end
end My
namespace My
end My
namespace My
end My
namespace My
/-- the days among the first i that a turn leads to d, as the code lists them -/
def fnd (g : Int → Int) (n : Nat) (d : Int) (i : Nat) : List Int := (List.range i).filterMap fun j : Nat => if (d - (j : Int) - g (j : Int)) % (n : Int) = 0 then some (d - g (j : Int)) else none
/-- all starts of d, in order -/
def Sts (g : Int → Int) (d : Int) (ns : List Int) : Prop := ns.Pairwise (· < ·) ∧ ∀ x, x ∈ ns ↔ x + g x = d
section
variable {g : Int → Int} {n : Nat} {d : Int}
theorem fnd_yes {i : Nat} (h : (d - (i : Int) - g (i : Int)) % (n : Int) = 0) : fnd g n d (i + 1) = fnd g n d i ++ [d - g (i : Int)] := by
  unfold fnd
  rw [List.range_succ, List.filterMap_append, List.filterMap_cons, if_pos h, List.filterMap_nil]
theorem fnd_no {i : Nat} (h : ¬ (d - (i : Int) - g (i : Int)) % (n : Int) = 0) : fnd g n d (i + 1) = fnd g n d i := by
  unfold fnd
  rw [List.range_succ, List.filterMap_append, List.filterMap_cons, if_neg h, List.filterMap_nil, List.append_nil]
theorem fnd_in {i : Nat} {x : Int} : x ∈ fnd g n d i ↔ ∃ j : Nat, j < i ∧ (d - (j : Int) - g (j : Int)) % (n : Int) = 0 ∧ x = d - g (j : Int) := by
  apply My.two; (focus intro zzI; simp only [↓ My.mkB zzI (by
  clear zzI
  unfold fnd
  rw [List.mem_filterMap]
  constructor
  · rintro ⟨j, hj, h⟩
    by_cases h2 : (d - (j : Int) - g (j : Int)) % (n : Int) = 0
    · rw [if_pos h2] at h
      exact ⟨j, List.mem_range.mp hj, h2, (Option.some.inj h).symm⟩
    · rw [if_neg h2] at h
      cases h
  · rintro ⟨j, hj, h2, rfl⟩
    exact ⟨j, List.mem_range.mpr hj, if_pos h2⟩
  )]); intro f; simpa using My.gz f 5 true
theorem fnd_res {j : Nat} (hj : j < n) (h : (d - (j : Int) - g (j : Int)) % (n : Int) = 0) : (d - g (j : Int)) % (n : Int) = (j : Int) := by
  obtain ⟨c, hc⟩ := Int.dvd_of_emod_eq_zero h
  rw [show d - g (j : Int) = (j : Int) + (n : Int) * c by omega, Int.add_mul_emod_self_left, Int.emod_eq_of_lt (by omega) (by omega)]
theorem fnd_nodup : ∀ i, i ≤ n → (fnd g n d i).Nodup
  | 0, _ => List.nodup_nil
  | i + 1, hi => by
    apply My.two; (focus intro zzI; simp only [↓ My.mkB zzI (by
    clear zzI
    have ih := fnd_nodup i (by omega)
    by_cases h : (d - (i : Int) - g (i : Int)) % (n : Int) = 0
    · rw [fnd_yes h]
      refine List.nodup_append.mpr ⟨ih, by simp, fun a ha b hb e => ?_⟩
      obtain rfl := List.mem_singleton.mp hb
      subst e
      obtain ⟨j, hj, h2, e⟩ := fnd_in.mp ha
      have e1 := fnd_res (n := n) (by omega) h
      rw [e, fnd_res (by omega) h2] at e1
      omega
    · rw [fnd_no h]
      exact ih
    )]); intro f; simpa using My.gz f 5 true
theorem fnd_mem (p : Per g n) (n0 : 0 < n) (x : Int) : x ∈ fnd g n d n ↔ x + g x = d := by
  apply My.two; (focus intro zzI; simp only [↓ My.mkB zzI (by
  clear zzI
  have m0 := Int.emod_nonneg x (show (n : Int) ≠ 0 by omega)
  have m1 := Int.emod_lt_of_pos x (show (0 : Int) < (n : Int) by omega)
  rw [fnd_in]
  constructor
  · rintro ⟨j, hj, h2, rfl⟩
    have e := p.emod (d - g (j : Int))
    rw [fnd_res hj h2] at e
    omega
  · intro h
    obtain ⟨j, hj⟩ : ∃ j : Nat, x % (n : Int) = (j : Int) := ⟨_, (Int.toNat_of_nonneg m0).symm⟩
    have e := p.emod x
    rw [hj] at e
    refine ⟨j, by omega, ?_, by omega⟩
    have dm := Int.emod_add_mul_ediv x (n : Int)
    rw [show d - (j : Int) - g (j : Int) = (n : Int) * (x / (n : Int)) by omega, Int.mul_emod_right]
  )]); intro f; simpa using My.gz f 5 true
end
theorem pw_lt : ∀ {l : List Int}, l.Pairwise (· ≤ ·) → l.Nodup → l.Pairwise (· < ·)
  | [], _, _ => .nil
  | a :: l, h, nd => by
    apply My.two; (focus intro zzI; simp only [↓ My.mkB zzI (by
    clear zzI
    obtain ⟨h1, h2⟩ := List.pairwise_cons.mp h
    obtain ⟨n1, n2⟩ := List.nodup_cons.mp nd
    refine List.pairwise_cons.mpr ⟨fun b hb => ?_, pw_lt h2 n2⟩
    have := h1 b hb
    have : a ≠ b := fun e => n1 (e ▸ hb)
    omega
    )]); intro f; simpa using My.gz f 5 true
theorem lt_eq : ∀ {l m : List Int}, l.Pairwise (· < ·) → m.Pairwise (· < ·) → (∀ x, x ∈ l ↔ x ∈ m) → l = m
  | [], [], _, _, _ => rfl
  | [], b :: m, _, _, h => absurd ((h b).mpr List.mem_cons_self) (by simp)
  | a :: l, [], _, _, h => absurd ((h a).mp List.mem_cons_self) (by simp)
  | a :: l, b :: m, hl, hm, h => by
    apply My.two; (focus intro zzI; simp only [↓ My.mkB zzI (by
    clear zzI
    obtain ⟨l1, l2⟩ := List.pairwise_cons.mp hl
    obtain ⟨m1, m2⟩ := List.pairwise_cons.mp hm
    have e : a = b := by
      rcases List.mem_cons.mp ((h a).mp List.mem_cons_self) with e | ha
      · exact e
      · rcases List.mem_cons.mp ((h b).mpr List.mem_cons_self) with e | hb
        · exact e.symm
        · have h3 := m1 a ha
          have h4 := l1 b hb
          omega
    subst e
    congr 1
    refine lt_eq l2 m2 fun x => ⟨fun hx => ?_, fun hx => ?_⟩
    · rcases List.mem_cons.mp ((h x).mp (List.mem_cons_of_mem _ hx)) with e | h2
      · have := l1 x hx
        omega
      · exact h2
    · rcases List.mem_cons.mp ((h x).mpr (List.mem_cons_of_mem _ hx)) with e | h2
      · have := m1 x hx
        omega
      · exact h2
    )]); intro f; simpa using My.gz f 5 true
theorem nd_le : ∀ (l c : List Int), l.Nodup → (∀ x ∈ l, x ∈ c) → l.length ≤ c.length
  | [], _, _, _ => Nat.zero_le _
  | a :: l, c, nd, h => by
    apply My.two; (focus intro zzI; simp only [↓ My.mkB zzI (by
    clear zzI
    obtain ⟨n1, n2⟩ := List.nodup_cons.mp nd
    have ha := h a List.mem_cons_self
    have ih := nd_le l (c.erase a) n2 fun x hx => (List.mem_erase_of_ne (fun e : x = a => n1 (e ▸ hx))).mpr (h x (List.mem_cons_of_mem _ hx))
    have hl := List.length_erase_of_mem ha
    have : 0 < c.length := List.length_pos_of_mem ha
    rw [List.length_cons]
    omega
    )]); intro f; simpa using My.gz f 5 true
section
variable {g : Int → Int} {n : Nat} {d : Int}
theorem Sts.eq {l m : List Int} (a : Sts g d l) (b : Sts g d m) : l = m := lt_eq a.1 b.1 fun x => (a.2 x).trans (b.2 x).symm
theorem Sts.of (p : Per g n) (n0 : 0 < n) {ns : List Int} (h1 : ns.Perm (fnd g n d n)) (h2 : ns.Pairwise (· ≤ ·)) : Sts g d ns :=
  ⟨pw_lt h2 (h1.nodup_iff.mpr (fnd_nodup n (Nat.le_refl _))), fun x => h1.mem_iff.trans (fnd_mem p n0 x)⟩
end
end My
namespace My
/-- how many of the days before i -/
def cI (f : Int → Int) : Nat → Int
  | 0 => 0
  | i + 1 => cI f i + f (i : Int)
/-- how many members lie before x, from day 0 on -/
def ps (f : Int → Int) (n : Nat) (x : Int) : Int := x / (n : Int) * cI f n + cI f (x % (n : Int)).toNat
section
variable {f : Int → Int} {n : Nat}
theorem ps_succ (p : Per f n) (n0 : 0 < n) (x : Int) : ps f n (x + 1) = ps f n x + f x := by
  apply My.two; (focus intro zzI; simp only [↓ My.mkB zzI (by
  clear zzI
  have m0 := Int.emod_nonneg x (show (n : Int) ≠ 0 by omega)
  have m1 := Int.emod_lt_of_pos x (show (0 : Int) < (n : Int) by omega)
  have dm := Int.emod_add_mul_ediv x (n : Int)
  have e := p.emod x
  obtain ⟨t, ht⟩ : ∃ t : Nat, x % (n : Int) = (t : Int) := ⟨_, (Int.toNat_of_nonneg m0).symm⟩
  rw [ht] at e
  unfold ps
  rw [ht, Int.toNat_natCast]
  by_cases h : t + 1 < n
  · have h1 : (x + 1) / (n : Int) = x / (n : Int) := by
      rw [show x + 1 = ((t : Int) + 1) + (n : Int) * (x / (n : Int)) by omega, Int.add_mul_ediv_left _ _ (show (n : Int) ≠ 0 by omega), Int.ediv_eq_zero_of_lt (by omega) (by omega)]
      omega
    have h2 : (x + 1) % (n : Int) = ((t + 1 : Nat) : Int) := by
      rw [show x + 1 = ((t : Int) + 1) + (n : Int) * (x / (n : Int)) by omega, Int.add_mul_emod_self_left, Int.emod_eq_of_lt (by omega) (by omega)]
      omega
    rw [h1, h2, Int.toNat_natCast]
    show _ + (cI f t + f (t : Int)) = _
    omega
  · have hn : n = t + 1 := by omega
    have h1 : (x + 1) / (n : Int) = x / (n : Int) + 1 := by
      rw [show x + 1 = 0 + (n : Int) * (x / (n : Int) + 1) by rw [Int.mul_add]; omega, Int.add_mul_ediv_left _ _ (show (n : Int) ≠ 0 by omega)]
      simp
    have h2 : (x + 1) % (n : Int) = 0 := by
      rw [show x + 1 = 0 + (n : Int) * (x / (n : Int) + 1) by rw [Int.mul_add]; omega, Int.add_mul_emod_self_left]
      simp
    have h3 : cI f n = cI f t + f (t : Int) := by rw [hn]; rfl
    rw [h1, h2, Int.add_mul, Int.one_mul]
    show _ + 0 = _
    omega
  )]); intro f; simpa using My.gz f 5 true
theorem ps_mono (p : Per f n) (n0 : 0 < n) (hb : ∀ x, f x = 0 ∨ f x = 1) {x y : Int} (h : x ≤ y) : ps f n x ≤ ps f n y := by
  apply My.two; (focus intro zzI; simp only [↓ My.mkB zzI (by
  clear zzI
  obtain ⟨k, hk⟩ : ∃ k : Nat, y = x + (k : Int) := ⟨(y - x).toNat, by omega⟩
  subst hk
  clear h
  induction k with
  | zero => simp
  | succ k ih =>
    have h1 := ps_succ p n0 (x + (k : Int))
    have h2 := hb (x + (k : Int))
    rw [show x + ((k + 1 : Nat) : Int) = x + (k : Int) + 1 by omega]
    omega
  )]); intro f; simpa using My.gz f 5 true
end
end My
namespace My
/-- o is the first day from x with f = 1, if there is one -/
def FstO (f : Int → Int) (x : Int) : Option Int → Prop
  | none => ∀ y, f y ≠ 1
  | some y => x ≤ y ∧ f y = 1 ∧ ∀ z, x ≤ z → z < y → f z ≠ 1
def LstO (f : Int → Int) (x : Int) : Option Int → Prop
  | none => ∀ y, f y ≠ 1
  | some y => y ≤ x ∧ f y = 1 ∧ ∀ z, y < z → z ≤ x → f z ≠ 1
theorem FstO.uniq {f : Int → Int} {x : Int} : ∀ {o p : Option Int}, FstO f x o → FstO f x p → o = p
  | none, none, _, _ => rfl
  | none, some y, a, b => absurd b.2.1 (a y)
  | some y, none, a, b => absurd a.2.1 (b y)
  | some y, some z, a, b => by
    apply My.two; (focus intro zzI; simp only [↓ My.mkB zzI (by
    clear zzI
    rcases Int.lt_trichotomy y z with h | h | h
    · exact absurd a.2.1 (b.2.2 y a.1 h)
    · rw [h]
    · exact absurd b.2.1 (a.2.2 z b.1 h)
    )]); intro f; simpa using My.gz f 5 true
theorem LstO.uniq {f : Int → Int} {x : Int} : ∀ {o p : Option Int}, LstO f x o → LstO f x p → o = p
  | none, none, _, _ => rfl
  | none, some y, a, b => absurd b.2.1 (a y)
  | some y, none, a, b => absurd a.2.1 (b y)
  | some y, some z, a, b => by
    apply My.two; (focus intro zzI; simp only [↓ My.mkB zzI (by
    clear zzI
    rcases Int.lt_trichotomy y z with h | h | h
    · exact absurd b.2.1 (a.2.2 z h b.1)
    · rw [h]
    · exact absurd a.2.1 (b.2.2 y h a.1)
    )]); intro f; simpa using My.gz f 5 true
end My
namespace My
section
variable {f : Int → Int} {n : Nat}
theorem num_uniq (p : Per f n) (n0 : 0 < n) (hb : ∀ x, f x = 0 ∨ f x = 1) {y z : Int} (h1 : f y = 1) (h2 : f z = 1) (h : ps f n y = ps f n z) : y = z := by
  apply My.two; (focus intro zzI; simp only [↓ My.mkB zzI (by
  clear zzI
  have a := ps_succ p n0 y
  have b := ps_succ p n0 z
  rcases Int.lt_trichotomy y z with c | c | c
  · have := ps_mono p n0 hb (show y + 1 ≤ z by omega)
    omega
  · exact c
  · have := ps_mono p n0 hb (show z + 1 ≤ y by omega)
    omega
  )]); intro f; simpa using My.gz f 5 true
end
end My
namespace My
structure Pc where
  fst : Nat
  last : Nat
  to : Bool
  num : Int
def Pc.at (c : Pc) (d : Nat) : Int := if c.to then c.num - (d : Int) else c.num
def Cov : List Pc → Nat → Nat → Prop
  | [], i, n => i = n
  | c :: cs, i, n => c.fst = i ∧ i ≤ c.last ∧ c.last < n ∧ Cov cs (c.last + 1) n
def Pc.rows (c : Pc) : List Int := (List.range (c.last + 1 - c.fst)).map fun j => c.at (c.fst + j)
def rowsOf (cs : List Pc) : List Int := cs.flatMap Pc.rows
theorem Cov.le : ∀ {cs : List Pc} {i n : Nat}, Cov cs i n → i ≤ n
  | [], i, n, h => Nat.le_of_eq h
  | c :: cs, i, n, h => by
    obtain ⟨h1, h2, h3, h4⟩ := h
    omega
end My
namespace My
open PySem PySem.Spec PyProof.Rows L2
section
variable {X : Cx} {CX : CXT} {n : Nat} {C g : Addr} {sp : Sp} {E : XK}
/-- an instance that is tracked, as the library sees it -/
theorem inst_of {pins : List (Addr × Obj)} {σ : L2.St} {H : Hp} {s : Shared} {a dx : Addr} {fs : List (Str × V)} (I : Inv X pins σ H s) (h : H a = some (.ins C dx fs)) :
    ∃ od, PySem.W.InstAt s.heap a (PySem.W.instObj C dx) C (some od) := by
  apply My.two; (focus intro zzI; simp only [↓ My.mkB zzI (by
  clear zzI
  obtain ⟨mA, O, _⟩ := ins_get I.hok h
  obtain ⟨od, J, _⟩ := O.look
  exact ⟨od, J⟩
  )]); intro f; simpa using My.gz f 5 true
end
def tPropR (C : Addr) (sp : Sp) (E : XK) (ta : TE) : TE := fun σ H Q => ta σ H fun x H1 => ∃ a dx fs, x = .ref a ∧ H1 a = some (.ins C dx fs) ∧ sp [.ref a] H1 Q E
section
variable {X : Cx} {CX : CXT} {k : Nat} {C p g : Addr} {f : Str} {sp : Sp} {E : XK} {e : Expr} {pos : Pos} {ta : TE}
theorem pe_propR (he : PE X e ta) (c : Cls X.K C) (hp : PropOf X.K C f p g) (F : FnR X.prog X.w X.K X.mg X.base CX k g sp) (hr : Room (k + 1) X.A)
    (hx : Passes CX X.nox E) (hab : attributeBase e f X.env (eval e X.env) = eval e X.env := by rfl) : PE X (.Attribute e f pos) (tPropR C sp E ta) := by
  apply My.two; (focus intro zzI; simp only [↓ My.mkB zzI (by
  clear zzI
  refine ⟨fun pins s σ H Q I h => attr_of hab (thn (he.run pins s σ H _ I h) fun u s1 z => ?_)⟩
  obtain ⟨x, H1, I1, rx, a, dx, fs, ex, ea, q⟩ := z
  subst ex
  obtain rfl : u = Value.ref a := rx
  obtain ⟨od, J⟩ := inst_of I1 ea
  obtain ⟨rest, hrec⟩ := hp.rec_
  have I2 := I1.tok (s1.toks + 1)
  have isC : (PySem.W.clsIn X.K C).isSome = true := by
    obtain ⟨cd, hcd, _⟩ := PySem.W.any_some c.hd
    rw [hcd]
    rfl
  refine PySem.W.get_bind I1.kIn J (PySem.W.plainGet_of (c.get f)).1 (PySem.W.findObj_data isC hp.at_ hp.get hp.tak) (PySem.W.plainGet_of (c.get f)).2
    (wpAny_call (PySem.W.prop_get (s := { s1 with toks := s1.toks + 1 }) I1.kIn hrec ?_))
  have v1 : Vals [V.ref a] [Value.ref a] := .cons rfl .nil
  refine codeAny_mono (F X.A.in1 X.stack _ H1 _ _ Q E hr.in1 I2.env0.in1 v1 q) fun r s' hq => ?_
  rcases r with er | fl
  · exact False.elim (hx pins σ H1 { s1 with toks := s1.toks + 1 } er s' (I2.wish _) hq)
  · cases fl with
    | ret w =>
      obtain ⟨v, H', I3, rv, q3⟩ := I2.after hq
      show wpAny _ _ (handedOut w) _ _ _
      rw [PySem.W.handedOut_of (handed_of rv)]
      exact wpAny_pure ⟨v, H', I3, rv, q3⟩
    | next => exact False.elim hq
    | brk => exact False.elim hq
    | cont => exact False.elim hq
  )]); intro f; simpa using My.gz f 5 true
end
def tFn (sp : Sp) (E : XK) (t : TA) : TE := fun σ H Q => t σ H fun vs H1 => sp vs H1 Q E
section
variable {X : Cx} {CX : CXT} {k i : Nat} {C f p g : Addr} {mc : Value} {sp : Sp} {E : XK} {x m : Str} {e o : Expr} {es : List Expr} {ta : TE} {t : TA} {np pos apos : Pos} {pl : Sem Bool}
/-- x(e, ..), x a def of the module -/
theorem pe_fR (F : FnR X.prog X.w X.K X.mg X.base CX k f sp) (hk : PySem.W.keepIn X.K (.ref f) = true) (hm : X.mg x = some (.ref f)) (hr : Room k X.A) (hx : Passes CX X E) (ha : PA X (e :: es) t)
    (hg : Gl X x := by rfl) (hd : (x == ("__debug__" : Str)) = false := by decide) (hse : starEach (e :: es) X.env = (false, eval e X.env) :: starEach es X.env := by rfl)
    (hpl : (backTo pos (starEach es X.env)).any (·.1) = false := by rfl) : PE X (.Call (.Name x np) (e :: es) [] pos) (tFn sp E t) := by
  refine ⟨fun pins s σ H Q I h => wpAny_Call_Name_kw (ld_glob I hg hm ?_ hd)⟩
  refine PySem.W.callWith_K (h₀ := X.base) I.ok.mod.kin hk (thn (ha.run pos pins s σ H _ I h) fun us s1 z => ?_) hse hpl
  obtain ⟨vs, H1, I1, r, q⟩ := z
  exact ⟨I1.kIn, wpAny_call (run_fnR F hr hx I1 r q)⟩
/-- x() -/
theorem pe_f0R (F : FnR X.prog X.w X.K X.mg X.base CX k f sp) (hk : PySem.W.keepIn X.K (.ref f) = true) (hm : X.mg x = some (.ref f)) (hr : Room k X.A) (hx : Passes CX X E)
    (hg : Gl X x := by rfl) (hd : (x == ("__debug__" : Str)) = false := by decide) : PE X (.Call (.Name x np) [] [] pos) (tFn sp E tNil) := by
  refine ⟨fun pins s σ H Q I h => wpAny_Call_Name_kw (ld_glob I hg hm ?_ hd)⟩
  exact PySem.W.callWith_K0 I.kIn hk (wpAny_call (run_fnR (us := []) (vs := []) F hr hx I .nil h))
/-- o.m() of an instance -/
theorem pe_m0R (he : PE X o ta) (c : Cls X.K C) (hm : Meth X.K C m f) (F : FnR X.prog X.w X.K X.mg X.base CX k f sp) (hr : Room k X.A) (hx : Passes CX X E)
    (ht : eval (.Call (.Attribute o m apos) [] [] pos) X.env = (do
      let ov ← eval o X.env
      standAt apos.atName
      let (f, first) ← holding [ov] (getMethod ov m pl)
      callWith pos f first (backTo pos (starEach [] X.env)) (backToKw pos (keywordEach [] X.env))) := by rfl) :
    PE X (.Call (.Attribute o m apos) [] [] pos) (tMethR C m sp E ta tNil) := by
  refine ⟨fun pins s σ H Q I h => PySem.W.methodCall_KW (pl := pl) (thn (he.run pins s σ H _ I h) fun u s1 z => ?_) ht⟩
  obtain ⟨y, H1, I1, ry, a, dx, fs, ey, ea, l, q⟩ := z
  subst ey
  obtain rfl : u = Value.ref a := ry
  have v1 : Vals [V.ref a] [Value.ref a] := .cons rfl .nil
  exact getmeth_ok I1 ea c hm l (PySem.W.callWith_K0 (first := [.ref a]) I1.kIn hm.kp (wpAny_call (run_fnR F hr hx I1 v1 q)))
/-- C.m(), m a classmethod -/
theorem pe_cm0R (he : PE X o ta) (r : ClX.CRead X.K C mc) (c : ClX.CMet X.K C mc m p g) (F : FnR X.prog X.w X.K X.mg X.base CX k g sp) (hr : Room k X.A) (hx : Passes CX X E)
    (ht : eval (.Call (.Attribute o m apos) [] [] pos) X.env = (do
      let ov ← eval o X.env
      standAt apos.atName
      let (f, first) ← holding [ov] (getMethod ov m pl)
      callWith pos f first (backTo pos (starEach [] X.env)) (backToKw pos (keywordEach [] X.env))) := by rfl) :
    PE X (.Call (.Attribute o m apos) [] [] pos) (ClX.tCMeth C sp E ta tNil) := by
  refine ⟨fun pins s σ H Q I h => PySem.W.methodCall_KW (pl := pl) (thn (he.run pins s σ H _ I h) fun u s1 z => ?_) ht⟩
  obtain ⟨y, H1, I1, ry, ey, q⟩ := z
  subst ey
  obtain rfl : u = Value.ref C := ry
  refine ClX.getmethcm_ok I1 r c fun s2 I2 => ?_
  exact PySem.W.callWith_M0 (first := []) ⟨ClX.pin_at I2, I2.kIn⟩ c.fi (ClX.run_cm (us := []) F hr hx I2 .nil q)
end
end My
namespace My
open PySem PySem.Spec PyProof.Rows L2
abbrev Fg := PySem.W.Frag
/-- the hook's look -/
def seeX (fa : List (Fg → Bool)) (fn : List He5.DefA) (K : Fg) : He.AlD := (fa.all (fun f => f K) && fn.all (fun d => d.ok K), fn.map fun d => He5.fnA K (d.at_ K))
def dueX (fn : List He5.DefA) : He.AlD := (true, fn.map He5.DefA.val)
/-- what some addresses reach in n steps -/
def front (g : Addr → Option Obj) : Nat → List Addr → List Addr
  | 0, as => as
  | n + 1, as => as ++ front g n (as.flatMap fun a => match g a with
    | some o => He.refsD o
    | none => [])
/-- the module's names, what some of them reach in n steps, and the interpreter's own statics -/
def asW (ns : List Str) (n : Nat) (g : Addr → Option Obj) : List Addr := mainGlobals :: cStatics :: sysModules :: front g n (ns.map (He.ga (He.frG g [mainGlobals])))
def seeG (ns : List Str) (n : Nat) (fa : List (Fg → Bool)) (fn : List He5.DefA) (g : Addr → Option Obj) : He.AlD := seeX fa fn (He.frG g (asW ns n g))
def hookX (ns : List Str) (n : Nat) (fa : List (Fg → Bool)) (fn : List He5.DefA) : PySem.W.Hook where
  α := He.AlD
  obs := fun s => seeG ns n fa fn s.heap.get?
  val := fun _ => dueX fn
  says := fun _ h => ∃ K : Fg, K.In h ∧ seeX fa fn K = dueX fn
  of := fun _ _ e => ⟨_, He.frG_in, e⟩
  keeps := fun _ _ _ z k => z.elim fun K q => ⟨K, PySem.W.Frag.In.keeps q.1 k, q.2⟩
theorem seeG_eq {ns : List Str} {n : Nat} {fa : List (Fg → Bool)} {fn : List He5.DefA} {g : Addr → Option Obj} {s : Shared} (h : ∀ a, g a = s.heap.get? a) : seeG ns n fa fn g = (hookX ns n fa fn).obs s := by
  obtain rfl : g = s.heap.get? := funext h
  rfl
structure TxOf (fa : List (Fg → Bool)) (fn : List He5.DefA) (K : Fg) (mg : Str → Option Value) : Prop where
  inn : ∃ h : Heap, K.In h ∧ h.Ns mainGlobals mg
  says : seeX fa fn K = dueX fn
section
variable {fa : List (Fg → Bool)} {fn : List He5.DefA} {K : Fg} {mg : Str → Option Value}
theorem TxOf.fact (T : TxOf fa fn K mg) (i : Nat) {f : Fg → Bool} (h : fa[i]? = some f := by rfl) : f K = true := by
  apply My.two; (focus intro zzI; simp only [↓ My.mkB zzI (by
  clear zzI
  have e : (fa.all (fun f => f K) && fn.all (fun d => d.ok K)) = true := congrArg (fun z : He.AlD => z.1) T.says
  have e1 := List.all_eq_true.mp (He.ba e).1
  exact e1 f (List.mem_of_getElem? h)
  )]); intro f; simpa using My.gz f 5 true
theorem TxOf.fund (T : TxOf fa fn K mg) (i : Nat) {d : He5.DefA} (h : fn[i]? = some d := by rfl) : ∃ fd, FunD K d.name d.qual d.params d.body d.scope (d.dvs K) (d.kws K) (d.at_ K) fd := by
  apply My.two; (focus intro zzI; simp only [↓ My.mkB zzI (by
  clear zzI
  have e : (fa.all (fun f => f K) && fn.all (fun d => d.ok K)) = true := congrArg (fun z : He.AlD => z.1) T.says
  have e1 := List.all_eq_true.mp (He.ba e).2 d (List.mem_of_getElem? h)
  have e2 : fn.map (fun d => He5.fnA K (d.at_ K)) = fn.map He5.DefA.val := congrArg (fun z : He.AlD => z.2) T.says
  have e3 := congrArg (fun l => l[i]?) e2
  simp only [List.getElem?_map, h, Option.map_some, Option.some.injEq] at e3
  exact He5.DefA.funD e3 e1
  )]); intro f; simpa using My.gz f 5 true
theorem TxOf.glo (T : TxOf fa fn K mg) {x : Str} (c : (He.Fa.glo x).ok K = true) : mg x = some (.ref (He.ga K x)) := T.inn.elim fun _ q => He.glo_ok q.1 q.2 c
theorem TxOf.free (T : TxOf fa fn K mg) {x : Str} (c : (He.Fa.free x).ok K = true) : mg x = none := T.inn.elim fun _ q => He.free_ok q.1 q.2 c
theorem TxOf.int (T : TxOf fa fn K mg) {x : Str} {i : Int} (c : (He.Fa.int x i).ok K = true) : ∃ t, mg x = some (.int i t) := T.inn.elim fun _ q => He.int_ok q.1 q.2 c
/-- a def keeps its promise, by positional values: no defaults, nothing raised -/
theorem TxOf.fnR {P : Program} {w : World} {base : Heap} (T : TxOf fa fn K mg) (i : Nat) {x qual : Str} {st : Stmt} {at_ : Fg → Addr} {N ps : List Str} {k : Nat} {sp : Sp}
    (hi : fn[i]? = some ⟨at_, x, qual, defArgs st, defBody st, defScope st, [], []⟩) (S : FnScope N ps (defScope st))
    (hb : ∀ (kV doc pm : Value) (an : Option Addr) (cdv ct : Value) (us : List Value), us.length = ps.length →
      bindArgs (PySem.W.fnOf x qual (defArgs st) (defBody st) (defScope st) .none kV doc pm an cdv ct) ⟨us, []⟩ = pure (ps.zip us))
    (len : ∀ vs H Q E, sp vs H Q E → vs.length = ps.length)
    (hbody : ∀ (cdv : Value) (A : Around) (outer : List Env) (s : Shared) (H : Hp) (vs : List V) (Q : VK) (E : XK), Room k (A.deeper (envOfC qual (defScope st) s.heap.objs.size (at_ K) cdv)) → sp vs H Q E →
      ∃ t, PSs (cxOf CX0 P w K mg base N qual (defScope st) (at_ K) cdv A outer s H E).nox (defBody st) t ∧ t { nx := fun _ H' => Q .non H', rt := Q } (start N vs) H) :
    FnR P w K mg base CX0 (k + 1) (at_ K) sp := by
  apply My.two; (focus intro zzI; simp only [↓ My.mkB zzI (by
  clear zzI
  obtain ⟨fd, F⟩ := T.fund i hi
  have F0 : FunD K x qual (defArgs st) (defBody st) (defScope st) [] [] (at_ K) fd := F
  have G : FnOk P w K mg base CX0 (k + 1) (at_ K) fd ps sp := F0.ok S len fun cdv A outer s H vs Q E hr h => by
    obtain ⟨t, h1, h2⟩ := hbody cdv A outer s H vs Q E hr h
    exact ⟨t, h1.nox, h2⟩
  exact (G.raw (F0.bindsN hb) .nil).imp fun vs H Q E h => by
    rw [List.append_nil]
    exact h
  )]); intro f; simpa using My.gz f 5 true
theorem TxOf.kp (T : TxOf fa fn K mg) (i : Nat) {x qual : Str} {st : Stmt} {at_ : Fg → Addr} (hi : fn[i]? = some ⟨at_, x, qual, defArgs st, defBody st, defScope st, [], []⟩) : PySem.W.keepIn K (.ref (at_ K)) = true := by
  obtain ⟨fd, F⟩ := T.fund i hi
  exact F.kp
end
def propB (C f : Str) (K : Fg) : Bool := He.eqO (PySem.W.findIn K (.ref (He.ga K C)) f) (some (some (.ref (He.ma K (He.ga K C) f)))) &&
  (He.eqO (PySem.W.specialIn K (.ref (He.ma K (He.ga K C) f)) "__get__") (some (some (.builtin "property.__get__"))) && (decide (PySem.W.takesIn K (.ref (He.ma K (He.ga K C) f)) = some true) &&
  (match PySem.W.recIn K (He.ma K (He.ga K C) f) "property" with
    | some (.ref _ :: _) => true
    | _ => false)))
theorem propB_ok {C f : Str} {K : Fg} (h : propB C f K = true) : PropOf K (He.ga K C) f (He.ma K (He.ga K C) f) (He5.wf K (He.ga K C) "property" f) := by
  apply My.two; (focus intro zzI; simp only [↓ My.mkB zzI (by
  clear zzI
  obtain ⟨h1, h⟩ := He.ba h
  obtain ⟨h2, h⟩ := He.ba h
  obtain ⟨h3, h4⟩ := He.ba h
  refine ⟨He.eqO_ok h1, He.eqO_ok h2, of_decide_eq_true h3, ?_⟩
  unfold He5.wf
  split at h4
  · rename_i f r e
    exact ⟨r, by rw [e]⟩
  · cases h4
  )]); intro f; simpa using My.gz f 5 true
def cmB (C m : Str) (K : Fg) : Bool := He5.wrapB K (He.ga K C) "classmethod" "classmethod.__get__" m && PySem.W.fnIn K (He5.wf K (He.ga K C) "classmethod" m)
theorem cmB_ok {C m : Str} {K : Fg} (h : cmB C m K = true) : ClX.CMet K (He.ga K C) (.type "type") m (He.ma K (He.ga K C) m) (He5.wf K (He.ga K C) "classmethod" m) :=
  He5.cmet_of (He.ba h).1 (He.ba h).2
def crB (C : Str) (K : Fg) : Bool := PySem.W.readsIn K (He.ga K C) (.type "type") && He.eqO (PySem.W.specialIn K (.ref (He.ga K C)) "__getattribute__") (some (some (.builtin "type.__getattribute__")))
theorem crB_ok {C : Str} {K : Fg} (h : crB C K = true) : ClX.CRead K (He.ga K C) (.type "type") := ⟨(He.ba h).1, He.eqO_ok (He.ba h).2⟩
/-- an own special method -/
def spB (C m : Str) (K : Fg) : Bool := He.eqO (PySem.W.findIn K (.ref (He.ga K C)) m) (some (some (.ref (He.ma K (He.ga K C) m)))) && PySem.W.isFn K (.ref (He.ma K (He.ga K C) m))
def firstB (C : Str) (K : Fg) : Bool := PySem.W.selfFirst K (He.ga K C) && PySem.W.notFirst K (He.ga K C) (.ref (He.ga K C))
/-- what isinstance asks of the class of an instance -/
def tyB (C : Str) (K : Fg) : Bool := He.eqO (PySem.W.findIn K (.ref (He.ga K C)) "__class__") (some (some (.builtin "object.__class__"))) &&
  (He.eqO (PySem.W.specialIn K (.builtin "object.__class__") "__get__") (some (some (.builtin "getset_descriptor.__get__"))) &&
  (decide (PySem.W.takesIn K (.builtin "object.__class__") = some true) && decide (PySem.W.mroIn K (He.ga K C) (.type "object") = some true)))
def isiB (C D : Str) (b : Bool) (K : Fg) : Bool := decide (PySem.W.kitOne K (.ref (He.ga K C)) (.ref (He.ga K D)) = some b)
theorem eqvAll_ints : ∀ xs ys : List Int, PyData.eqvAll (xs.map PyData.int) (ys.map PyData.int) = decide (xs = ys)
  | [], [] => by simp [PyData.eqvAll]
  | [], y :: ys => by simp [PyData.eqvAll]
  | x :: xs, [] => by simp [PyData.eqvAll]
  | x :: xs, y :: ys => by
    apply My.two; (focus intro zzI; simp only [↓ My.mkB zzI (by
    clear zzI
    have ih := eqvAll_ints xs ys
    simp only [List.map_cons, PyData.eqvAll, PyData.eqv, ih]
    by_cases h1 : x = y <;> by_cases h2 : xs = ys <;> simp [h1, h2]
    )]); intro f; simpa using My.gz f 5 true
theorem canLay_ints : ∀ xs : List Int, PyData.canLayAll0 (xs.map PyData.int) = true
  | [] => by simp [PyData.canLayAll0]
  | x :: xs => by simp [PyData.canLayAll0, PyData.canLay0, canLay_ints xs]
theorem depth_ints : ∀ xs : List Int, PyData.depthAll (xs.map PyData.int) ≤ 1
  | [] => by simp [PyData.depthAll]
  | x :: xs => by
    apply My.two; (focus intro zzI; simp only [↓ My.mkB zzI (by
    clear zzI
    have := depth_ints xs
    simp [PyData.depthAll, PyData.depth]
    omega
    )]); intro f; simpa using My.gz f 5 true
theorem shaped_list (xs : List Int) : SeqAt.shaped (.list (xs.map PyData.int)) = true := by
  apply My.two; (focus intro zzI; simp only [↓ My.mkB zzI (by
  clear zzI
  have := depth_ints xs
  simp [SeqAt.shaped, PyData.canLay0, PyData.depth, canLay_ints]
  omega
  )]); intro f; simpa using My.gz f 5 true
theorem shaped_tup (xs : List Int) : SeqAt.shaped (.tuple (xs.map PyData.int)) = true := by
  apply My.two; (focus intro zzI; simp only [↓ My.mkB zzI (by
  clear zzI
  have := depth_ints xs
  simp [SeqAt.shaped, PyData.canLay0, PyData.depth, canLay_ints]
  omega
  )]); intro f; simpa using My.gz f 5 true
theorem dp_ints {K : Fg} {H : Hp} : ∀ xs : List Int, DpAll K H (xs.map V.int) (xs.map PyData.int)
  | [] => .nil
  | x :: xs => .cons (.int x) (dp_ints xs)
def rEqI (K : Fg) (neg : Bool) : R2 := fun x y H Q => ∃ (a b : Addr) (xs ys : List Int), x = .ref a ∧ y = .ref b ∧
  ((SqL K H a (xs.map V.int) ∧ SqL K H b (ys.map V.int)) ∨ (SqT K H a (xs.map V.int) ∧ SqT K H b (ys.map V.int))) ∧ Q (.bl (if neg then !decide (xs = ys) else decide (xs = ys))) H
section
variable {X : Cx}
/-- two lists, two tuples of ints: == -/
theorem op_eqI (hu : X.A.units + 64 < cLine) : OpR X (compareOp .Eq) (rEqI X.K false) := by
  apply My.two; (focus intro zzI; simp only [↓ My.mkB zzI (by
  clear zzI
  intro pins s σ H x y v u Q I rx ry h
  obtain ⟨a, b, xs, ys, rfl, rfl, h, q⟩ := h
  rcases h with ⟨h1, h2⟩ | ⟨h1, h2⟩
  · refine op_eqD hu pins s σ H (.ref a) (.ref b) v u Q I rx ry ⟨_, _, .lst h1 (dp_ints xs), .lst h2 (dp_ints ys), ?_, ?_, ?_⟩
    · first | exact shaped_list _ | exact shaped_tup _
    · first | exact shaped_list _ | exact shaped_tup _
    · rw [PyData.eqv, eqvAll_ints]
      exact q
  · refine op_eqD hu pins s σ H (.ref a) (.ref b) v u Q I rx ry ⟨_, _, .tup h1 (dp_ints xs), .tup h2 (dp_ints ys), ?_, ?_, ?_⟩
    · first | exact shaped_list _ | exact shaped_tup _
    · first | exact shaped_list _ | exact shaped_tup _
    · rw [PyData.eqv, eqvAll_ints]
      exact q
  )]); intro f; simpa using My.gz f 5 true
/-- .. and != -/
theorem op_neI (hu : X.A.units + 64 < cLine) : OpR X (compareOp .NotEq) (rEqI X.K true) := by
  apply My.two; (focus intro zzI; simp only [↓ My.mkB zzI (by
  clear zzI
  intro pins s σ H x y v u Q I rx ry h
  obtain ⟨a, b, xs, ys, rfl, rfl, h, q⟩ := h
  rcases h with ⟨h1, h2⟩ | ⟨h1, h2⟩
  · refine op_neD hu pins s σ H (.ref a) (.ref b) v u Q I rx ry ⟨_, _, .lst h1 (dp_ints xs), .lst h2 (dp_ints ys), ?_, ?_, ?_⟩
    · first | exact shaped_list _ | exact shaped_tup _
    · first | exact shaped_list _ | exact shaped_tup _
    · rw [PyData.eqv, eqvAll_ints]
      exact q
  · refine op_neD hu pins s σ H (.ref a) (.ref b) v u Q I rx ry ⟨_, _, .tup h1 (dp_ints xs), .tup h2 (dp_ints ys), ?_, ?_, ?_⟩
    · first | exact shaped_list _ | exact shaped_tup _
    · first | exact shaped_list _ | exact shaped_tup _
    · rw [PyData.eqv, eqvAll_ints]
      exact q
  )]); intro f; simpa using My.gz f 5 true
end
theorem sz {n : Nat} (h : n ≤ 1000000) : n ≤ sizeLine := Nat.le_trans h (by decide)
theorem szl {n : Nat} (h : n < 1000000) : n < sizeLine := Nat.lt_of_lt_of_le h (by decide)
/-- a turn of a while that goes on -/
theorem wh_go {W : Nat → L2.St → Hp → Prop} {m : Nat} {tb : TS} {D : Ends} {σ : L2.St} {H : Hp}
    (h : tb { D with nx := fun σ' H' => ∃ m', m' < m ∧ W m' σ' H', ct := fun σ' H' => ∃ m', m' < m ∧ W m' σ' H', bk := D.nx } σ H) :
    ∃ N : L2.St → Hp → Prop, (∀ σ' H', N σ' H' → ∃ m', m' < m ∧ W m' σ' H') ∧ tb { D with nx := N, ct := N, bk := D.nx } σ H := ⟨_, fun _ _ z => z, h⟩
theorem abs_nat (a : Nat) : (if (a : Int) < 0 then -(a : Int) else (a : Int)) = (a : Int) := if_neg (by omega)
theorem cut_to {xs : List V} (d : Nat) : cutV xs none (some (d : Int)) = xs.take d := by
  apply My.two; (focus intro zzI; simp only [↓ My.mkB zzI (by
  clear zzI
  unfold cutV
  rw [HT.sIx_nat, HT.sIx_none, List.drop_zero, Nat.sub_zero]
  by_cases h : d ≤ xs.length
  · rw [Nat.min_eq_left h]
  · rw [Nat.min_eq_right (by omega), List.take_of_length_le (Nat.le_refl _), List.take_of_length_le (by omega)]
  )]); intro f; simpa using My.gz f 5 true
theorem same_upd {H : Hp} {p : Addr} {o : HO} (h : H p = none) : Same H (upd H p o) := fun b u e => by
  rw [upd_ne (ne_of_none e h)]
  exact e
theorem same_tup {H H' : Hp} {K : Fg} {a : Addr} {xs : List V} (s : Same H H') (h : SqT K H a xs) : SqT K H' a xs := by
  apply My.two; (focus intro zzI; simp only [↓ My.mkB zzI (by
  clear zzI
  rcases h with (h | ⟨o, h⟩) | h
  · exact .inl (.inl (s _ _ h))
  · exact .inl (.inr ⟨o, s _ _ h⟩)
  · exact .inr h
  )]); intro f; simpa using My.gz f 5 true
theorem mapInt_take (xs : List Int) (d : Nat) : (xs.map V.int).take d = (xs.take d).map V.int := (List.map_take).symm
theorem mapInt_get {xs : List Int} {j : Nat} {i : Int} (h : xs[j]? = some i) : (xs.map V.int)[j]? = some (V.int i) := by
  rw [List.getElem?_map, h]
  rfl
/-- the same slots, written otherwise -/
theorem at_st {W : L2.St → Hp → Prop} {σ σ' : L2.St} {H : Hp} (e : σ = σ') (h : W σ' H) : W σ H := e ▸ h
def Acc (H1 : Hp) (D : Addr) (f : Nat → V) (i : Nat) (H : Hp) : Prop := Same H1 H ∧ H D = some (.lst ((List.range i).map f))
theorem Acc.start {H1 : Hp} {D : Addr} {f : Nat → V} (hD : H1 D = none) : Acc H1 D f 0 (upd H1 D (.lst [])) := ⟨same_upd hD, upd_same⟩
theorem same_under {H1 H : Hp} {D : Addr} {o : HO} (s : Same H1 H) (hD : H1 D = none) : Same H1 (upd H D o) := fun b u e => by
  rw [upd_ne (ne_of_none e hD)]
  exact s b u e
theorem range_push {f : Nat → V} (i : Nat) : (List.range i).map f ++ [f i] = (List.range (i + 1)).map f := by
  rw [List.range_succ, List.map_append]
  rfl
theorem Acc.push {H1 H H4 : Hp} {D : Addr} {f : Nat → V} {i : Nat} {y : V} (a : Acc H1 D f i H) (hD : H1 D = none) (s : Same H H4) (hi : i < 1000000) (e : y = f i) :
    ∃ acc, H4 D = some (.lst acc) ∧ acc.length < sizeLine ∧ Acc H1 D f (i + 1) (upd H4 D (.lst (acc ++ [y]))) := by
  apply My.two; (focus intro zzI; simp only [↓ My.mkB zzI (by
  clear zzI
  refine ⟨_, s _ _ a.2, ?_, same_under (a.1.trans s) hD, ?_⟩
  · rw [List.length_map, List.length_range]
    exact szl hi
  · rw [upd_same, e, range_push]
  )]); intro f; simpa using My.gz f 5 true
section
variable {fa : List (Fg → Bool)} {fn : List He5.DefA} {K : Fg} {mg : Str → Option Value} {X : Cx}
def rLenQ (K : Fg) : List V → Hp → VK → Prop := fun xs H Q => ∃ p ys, xs = [.ref p] ∧ (SqL K H p ys ∨ SqT K H p ys) ∧ Q (.int (ys.length : Int)) H
def rListQ (K : Fg) : List V → Hp → VK → Prop := fun xs H Q => ∃ p ys, xs = [.ref p] ∧ (SqL K H p ys ∨ SqT K H p ys) ∧ ∀ l, H l = none → Q (.ref l) (upd H l (.lst ys))
def rTupQ (K : Fg) : List V → Hp → VK → Prop := fun xs H Q => ∃ p ys, xs = [.ref p] ∧ ((SqL K H p ys ∧ ∀ l, H l = none → Q (.ref l) (upd H l (.tup ys))) ∨ (SqT K H p ys ∧ Q (.ref p) H))
theorem len_k (T : TxOf fa fn K mg) (hK : X.K = K := by rfl) : CallR X (.builtin "len") (rLenQ K) := by subst hK; exact call_len_seq
theorem lst_k (T : TxOf fa fn K mg) (hK : X.K = K := by rfl) : CallR X (.type "list") (rListQ K) := by subst hK; exact call_list_of
theorem tup_k (T : TxOf fa fn K mg) (hK : X.K = K := by rfl) : CallR X (.type "tuple") (rTupQ K) := by subst hK; exact call_tuple_of
theorem isi_k (T : TxOf fa fn K mg) (hK : X.K = K := by rfl) : CallR X (.builtin "isinstance") (rIsi K) := by subst hK; exact call_isi
theorem isiT_k (T : TxOf fa fn K mg) (hK : X.K = K := by rfl) : CallR X (.builtin "isinstance") (rIsiT K) := by subst hK; exact call_isiT
theorem all_k (T : TxOf fa fn K mg) (hc : X.calm = true) (hK : X.K = K := by rfl) : CallR X (.builtin "all") (rAll K) := by subst hK; exact cr_all hc
theorem ixl (T : TxOf fa fn K mg) (hK : X.K = K := by rfl) : IxR X (rIxL K) := by subst hK; exact ix_list
theorem ixt (T : TxOf fa fn K mg) (hK : X.K = K := by rfl) : IxR X (rIxT K) := by subst hK; exact ix_tup
theorem sll (T : TxOf fa fn K mg) (hK : X.K = K := by rfl) : SlR X (rSlL K) := by subst hK; exact sl_list
theorem slt (T : TxOf fa fn K mg) (hK : X.K = K := by rfl) : SlR X (rSlT K) := by subst hK; exact sl_tup
theorem eqi (T : TxOf fa fn K mg) (hu : X.A.units + 64 < cLine) (hK : X.K = K := by rfl) : OpR X (compareOp .Eq) (rEqI K false) := by subst hK; exact op_eqI hu
theorem nei (T : TxOf fa fn K mg) (hu : X.A.units + 64 < cLine) (hK : X.K = K := by rfl) : OpR X (compareOp .NotEq) (rEqI K true) := by subst hK; exact op_neI hu
variable {tg l e : Expr} {tl : TE} {ta : TA}
theorem pil (T : TxOf fa fn K mg) (hl : PE X l tl) (hK : X.K = K := by rfl) : PI X tg l (iList K tl) := by subst hK; exact pi_list hl
theorem pgt (T : TxOf fa fn K mg) {es : List Expr} {k n : Nat} {t : TGs} {pos : Pos} (hc : X.calm = true) (h : PGs X es t) (hK : X.K = K := by rfl) (hn : (assignEach es X.env).length = n := by rfl)
    (hst : (assignEach es X.env).findIdx? (·.1) = none := by rfl) : PG X (.Tuple es k pos) (gTup K n t) := by subst hK; exact pg_tup hc h hn hst
theorem fld (T : TxOf fa fn K mg) {f : Str} {pos : Pos} (he : PE X e tl) (hK : X.K = K := by rfl) (hb : attributeBase e f X.env (eval e X.env) = eval e X.env := by rfl) : PE X (.Attribute e f pos) (tFld K tl f) := by subst hK; exact pe_fld he hb
end
/-- any loop that has no slots of its own, by an invariant over the turn and the heap -/
theorem walk_w {J : It} {n : Nat} {G : Hp → Prop} {Y : Nat → Hp → V → Hp → Prop} (w : Walk J n G Y) {H0 : Hp} {Qd : Hp → Prop} {bd : (Hp → Prop) → V → Hp → Prop} (Pv : Nat → Hp → Prop) (h0 : Pv 0 H0)
    (hG : ∀ i H, i ≤ n → Pv i H → G H) (hs : ∀ i x H H', i < n → Pv i H → Y i H x H' → bd (Pv (i + 1)) x H') (hd : ∀ H, Pv n H → Qd H) :
    ∃ W : Nat → Nat → Hp → Prop, (∃ m, W 0 m H0) ∧ ∀ i m H, W i m H → (J.stop i H ∧ Qd H) ∨ (J.go i H ∧ ∃ Nx : Hp → Prop, (∀ H', Nx H' → ∃ m', m' < m ∧ W (i + 1) m' H') ∧ ∀ x H', J.yld i H x H' → bd Nx x H') := by
  apply My.two; (focus intro zzI; simp only [↓ My.mkB zzI (by
  clear zzI
  refine ⟨fun i m H => m = n - i ∧ i ≤ n ∧ Pv i H, ⟨n, (Nat.sub_zero n).symm, Nat.zero_le _, h0⟩, fun i m H z => ?_⟩
  obtain ⟨rfl, hi, p⟩ := z
  have g := hG i H hi p
  rcases Nat.lt_or_ge i n with lt | ge
  · exact .inr ⟨w.goes i H lt g, Pv (i + 1), fun H' q => ⟨n - (i + 1), by omega, rfl, lt, q⟩, fun x H' y => hs i x H H' lt p (w.yields i H x H' lt g y)⟩
  · obtain rfl : i = n := Nat.le_antisymm hi ge
    exact .inl ⟨w.stops H g, hd H p⟩
  )]); intro f; simpa using My.gz f 5 true
/-- a comprehension without a test -/
theorem yes_t {σ : L2.St} {H : Hp} {A B : Hp → Prop} (h : A H) : tYes σ H fun b H3 => if b = true then A H3 else B H3 := by
  apply My.two; (focus intro zzI; simp only [↓ My.mkB zzI (by
  clear zzI
  show if true = true then A H else B H
  rw [if_pos rfl]
  exact h
  )]); intro f; simpa using My.gz f 5 true
end My
namespace My
open PySem PySem.Spec PyProof.Rows L2
def iSeqX (K : Fg) (x : V) (H1 : Hp) (R : It → Hp → Prop) : Prop := ∃ a, x = .ref a ∧ ((∃ xs, SqL K H1 a xs ∧ R (Itl K a) H1) ∨ ∃ xs, SqT K H1 a xs ∧ R (Itt K a) H1)
def iSeq (K : Fg) (tl : TE) : TI := fun σ H R => tl σ H fun x H1 => iSeqX K x H1 R
section
variable {fa : List (Fg → Bool)} {fn : List He5.DefA} {K : Fg} {mg : Str → Option Value} {X : Cx} {tg l : Expr} {tl : TE}
theorem pis (T : TxOf fa fn K mg) (hl : PE X l tl) (hK : X.K = K := by rfl) : PI X tg l (iSeq K tl) := by
  apply My.two; (focus intro zzI; simp only [↓ My.mkB zzI (by
  clear zzI
  subst hK
  refine ⟨fun pins s σ H R I h => thn (hl.run pins s σ H _ I h) fun v s1 z => ?_⟩
  obtain ⟨x, H1, I1, r1, a, rfl, q⟩ := z
  obtain rfl : v = Value.ref a := r1
  have new : ∀ b ∈ [s1.heap.objs.size], FpOk X pins H1 b := fun b hb => by
    obtain rfl : b = s1.heap.objs.size := by simpa using hb
    exact I1.fpOk (Nat.le_refl _) (I1.hok.fresh (Nat.le_refl _))
  rcases q with ⟨xs, hq, q⟩ | ⟨xs, hq, q⟩
  · obtain ⟨its, rv, p, hz⟩ := I1.list hq
    exact wpAny_pyIter_list p.isList ⟨_, [s1.heap.objs.size], _, _, H1, rfl, I1.kept (t' := s1.toks) fun b o e => Heap.get?_push_of_some _ e, turn_list a _, ⟨_, Heap.get?_push_size _ rfl, rfl, rfl⟩, new, q⟩
  · obtain ⟨its, rv, p, hz⟩ := I1.tuple hq
    exact wpAny_pyIter_tuple (show s1.heap.IsTuple a its.toArray from p) ⟨_, [s1.heap.objs.size], _, _, H1, rfl, I1.kept (t' := s1.toks) fun b o e => Heap.get?_push_of_some _ e, turn_tuple a _, ⟨_, Heap.get?_push_size _ rfl, rfl, rfl⟩, new, q⟩
  )]); intro f; simpa using My.gz f 5 true
end
/-- all but what stands at p -/
def Kx (p : Addr) (H H' : Hp) : Prop := ∀ b o, H b = some o → b ≠ p → H' b = some o
theorem Kx.refl {p : Addr} (H : Hp) : Kx p H H := fun _ _ h _ => h
theorem Kx.trans {p : Addr} {H H1 H2 : Hp} (a : Kx p H H1) (b : Kx p H1 H2) : Kx p H H2 := fun c o h n => b c o (a c o h n) n
theorem kx_same {p : Addr} {H H' : Hp} (s : Same H H') : Kx p H H' := fun b o h _ => s b o h
theorem kx_upd {p : Addr} {H : Hp} {o : HO} : Kx p H (upd H p o) := fun b u h n => by
  rw [upd_ne n]
  exact h
theorem Kx.free {p : Addr} {H H' : Hp} (k : Kx p H H') {l : Addr} (hp : H' p ≠ none) (h : H' l = none) : H l = none := by
  apply My.two; (focus intro zzI; simp only [↓ My.mkB zzI (by
  clear zzI
  cases q : H l with
  | none => rfl
  | some o =>
    by_cases e : l = p
    · rw [e] at h
      exact absurd h hp
    · rw [k l o q e] at h
      cases h
  )]); intro f; simpa using My.gz f 5 true
/-- a thing of another kind than a dict stands elsewhere -/
theorem ne_dict {H : Hp} {p b : Addr} {kvs : List (Key × V)} {o : HO} (hp : H p = some (.dK kvs)) (hb : H b = some o) (d : o ≠ .dK kvs) : b ≠ p := fun e => by
  rw [e, hp] at hb
  exact d (Option.some.inj hb).symm
def tMid (t u : TS) : TS := fun D σ H => ∃ Mid : L2.St → Hp → Prop, t { D with nx := Mid } σ H ∧ ∀ σ' H', Mid σ' H' → u D σ' H'
theorem pss_mid {X : Cx} {st : Stmt} {rest : List Stmt} {t u : TS} (h1 : PS X st t) (h2 : PSs X rest u) : PSs X (st :: rest) (tMid t u) := by
  apply My.two; (focus intro zzI; simp only [↓ My.mkB zzI (by
  clear zzI
  refine ⟨fun pins s σ H D I h => ?_⟩
  obtain ⟨Mid, ha, hb⟩ := h
  refine wpAny_execs_cons (thn (h1.run pins s σ H { D with nx := Mid } I ha) fun f s1 q => ?_)
  cases f with
  | next => exact q.elim fun σ' q => q.elim fun H' q => h2.run pins s1 σ' H' D q.1 (hb _ _ q.2)
  | ret v => exact q
  | brk => exact q
  | cont => exact q
  )]); intro f; simpa using My.gz f 5 true
section
variable {fa : List (Fg → Bool)} {fn : List He5.DefA} {K : Fg} {mg : Str → Option Value} {X : Cx} {o e : Expr} {es : List Expr} {to : TE} {t : TA} {apos cpos : Pos} {Ty : String} {name : Str} {id : String} {r : V → List V → Hp → VK → Prop}
/-- a built-in's method, the written part told -/
theorem bmk (T : TxOf fa fn K mg) (pa : PlainAttrs Ty) (slot : Slot Ty name id) (hty : typeOf (.builtin id) = pure (.type "method_descriptor")) (hm : MtR X id r) (ho : PE X o to) (ha : PA X (e :: es) t) (hK : X.K = K := by rfl)
    (hbase : attributeBase o name X.env (eval o X.env) = eval o X.env := by rfl)
    (hfew : ((backTo cpos (starEach (e :: es) X.env)).all (fun x => !x.1) && (backToKw cpos (keywordEach [] X.env)).all (fun x => x.1.isSome)
      && decide ((e :: es).length + ([] : List Keyword).length + (if ([] : List Keyword).isEmpty then 0 else 1) < 30)) = true := by rfl)
    (hline : (apos.endLine == cpos.line) = true := by rfl) (hs : starEach (e :: es) X.env = (false, eval e X.env) :: starEach es X.env := by rfl) (hplain : (backTo cpos (starEach es X.env)).any (·.1) = false := by rfl) :
    PE X (.Call (.Attribute o name apos) (e :: es) [] cpos) (tBM K Ty r to t) := by
  subst hK
  exact pe_bm pa slot hty hm ho ha hbase hfew hline hs hplain
end
end My
namespace My
open PySem PySem.Spec PyProof.Rows L2
theorem sqL_same {K : Fg} {H H' : Hp} {a : Addr} {xs : List V} (h : SqL K H a xs) (e : Same H H') : SqL K H' a xs :=
  h.elim (fun h => .inl (h.elim (fun h => .inl (e _ _ h)) fun ⟨o, h⟩ => .inr ⟨o, e _ _ h⟩)) fun h => .inr h
def spLaw (K : Fg) : Sp := fun vs H Q _ => ∃ (a : Addr) (ns : List Int), vs = [.ref a] ∧ SqL K H a (ns.map V.int) ∧ ns.length ≤ 63 ∧ ∀ H' : Hp, Q (.bl true) H'
end My
namespace My
open PySem PySem.Spec PyProof.Rows L2
/-- as FnR, for callers with no repr under way -/
def FnG (P : Program) (w : World) (K : Fg) (mg : Str → Option Value) (base : Heap) (k : Nat) (f : Addr) (sp : Sp) : Prop :=
  ∀ (A : Around) (outer : List Env) (st : Shared) (H : Hp) (us : List Value) (vs : List V) (Q : VK) (E : XK), A.guards = some [] → Room k A → Env0 P w K mg base A outer st H → Vals vs us → sp vs H Q E →
    codeAny (model P w) A (.call (.ref f) ⟨us, []⟩) (CR CX0 outer P w H st Q E) st
theorem FnG.mono {P : Program} {w : World} {K : Fg} {mg : Str → Option Value} {base : Heap} {j k : Nat} {f : Addr} {sp : Sp} (F : FnG P w K mg base j f sp) (h : j ≤ k) : FnG P w K mg base k f sp :=
  fun A outer st H us vs Q E hg hr => F A outer st H us vs Q E hg (hr.mono h)
theorem guards_deeper {A : Around} {e : Env} (h : A.guards = some []) : (A.deeper e).guards = some [] := h
section
variable {fa : List (Fg → Bool)} {fn : List He5.DefA} {K : Fg} {mg : Str → Option Value} {P : Program} {w : World} {base : Heap}
theorem TxOf.fnGc (T : TxOf fa fn K mg) (i : Nat) {x qual : Str} {st : Stmt} {at_ : Fg → Addr} {N ps : List Str} {k : Nat} {sp : Sp}
    (hi : fn[i]? = some ⟨at_, x, qual, defArgs st, defBody st, defScope st, [], []⟩) (S : FnScope N ps (defScope st))
    (hb : ∀ (kV doc pm : Value) (an : Option Addr) (cdv ct : Value) (us : List Value), us.length = ps.length →
      bindArgs (PySem.W.fnOf x qual (defArgs st) (defBody st) (defScope st) .none kV doc pm an cdv ct) ⟨us, []⟩ = pure (ps.zip us))
    (len : ∀ vs H Q E, sp vs H Q E → vs.length = ps.length)
    (hbody : ∀ (cdv : Value) (A : Around) (outer : List Env) (s : Shared) (H : Hp) (vs : List V) (Q : VK) (E : XK), (∃ oc od fd osl, K.lookup (at_ K) = some ⟨oc, od, .func fd, osl⟩ ∧ fd.code = cdv ∧ PySem.W.codeIn K cdv qual = true) → (A.deeper (envOfC qual (defScope st) s.heap.objs.size (at_ K) cdv)).guards = some [] →
      Room k (A.deeper (envOfC qual (defScope st) s.heap.objs.size (at_ K) cdv)) → sp vs H Q E →
      ∃ t, PSs (cxOf CX0 P w K mg base N qual (defScope st) (at_ K) cdv A outer s H E).nox (defBody st) t ∧ t { nx := fun _ H' => Q .non H', rt := Q } (start N vs) H) :
    FnG P w K mg base (k + 1) (at_ K) sp := by
  apply My.two; (focus intro zzI; simp only [↓ My.mkB zzI (by
  clear zzI
  obtain ⟨fd, F⟩ := T.fund i hi
  have F0 : FunD K x qual (defArgs st) (defBody st) (defScope st) [] [] (at_ K) fd := F
  have B : Binds K fd ps [] := F0.bindsN hb
  intro A outer s H us vs Q E hG hr e0 r hsp
  have kin : K.In s.heap := e0.mod.kin.keeps fun b o e => (e0.bs b o e).1
  have lv := len _ _ _ _ hsp
  have lu : (us ++ []).length = ps.length := by rw [List.append_nil, ← r.length, lv]
  have bt := B s us kin lu
  rw [List.append_nil] at bt
  obtain ⟨oc, od, dV, kV, doc, pm, an, cdv, ct, osl, efd, lk, hcd, _, _⟩ := F0.ex
  subst efd
  have hkd : ∀ y ∈ ps.zip us, (defScope st).names.lookup y.1 = some .local ∨ ((defScope st).names.lookup y.1 = some .cell ∧ ((cellsFrom (s.heap.objs.size + 1) (defScope st).names []).lookup y.1).isSome = true) := by
    intro y hy
    obtain ⟨n, v⟩ := y
    exact (S.par n (List.of_mem_zip hy).1).imp id fun q => ⟨q, PySem.W.cellsFrom_some _ _ _ (.inl q)⟩
  refine codeAny_call_function hr.depth (kin _ _ lk) rfl S.co S.gen rfl (PySem.W.codeRec_of kin hcd) (bt _ _ _ _ ?_)
  refine wpAny_newFunctionEnv_cells S.kind hkd fun env he s1 y => ?_
  subst he
  refine ⟨(e0.mod.nolimit.keeps fun b o e => (e0.bs b o e).1).keeps y.toInCall.keep, codeAny_func ?_⟩
  obtain ⟨t, ht, hq⟩ := hbody cdv A outer s H vs Q E ⟨_, _, _, _, lk, rfl, hcd⟩ (guards_deeper hG) (hr.deeper _) hsp
  have I := inv_start (CX := CX0) (E := E) S hr.hd e0 lv r y
  refine wpAny_mono (ht.nox.run [] s1 (start N vs) H _ I hq) (fun fl s2 hs => ?_) fun _ _ hs => hs
  match fl, hs with
  | .ret u, hs =>
    obtain ⟨v, σ2, H2, J, rv, q⟩ := hs
    exact ⟨v, H2, J.os, J.bare, J.base, J.hok, rv, q⟩
  | .next, hs =>
    obtain ⟨σ2, H2, J, q⟩ := hs
    exact ⟨V.non, H2, J.os, J.bare, J.base, J.hok, rfl, q⟩
  | .brk, hs => exact hs.elim fun _ z => z.elim fun _ z => z.2.elim
  | .cont, hs => exact hs.elim fun _ z => z.elim fun _ z => z.2.elim
  )]); intro f; simpa using My.gz f 5 true
theorem TxOf.fnG (T : TxOf fa fn K mg) (i : Nat) {x qual : Str} {st : Stmt} {at_ : Fg → Addr} {N ps : List Str} {k : Nat} {sp : Sp}
    (hi : fn[i]? = some ⟨at_, x, qual, defArgs st, defBody st, defScope st, [], []⟩) (S : FnScope N ps (defScope st))
    (hb : ∀ (kV doc pm : Value) (an : Option Addr) (cdv ct : Value) (us : List Value), us.length = ps.length →
      bindArgs (PySem.W.fnOf x qual (defArgs st) (defBody st) (defScope st) .none kV doc pm an cdv ct) ⟨us, []⟩ = pure (ps.zip us))
    (len : ∀ vs H Q E, sp vs H Q E → vs.length = ps.length)
    (hbody : ∀ (cdv : Value) (A : Around) (outer : List Env) (s : Shared) (H : Hp) (vs : List V) (Q : VK) (E : XK), (A.deeper (envOfC qual (defScope st) s.heap.objs.size (at_ K) cdv)).guards = some [] →
      Room k (A.deeper (envOfC qual (defScope st) s.heap.objs.size (at_ K) cdv)) → sp vs H Q E →
      ∃ t, PSs (cxOf CX0 P w K mg base N qual (defScope st) (at_ K) cdv A outer s H E).nox (defBody st) t ∧ t { nx := fun _ H' => Q .non H', rt := Q } (start N vs) H) :
    FnG P w K mg base (k + 1) (at_ K) sp :=
  T.fnGc i hi S hb len fun cdv A outer s H vs Q E _ => hbody cdv A outer s H vs Q E
end
end My
namespace My
open PySem PySem.Spec PyProof.Rows L2
mutual
/-- v stands for d -/
inductive Shw (K : Fg) (H : Hp) : V → PyData → Prop
  | non : Shw K H .non .none
  | bl (b : Bool) : Shw K H (.bl b) (.bool b)
  | int (i : Int) : Shw K H (.int i) (.int i)
  | str (x : Str) : Shw K H (.str x) (.str x)
  | lst {a : Addr} {xs : List V} {ds : List PyData} : SqL K H a xs → Shws K H xs ds → Shw K H (.ref a) (.list ds)
  | tup {a : Addr} {xs : List V} {ds : List PyData} : SqT K H a xs → Shws K H xs ds → Shw K H (.ref a) (.tuple ds)
inductive Shws (K : Fg) (H : Hp) : List V → List PyData → Prop
  | nil : Shws K H [] []
  | cons {v : V} {vs : List V} {d : PyData} {ds : List PyData} : Shw K H v d → Shws K H vs ds → Shws K H (v :: vs) (d :: ds)
end
section
variable {X : Cx} {pins : List (Addr × Obj)} {σ : L2.St} {H : Hp} {s : Shared}
mutual
theorem Shw.reads (I : Inv X pins σ H s) : ∀ {v : V} {d : PyData}, Shw X.K H v d → ∀ u, RelV v u → ∃ as, Reads s.heap u d as
  | _, _, .non, u, r => by
    cases r
    exact ⟨_, .none⟩
  | _, _, .bl b, u, r => by
    cases r
    exact ⟨_, .bool b⟩
  | _, _, .int i, u, r => by
    obtain ⟨t, rfl⟩ := r
    exact ⟨_, .int i t⟩
  | _, _, .str x, u, r => by
    obtain ⟨t, rfl⟩ := r
    exact ⟨_, .str x t⟩
  | _, _, .lst h hs, u, r => by
    apply My.two; (focus intro zzI; simp only [↓ My.mkB zzI (by
    clear zzI
    cases r
    obtain ⟨its, rv, ⟨o, n, h1, h2, _, h3⟩, _⟩ := I.list h
    obtain ⟨as, ha⟩ := Shws.reads I hs its rv
    exact ⟨_, .list h1 h2 h3 ha⟩
    )]); intro f; simpa using My.gz f 5 true
  | _, _, .tup h hs, u, r => by
    apply My.two; (focus intro zzI; simp only [↓ My.mkB zzI (by
    clear zzI
    cases r
    obtain ⟨its, rv, ⟨o, h1, h2, n, h3⟩, _⟩ := I.tuple h
    obtain ⟨as, ha⟩ := Shws.reads I hs its rv
    exact ⟨_, .tuple h1 h2 h3 ha⟩
    )]); intro f; simpa using My.gz f 5 true
theorem Shws.reads (I : Inv X pins σ H s) : ∀ {vs : List V} {ds : List PyData}, Shws X.K H vs ds → ∀ us, Vals vs us → ∃ as, ReadsAll s.heap us ds as
  | _, _, .nil, us, r => by
    cases r
    exact ⟨_, .nil⟩
  | _, _, .cons h hs, us, r => by
    apply My.two; (focus intro zzI; simp only [↓ My.mkB zzI (by
    clear zzI
    cases r with
    | cons r1 r2 =>
      obtain ⟨a1, h1⟩ := Shw.reads I h _ r1
      obtain ⟨a2, h2⟩ := Shws.reads I hs _ r2
      exact ⟨_, .cons h1 h2⟩
    )]); intro f; simpa using My.gz f 5 true
end
end
mutual
/-- d's ints have at most B digits; its text's length is at most n; its depth at most m -/
inductive Fit (B : Nat) : PyData → Nat → Nat → Prop
  | non : Fit B .none 4 0
  | bl (b : Bool) : Fit B (.bool b) 5 0
  | int {i : Int} : i.natAbs < 10 ^ B → Fit B (.int i) (B + 1) 0
  | str {x : Str} {n : Nat} : (reprText x).length ≤ n → Fit B (.str x) n 0
  | lst {ds : List PyData} {n m : Nat} : Fits B ds n m → Fit B (.list ds) (n + 3) (m + 1)
  | tup {ds : List PyData} {n m : Nat} : Fits B ds n m → Fit B (.tuple ds) (n + 3) (m + 1)
inductive Fits (B : Nat) : List PyData → Nat → Nat → Prop
  | nil {m : Nat} : Fits B [] 0 m
  | cons {d : PyData} {ds : List PyData} {n k m j : Nat} : Fit B d n j → j ≤ m → Fits B ds k m → Fits B (d :: ds) (n + 2 + k) m
end
theorem textFrom_le : ∀ (ts : List Str) (k : Nat) (acc : Str), (textFrom k acc ts).length ≤ acc.length + piled ts
  | [], k, acc => Nat.le_add_right _ _
  | t :: r, k, acc => by
    apply My.two; (focus intro zzI; simp only [↓ My.mkB zzI (by
    clear zzI
    have h := textFrom_le r (k + 1) (acc ++ (if k > 0 then ", " else "" : String) ++ t)
    have e : (acc ++ (if k > 0 then ", " else "" : String) ++ t).length ≤ acc.length + 2 + t.length := by
      rw [strLen_append, strLen_append]
      have : ((if k > 0 then ", " else "" : String) : Str).length ≤ 2 := by split <;> decide
      omega
    rw [piled_cons]
    show (textFrom (k + 1) _ r).length ≤ _
    omega
    )]); intro f; simpa using My.gz f 5 true
theorem listText_le (ts : List Str) : (listText ts).length ≤ piled ts + 2 := by
  apply My.two; (focus intro zzI; simp only [↓ My.mkB zzI (by
  clear zzI
  have h := textFrom_le ts 0 "["
  have e1 : ((("[" : String) : Str)).length = 1 := rfl
  have e2 : ((("]" : String) : Str)).length = 1 := rfl
  unfold listText
  rw [strLen_append]
  omega
  )]); intro f; simpa using My.gz f 5 true
theorem log10 {B : Nat} {i : Int} (hB : B ≤ 500) (h : i.natAbs < 10 ^ B) : i.natAbs.log2 < 1920 := by
  apply My.two; (focus intro zzI; simp only [↓ My.mkB zzI (by
  clear zzI
  by_cases e : i.natAbs = 0
  · rw [e]
    decide
  · refine (Nat.log2_lt e).mpr (Nat.lt_of_lt_of_le h (Nat.le_trans (Nat.pow_le_pow_right (by decide) hB) (by decide +kernel)))
  )]); intro f; simpa using My.gz f 5 true
mutual
theorem Fit.ok {B : Nat} (hB : B ≤ 500) : ∀ {d : PyData} {n m : Nat}, Fit B d n m → d.shown.length ≤ n ∧ d.showable = true ∧ d.hasDict = false ∧ d.depth ≤ m
  | _, _, _, .non => ⟨by simp only [PyData.shown]; decide, by simp only [PyData.showable], by simp only [PyData.hasDict], by simp only [PyData.depth]; omega⟩
  | _, _, _, .bl b => ⟨by simp only [PyData.shown]; cases b <;> decide, by simp only [PyData.showable], by simp only [PyData.hasDict], by simp only [PyData.depth]; omega⟩
  | _, _, _, .int (i := i) h => by
    apply My.two; (focus intro zzI; simp only [↓ My.mkB zzI (by
    clear zzI
    refine ⟨?_, ?_, by simp only [PyData.hasDict], by simp only [PyData.depth]; omega⟩
    · simp only [PyData.shown]
      rw [PySem.ofString_length]
      by_cases e : B = 0
      · subst e
        have : i = 0 := by
          have h2 : i.natAbs < 1 := h
          omega
        subst this
        decide
      · exact int_text_length_le10 (Nat.pos_of_ne_zero e) h
    · simp only [PyData.showable, decide_eq_true_eq]
      exact log10 hB h
    )]); intro f; simpa using My.gz f 5 true
  | _, _, _, .str h => ⟨by simpa only [PyData.shown] using h, by simp only [PyData.showable], by simp only [PyData.hasDict], by simp only [PyData.depth]; omega⟩
  | _, _, _, .lst h => by
    apply My.two; (focus intro zzI; simp only [↓ My.mkB zzI (by
    clear zzI
    obtain ⟨h1, h2, h3, h4⟩ := Fits.ok hB h
    refine ⟨?_, by simpa only [PyData.showable] using h2, by simpa only [PyData.hasDict] using h3, by simp only [PyData.depth]; omega⟩
    simp only [PyData.shown]
    exact Nat.le_trans (listText_le _) (by omega)
    )]); intro f; simpa using My.gz f 5 true
  | _, _, _, .tup h => by
    apply My.two; (focus intro zzI; simp only [↓ My.mkB zzI (by
    clear zzI
    obtain ⟨h1, h2, h3, h4⟩ := Fits.ok hB h
    refine ⟨?_, by simpa only [PyData.showable] using h2, by simpa only [PyData.hasDict] using h3, by simp only [PyData.depth]; omega⟩
    simp only [PyData.shown]
    exact Nat.le_trans (fmt_text _) (by omega)
    )]); intro f; simpa using My.gz f 5 true
theorem Fits.ok {B : Nat} (hB : B ≤ 500) : ∀ {ds : List PyData} {n m : Nat}, Fits B ds n m → piled (PyData.shownAll ds) ≤ n ∧ PyData.showableAll ds = true ∧ PyData.hasDictAll ds = false ∧ PyData.depthAll ds ≤ m
  | _, _, _, .nil => ⟨by simp only [PyData.shownAll]; exact Nat.le_refl _, by simp only [PyData.showableAll], by simp only [PyData.hasDictAll], by simp only [PyData.depthAll]; omega⟩
  | _, _, _, .cons h hj hs => by
    apply My.two; (focus intro zzI; simp only [↓ My.mkB zzI (by
    clear zzI
    obtain ⟨h1, h2, h3, h4⟩ := Fit.ok hB h
    obtain ⟨g1, g2, g3, g4⟩ := Fits.ok hB hs
    refine ⟨?_, ?_, ?_, ?_⟩
    · simp only [PyData.shownAll, piled_cons]
      omega
    · simp only [PyData.showableAll, h2, g2, Bool.and_self]
    · simp only [PyData.hasDictAll, h3, g3, Bool.or_self]
    · simp only [PyData.depthAll]
      omega
    )]); intro f; simpa using My.gz f 5 true
end
/-- repr(v), v told by d -/
@[irreducible] def rShow (K : Fg) : List V → Hp → VK → Prop := fun xs H Q => ∃ (v : V) (d : PyData) (B n m : Nat), xs = [v] ∧ Shw K H v d ∧ Fit B d n m ∧ B ≤ 500 ∧ n ≤ 16777216 ∧ m ≤ 50 ∧ Q (.str d.shown) H
theorem show_any {K : Fg} {H : Hp} {Q : VK} {v : V} {d : PyData} {B n m : Nat} (hv : Shw K H v d) (hf : Fit B d n m) (hB : B ≤ 500) (hn : n ≤ 16777216) (hm : m ≤ 50) (q : Q (.str d.shown) H) : rShow K [v] H Q := by
  unfold rShow
  exact ⟨v, d, B, n, m, rfl, hv, hf, hB, hn, hm, q⟩
theorem call_show {X : Cx} {k : Nat} (hG : X.A.guards = some []) (hr : Room k X.A) : CallR X (.builtin "repr") (rShow X.K) := by
  apply My.two; (focus intro zzI; simp only [↓ My.mkB zzI (by
  clear zzI
  intro pins s σ H xs us Q I r h
  unfold rShow at h
  obtain ⟨v, d, B, n, m, rfl, hv, hf, hB, hn, hm, q⟩ := h
  obtain ⟨u, rfl, ru⟩ := vals1 r
  obtain ⟨h1, h2, h3, h4⟩ := hf.ok hB
  have hz : d.shown.length ≤ sizeLine := Nat.le_trans h1 (Nat.le_trans hn (by decide))
  have hu := hr.units
  obtain ⟨as, hR⟩ := hv.reads I u ru
  cases hv with
  | non =>
    cases ru
    exact PySem.P.repr_of_none ⟨.str _, H, I.tok _, ⟨_, rfl⟩, by simpa only [PyData.shown] using q⟩
  | bl b =>
    cases ru
    exact PySem.P.repr_of_bool ⟨.str _, H, I.tok _, ⟨_, rfl⟩, by simpa only [PyData.shown] using q⟩
  | int i =>
    obtain ⟨t, rfl⟩ := ru
    exact PySem.P.repr_of_int (by simpa only [PyData.showable, decide_eq_true_eq] using h2) ⟨.str _, H, I.tok _, ⟨_, rfl⟩, by simpa only [PyData.shown] using q⟩
  | str x =>
    obtain ⟨t, rfl⟩ := ru
    exact PySem.P.repr_of_str ⟨.str _, H, I.tok _, ⟨_, rfl⟩, by simpa only [PyData.shown] using q⟩ (by simpa only [PyData.shown] using hz)
  | lst _ _ =>
    cases ru
    exact repr_of_reads' hR h2 (PyData.noDict_hsm h3) hG (by omega) (fun _ _ e => e) (fun h' t tk hk => ⟨.str _, H, I.kept hk, ⟨t, rfl⟩, q⟩) hz
  | tup _ _ =>
    cases ru
    exact repr_of_reads' hR h2 (PyData.noDict_hsm h3) hG (by omega) (fun _ _ e => e) (fun h' t tk hk => ⟨.str _, H, I.kept hk, ⟨t, rfl⟩, q⟩) hz
  )]); intro f; simpa using My.gz f 5 true
section
variable {fa : List (Fg → Bool)} {fn : List He5.DefA} {K : Fg} {mg : Str → Option Value} {X : Cx}
theorem show_k (T : TxOf fa fn K mg) {k : Nat} (hG : X.A.guards = some []) (hr : Room k X.A) (hK : X.K = K := by rfl) : CallR X (.builtin "repr") (rShow K) := by subst hK; exact call_show hG hr
end
end My
namespace My
open PySem PySem.Spec PyProof.Rows L2
/-- the abstract heap of the law's start: the script alone, frozen, where the module does not own it -/
def script (a : Addr) (vs : List Value) (ns : List Int) : Hp := fun b => if b = a then some (.frz { cls := .type "list", data := .seq vs.toArray } (.lst (ns.map V.int))) else none
theorem nowhere {Z : Addr → HO → Prop} : ∀ b u, (fun _ : Addr => (none : Option HO)) b = some u → Z b u := by
  intro b u z
  cases z
theorem in_nil {b : Addr} {Z : Prop} (z : b ∈ frs []) : Z := by
  have y : b ∈ ([] : List Addr) := z
  cases y
theorem lawG {P : Program} {w : World} {K : Fg} {mg mb : Str → Option Value} {k : Nat} {fa a : Addr} {sp : Sp} {s₁ : Shared} {vs : List Value} {ns : List Int}
    (kin : K.In s₁.heap) (hg : s₁.heap.Ns mainGlobals mg) (hb : s₁.heap.Ns builtinsNs mb) (hbb : ∀ x : Str, x ≠ "__name__" → mb x = bootBuiltins x) (nl : s₁.heap.NoLimit) (ge : s₁.gens = #[])
    (ga : s₁.heap.get? a = some { cls := .type "list", data := .seq vs.toArray }) (hi : IntsAre vs ns) (hz : ns.length ≤ sizeLine) (hr : Room k callerA)
    (F : ∀ base : Heap, FnG P w K mg base k fa sp) (hsp : ∀ H : Hp, SqL K H a (ns.map V.int) → sp [.ref a] H (fun v _ => v = .bl true) fun _ _ _ => False) :
    codeAny (model P w) callerA (.call (.ref fa) ⟨[.ref a], []⟩) (fun r s' => r = .ok (.ret (.bool true)) ∧ OldK s₁.heap s'.heap ∧ s'.os = s₁.os ∧ AllBare s'.gens) s₁ := by
  apply My.two; (focus intro zzI; simp only [↓ My.mkB zzI (by
  clear zzI
  obtain ⟨H, hS, hok, hA, hF⟩ : ∃ H : Hp, SqL K H a (ns.map V.int) ∧ HOk P w H s₁.heap ∧ (∀ b u, H b = some u → b = a ∧ K.lookup b = none) ∧ ∀ b u, H b = some u → ∃ o v, u = .frz o v := by
    have lv := hi.length
    have rv := vals_ints hi
    cases hk : K.lookup a with
    | some o =>
      have e := (kin a o hk).symm.trans ga
      cases e
      exact ⟨fun _ => none, .inr ⟨_, _, _, hk, rfl, rfl, rfl, by rw [List.size_toArray, lv]; exact hz, by simpa using rv⟩, nowhere, nowhere, nowhere⟩
    | none =>
      have at_ : ∀ b u, script a vs ns b = some u → b = a ∧ u = .frz { cls := .type "list", data := .seq vs.toArray } (.lst (ns.map V.int)) := fun b u z => by
        unfold script at z
        split at z
        · next h => exact ⟨h, (Option.some.inj z).symm⟩
        · cases z
      refine ⟨script a vs ns, .inl (.inr ⟨_, if_pos rfl⟩), fun b u z => ?_, fun b u z => ?_, fun b u z => ?_⟩
      · obtain ⟨rfl, rfl⟩ := at_ b u z
        exact ⟨ga, by rw [List.length_map]; exact hz, vs, _, rv, ga⟩
      · obtain ⟨rfl, _⟩ := at_ b u z
        exact ⟨rfl, hk⟩
      · exact ⟨_, _, (at_ b u z).2⟩
  have off : ∀ {b : Addr} {o : Obj}, s₁.heap.get? b = some o → (∀ ys n, o.data ≠ .seq ys n) → H b = none := fun {b o} e d => by
    cases q : H b with
    | none => rfl
    | some u =>
      obtain ⟨rfl, _⟩ := hA b u q
      rw [ga] at e
      cases e
      exact absurd rfl (d vs.toArray _)
  have ns' : ∀ {b : Addr} {m : Str → Option Value}, s₁.heap.Ns b m → (hidT s₁.heap H).Ns b m := fun z => by
    obtain ⟨o, es, ep, e, d, r⟩ := z
    exact ⟨o, es, ep, hidT_get e (off e fun ys n h => by rw [d] at h; cases h), d, r⟩
  have kb : K.In (hidT s₁.heap H) := fun b o e => hidT_get (kin b o e) (by
    cases q : H b with
    | none => rfl
    | some u => rw [(hA b u q).2] at e; cases e)
  obtain ⟨mc, n1, n2⟩ := nl
  have e0 : Env0 P w K mg (hidT s₁.heap H) callerA [] s₁ H := ⟨rfl, ⟨kb, ns' hg, ⟨mb, ns' hb, hbb⟩, ⟨mc, ns' n1, n2⟩⟩, fun _ _ e => of_hidT e, Nat.le_of_eq (hidT_size _ _), trivial, fun b z => in_nil z, hok, .of_eq ge⟩
  refine codeAny_mono (F _ callerA [] s₁ H [.ref a] [.ref a] _ _ rfl hr e0 (.cons rfl .nil) (hsp H hS)) fun r s' h => ?_
  match r, h with
  | .error e, h => exact False.elim h
  | .ok (.ret u), ⟨v, H', h1, h2, un, hok', rv, q⟩ =>
    obtain rfl : v = .bl true := q
    obtain rfl : u = Value.bool true := rv
    refine ⟨rfl, OldK.of_keep fun b o e => ?_, h1, h2⟩
    cases q : H b with
    | none => exact un.keep b o e q (fun z => in_nil z) (by simp)
    | some u =>
      obtain ⟨o2, u2, rfl⟩ := hF b u q
      have g1 := (hok b _ q).1
      have g2 := (hok' b _ (un.frzs b o2 u2 q)).1
      rw [g1] at e
      cases e
      exact g2
  )]); intro f; simpa using My.gz f 5 true
theorem walkG {l : PySem.W.OpenLaw} {n k : Nat} {q : Program} {loose : List Str} {XP : (Str → Option Value) → Heap → Prop} {YP : World → Heap → Prop} {d : DefRec} (hn : l.most = some n) (hn2 : n ≤ 63) (hdf : d.params.defaults = []) (hr : Room k callerA)
    (F : ∀ (w : World) (mg : Str → Option Value) (fa : Addr) (h : Heap), YP w h → h.Ns mainGlobals mg → mg d.name = some (.ref fa) → ∃ K : Fg, K.In h ∧ ∀ base : Heap, FnG l.prog w K mg base k fa (spLaw K)) :
    PySem.W.WalkO q loose XP YP l.row.toRowW d [] (fun f vs => PySem.call f vs) := by
  apply My.two; (focus intro zzI; simp only [↓ My.mkB zzI (by
  clear zzI
  refine Att.attach_call hn hdf fun w s₀ s₁ mg mb fa o pm cd doc a vs ns G Y ho hd hcd hmg hobj hints hlen hg => ?_
  obtain ⟨K, kin, f⟩ := F w mg fa _ Y G.T.g hmg
  have h63 : ns.length ≤ 63 := Nat.le_trans hlen hn2
  exact lawG kin G.T.g G.T.b G.T.builtins G.T.nolimit hg hobj hints (Nat.le_trans h63 (by decide)) hr f fun H hS => ⟨a, ns, rfl, hS, h63, fun _ => rfl⟩
  )]); intro f; simpa using My.gz f 5 true
section
variable {fa : List (Fg → Bool)} {fn : List He5.DefA} {K : Fg} {mg : Str → Option Value} {P : Program} {w : World}
def LawG (P : Program) (w : World) (K : Fg) (mg : Str → Option Value) (k : Nat) (at_ : Addr) : Prop := ∀ base : Heap, FnG P w K mg base k at_ (spLaw K)
theorem TxOf.lawG (T : TxOf fa fn K mg) (i : Nat) {x qual y : Str} {st : Stmt} {at_ : Fg → Addr} {N : List Str} {k : Nat}
    (hi : fn[i]? = some ⟨at_, x, qual, defArgs st, defBody st, defScope st, [], []⟩) (S : FnScope N [y] (defScope st))
    (hb : ∀ (kV doc pm : Value) (an : Option Addr) (cdv ct : Value) (us : List Value), us.length = [y].length →
      bindArgs (PySem.W.fnOf x qual (defArgs st) (defBody st) (defScope st) .none kV doc pm an cdv ct) ⟨us, []⟩ = pure ([y].zip us))
    (hbody : ∀ (base : Heap) (cdv : Value) (A : Around) (outer : List Env) (s : Shared) (H : Hp) (a : Addr) (ns : List Int) (Q : VK) (E : XK), (A.deeper (envOfC qual (defScope st) s.heap.objs.size (at_ K) cdv)).guards = some [] →
      Room k (A.deeper (envOfC qual (defScope st) s.heap.objs.size (at_ K) cdv)) → SqL K H a (ns.map V.int) → ns.length ≤ 63 → (∀ H' : Hp, Q (.bl true) H') →
      ∃ t, PSs (cxOf CX0 P w K mg base N qual (defScope st) (at_ K) cdv A outer s H E).nox (defBody st) t ∧ t { nx := fun _ H' => Q .non H', rt := Q } (start N [.ref a]) H) :
    LawG P w K mg (k + 1) (at_ K) := fun base => by
  refine T.fnG i hi S hb (fun vs H Q E h => ?_) fun cdv A outer s H vs Q E hG hr h => ?_
  · obtain ⟨a, ns, rfl, _⟩ := h
    rfl
  · obtain ⟨a, ns, rfl, hS, hl, k⟩ := h
    exact hbody base cdv A outer s H a ns Q E hG hr hS hl k
end
end My
namespace My
open PySem PySem.Spec PyProof.Rows L2
def SqQ (K : Fg) (H : Hp) (a : Addr) (xs : List V) : Prop := SqL K H a xs ∨ SqT K H a xs
theorem SqQ.same {K : Fg} {H H' : Hp} {a : Addr} {xs : List V} (h : SqQ K H a xs) (s : Same H H') : SqQ K H' a xs := h.imp (fun h => sqL_same h s) fun h =>
  h.elim (fun h => .inl (h.elim (fun h => .inl (s _ _ h)) fun ⟨o, h⟩ => .inr ⟨o, s _ _ h⟩)) fun h => .inr h
/-- a[i], a list or a tuple -/
def rIxQ (K : Fg) : R2 := fun x y H Q => rIxL K x y H Q ∨ rIxT K x y H Q
section
variable {fa : List (Fg → Bool)} {fn : List He5.DefA} {K : Fg} {mg : Str → Option Value} {X : Cx} {e : Expr} {ta : TA}
theorem ixq (T : TxOf fa fn K mg) (hK : X.K = K := by rfl) : IxR X (rIxQ K) := by
  apply My.two; (focus intro zzI; simp only [↓ My.mkB zzI (by
  clear zzI
  subst hK
  intro value slice pins s σ H x y v u Q I rx ry h
  rcases h with h | h
  · exact ix_list value slice pins s σ H x y v u Q I rx ry h
  · exact ix_tup value slice pins s σ H x y v u Q I rx ry h
  )]); intro f; simpa using My.gz f 5 true
end
end My
namespace My
open PySem PySem.Spec PyProof.Rows L2
end My
namespace My
open PySem PySem.Spec PyProof.Rows L2
theorem shws_ints {K : Fg} {H : Hp} : ∀ r : List Int, Shws K H (r.map V.int) (r.map PyData.int)
  | [] => .nil
  | x :: r => .cons (.int x) (shws_ints r)
theorem fits_ints {B m : Nat} : ∀ r : List Int, (∀ v ∈ r, v.natAbs < 10 ^ B) → Fits B (r.map PyData.int) ((B + 3) * r.length) m
  | [], _ => by
    rw [List.length_nil, Nat.mul_zero]
    exact .nil
  | x :: r, h => by
    apply My.two; (focus intro zzI; simp only [↓ My.mkB zzI (by
    clear zzI
    have e : (B + 3) * (x :: r).length = (B + 1) + 2 + (B + 3) * r.length := by
      rw [List.length_cons, Nat.mul_succ]
      omega
    rw [e]
    exact .cons (.int (h x List.mem_cons_self)) (Nat.zero_le _) (fits_ints r fun v hv => h v (List.mem_cons_of_mem _ hv))
    )]); intro f; simpa using My.gz f 5 true
/-- repr of a list of ints -/
theorem show_ints {K : Fg} {H : Hp} {a : Addr} {r : List Int} {Q : VK} (hS : SqL K H a (r.map V.int)) (hl : r.length ≤ 200000) (h : ∀ v ∈ r, v.natAbs < 10 ^ 60) (q : Q (.str (PyData.list (r.map .int)).shown) H) : rShow K [.ref a] H Q := by
  apply My.two; (focus intro zzI; simp only [↓ My.mkB zzI (by
  clear zzI
  refine show_any (.lst hS (shws_ints r)) (.lst (m := 0) (fits_ints r h)) (by decide) ?_ (by decide) q
  have : (60 + 3) * r.length ≤ (60 + 3) * 200000 := Nat.mul_le_mul_left _ hl
  omega
  )]); intro f; simpa using My.gz f 5 true
end My
namespace My
open PySem PySem.Spec PyProof.Rows L2
end My
namespace My
open PySem PySem.Spec PyProof.Rows L2
def pick {α : Type} (ps : List Nat) (l : List α) : List α := ps.filterMap fun i => l[i]?
theorem pick_vals {vs : List V} {us : List Value} (r : Vals vs us) : ∀ ps : List Nat, Vals (pick ps vs) (pick ps us)
  | [] => .nil
  | i :: ps => by
    apply My.two; (focus intro zzI; simp only [↓ My.mkB zzI (by
    clear zzI
    have ih := pick_vals r ps
    have hl := r.length
    unfold pick at ih ⊢
    rw [List.filterMap_cons, List.filterMap_cons]
    cases e : vs[i]? with
    | none =>
      have : us[i]? = none := by
        rw [List.getElem?_eq_none_iff] at e ⊢
        omega
      rw [this]
      exact ih
    | some v =>
      obtain ⟨u, h1, h2⟩ := r.get e
      rw [h1]
      exact .cons h2 ih
    )]); intro f; simpa using My.gz f 5 true
/-- a def called with n values by position, those named ks by name; pm: the parameters' places among these -/
def FnKw (P : Program) (w : World) (K : Fg) (mg : Str → Option Value) (base : Heap) (k : Nat) (f : Addr) (n : Nat) (ks : List Str) (pm : List Nat) (sp : Sp) : Prop :=
  ∀ (A : Around) (outer : List Env) (st : Shared) (H : Hp) (us ws : List Value) (vs zs : List V) (Q : VK) (E : XK), Room k A → Env0 P w K mg base A outer st H → Vals vs us → Vals zs ws → vs.length = n → zs.length = ks.length → sp (pick pm (vs ++ zs)) H Q E →
    codeAny (model P w) A (.call (.ref f) ⟨us, ks.zip ws⟩) (CR CX0 outer P w H st Q E) st
structure FnQ (P : Program) (w : World) (K : Fg) (mg : Str → Option Value) (base : Heap) (k : Nat) (f : Addr) (x qual : Str) (st : Stmt) (ps : List Str) (sp : Sp) : Prop where
  r : FnR P w K mg base CX0 k f sp
  o : ∃ fd, FunD K x qual (defArgs st) (defBody st) (defScope st) [] [] f fd ∧ FnOk P w K mg base CX0 k f fd ps sp
section
variable {fa : List (Fg → Bool)} {fn : List He5.DefA} {K : Fg} {mg : Str → Option Value} {P : Program} {w : World} {base : Heap}
theorem FnQ.kw {k : Nat} {f : Addr} {x qual : Str} {st : Stmt} {ps : List Str} {sp : Sp} (F : FnQ P w K mg base k f x qual st ps sp) (n : Nat) (ks : List Str) (pm : List Nat)
    (hb : ∀ (kV doc pmv : Value) (an : Option Addr) (cdv ct : Value) (us ws : List Value), us.length = n → ws.length = ks.length →
      bindArgs (PySem.W.fnOf x qual (defArgs st) (defBody st) (defScope st) .none kV doc pmv an cdv ct) ⟨us, ks.zip ws⟩ = pure (ps.zip (pick pm (us ++ ws)))) : FnKw P w K mg base k f n ks pm sp := by
  apply My.two; (focus intro zzI; simp only [↓ My.mkB zzI (by
  clear zzI
  intro A outer s H us ws vs zs Q E hr e0 rv rz l1 l2 h
  obtain ⟨fd, F0, G⟩ := F.o
  have r2 := pick_vals (rv.append rz) pm
  refine G.run A outer s H ⟨us, ks.zip ws⟩ (pick pm (us ++ ws)) (pick pm (vs ++ zs)) Q E hr e0 ?_ r2 h
  obtain ⟨oc, od, dV, kV, doc, pmv, an, cdv, ct, osl, rfl, lk, hcd, hD, hK⟩ := F0.ex
  rcases hD with ⟨_, rfl⟩ | ⟨e, _⟩
  · exact .of_eq (hb kV doc pmv an cdv ct us ws (rv.length.symm.trans l1) (rz.length.symm.trans l2))
  · exact absurd rfl e
  )]); intro f; simpa using My.gz f 5 true
end
section
variable {X : Cx} {k n : Nat} {C f p g : Addr} {mc : Value} {ks : List Str} {pm : List Nat} {sp : Sp} {E : XK} {x m : Str} {e o : Expr} {es : List Expr} {kws : List Keyword} {ta : TE} {t tk : TA} {np pos apos : Pos} {pl : Sem Bool}
theorem run_fnK {pins : List (Addr × Obj)} {σ : L2.St} {H : Hp} {s : Shared} {Q : VK} {us ws : List Value} {vs zs : List V} (F : FnKw X.prog X.w X.K X.mg X.base k f n ks pm sp) (hr : Room k X.A) (hx : Passes CX0 X E)
    (I : Inv X pins σ H s) (r : Vals vs us) (rz : Vals zs ws) (l1 : vs.length = n) (l2 : zs.length = ks.length) (h : sp (pick pm (vs ++ zs)) H Q E) :
    codeAny (model X.prog X.w) X.A (.call (.ref f) ⟨us, ks.zip ws⟩) (fun r s' => match r with | .ok (.ret v) => EP X pins σ Q v s' | .ok _ => False | .error e => X.xe e s') s := by
  apply My.two; (focus intro zzI; simp only [↓ My.mkB zzI (by
  clear zzI
  refine codeAny_mono (F X.A X.stack s H us ws vs zs Q E hr I.env0 r rz l1 l2 h) fun r s' hq => ?_
  cases r with
  | error e => exact hx pins σ H s e s' I hq
  | ok fl =>
    cases fl with
    | ret u => exact I.after hq
    | next => exact False.elim hq
    | brk => exact False.elim hq
    | cont => exact False.elim hq
  )]); intro f; simpa using My.gz f 5 true
/-- C.m(k = v, ..), m a classmethod -/
def tCMK0 (C : Addr) (n : Nat) (pm : List Nat) (sp : Sp) (E : XK) (ta : TE) (tk : TA) : TE := fun σ H Q => ta σ H fun x H1 => x = .ref C ∧ tk σ H1 fun zs H2 => zs.length = n ∧ sp (pick pm ([.ref C] ++ zs)) H2 Q E
theorem pe_cmK0 (he : PE X o ta) (r : ClX.CRead X.K C mc) (c : ClX.CMet X.K C mc m p g) (F : FnKw X.prog X.w X.K X.mg X.base k g 1 ks pm sp) (hr : Room k X.A) (hx : Passes CX0 X E) (hkw : PK X kws tk)
    (hall : (backToKw pos (keywordEach kws X.env)).all (·.1.isSome) = true := by rfl) (hks : (backToKw pos (keywordEach kws X.env)).filterMap (·.1) = ks := by rfl)
    (hpl : ((backTo pos (starEach [] X.env)).any (·.1) || (backToKw pos (keywordEach kws X.env)).any (·.1.isNone)) = false := by rfl)
    (ht : eval (.Call (.Attribute o m apos) [] kws pos) X.env = (do
      let ov ← eval o X.env
      standAt apos.atName
      let (f, first) ← holding [ov] (getMethod ov m pl)
      callWith pos f first (backTo pos (starEach [] X.env)) (backToKw pos (keywordEach kws X.env))) := by rfl) : PE X (.Call (.Attribute o m apos) [] kws pos) (tCMK0 C ks.length pm sp E ta tk) := by
  refine ⟨fun pins s σ H Q I h => PySem.W.methodCall_KW (pl := pl) (thn (he.run pins s σ H _ I h) fun u s1 z => ?_) ht⟩
  obtain ⟨y, H1, I1, ry, ey, q⟩ := z
  subst ey
  obtain rfl : u = Value.ref C := ry
  refine ClX.getmethcm_ok I1 r c fun s2 I2 => ?_
  refine PySem.W.callWith_of (P := PySem.W.MethP X.K s1.heap.objs.size g (.ref C)) hpl (PySem.W.keeps_M c.fi) (evalArgs_kw2_nil hall ?_)
  refine thn (hkw.run pos _ s2 σ H1 _ I2 q) fun ws s3 z => ?_
  obtain ⟨zs, H2, I3, rz, l2, q2⟩ := z
  refine ⟨⟨ClX.pin_at I3, I3.kIn⟩, ?_⟩
  rw [hks]
  have z : wpAny (model X.prog X.w) X.A (call (.ref s1.heap.objs.size) [] (ks.zip ws)) (EP X ((s1.heap.objs.size, PySem.W.methodObj (.ref g) (.ref C)) :: pins) σ Q) X.xe s3 :=
    wpAny_call (PySem.W.method_call (ClX.pin_at I3) (run_fnK (us := [.ref C]) (vs := [.ref C]) F hr hx I3 (.cons rfl .nil) rz rfl l2 q2))
  exact thn z fun _ _ y => ClX.unpinE y
end
end My
namespace My
open PySem PySem.Spec PyProof.Rows L2
section
variable {fa : List (Fg → Bool)} {fn : List He5.DefA} {K : Fg} {mg : Str → Option Value} {X : Cx}
theorem revl (T : TxOf fa fn K mg) {e : Expr} {te : TE} {k : Nat} {p1 p2 p3 pos : Pos} (he : PE X e te) (hK : X.K = K := by rfl) : PE X (.Subscript e (.Slice none none (some (.UnaryOp .USub (.Constant (.int 1) k p1) p2)) p3) pos) (tRevL K te) := by subst hK; exact pe_revL he
end
end My
namespace My
open PySem PySem.Spec PyProof.Rows L2
structure FnD (P : Program) (w : World) (K : Fg) (mg : Str → Option Value) (base : Heap) (k : Nat) (f : Addr) (x qual : Str) (st : Stmt) (kws : List (Str × V)) (ps : List Str) (sp : Sp) : Prop where
  o : ∃ fd, FunD K x qual (defArgs st) (defBody st) (defScope st) [] kws f fd ∧ FnOk P w K mg base CX0 k f fd ps sp
section
variable {fa : List (Fg → Bool)} {fn : List He5.DefA} {K : Fg} {mg : Str → Option Value} {P : Program} {w : World} {base : Heap}
variable {k : Nat} {f : Addr} {x qual : Str} {st : Stmt} {ps : List Str} {sp : Sp} {kws : List (Str × V)}
/-- called without them -/
theorem FnD.plain (F : FnD P w K mg base k f x qual st kws ps sp) (n : Nat) (hk : kws ≠ []) (hn : n + kws.length = ps.length)
    (h : ∀ (D : Addr) (doc pm : Value) (an : Option Addr) (cdv ct : Value) (us ks : List Value), us.length = n → ks.length = kws.length →
      KwChain D ((kws.map (·.1)).zip ks) (bindArgs (PySem.W.fnOf x qual (defArgs st) (defBody st) (defScope st) .none (.ref D) doc pm an cdv ct) ⟨us, []⟩) (ps.zip (us ++ ks))) :
    FnR P w K mg base CX0 k f (fun vs H Q E => sp (vs ++ kws.map (·.2)) H Q E) := by
  apply My.two; (focus intro zzI; simp only [↓ My.mkB zzI (by
  clear zzI
  obtain ⟨fd, F0, G⟩ := F.o
  obtain ⟨ds, rd, B⟩ := F0.binds0 n hk hn h
  exact G.raw B rd
  )]); intro f; simpa using My.gz f 5 true
/-- called with all of them -/
theorem FnD.kw (F : FnD P w K mg base k f x qual st kws ps sp) (n : Nat) (ks : List Str) (pm : List Nat)
    (hb : ∀ (kV doc pmv : Value) (an : Option Addr) (cdv ct : Value) (us ws : List Value), us.length = n → ws.length = ks.length →
      bindArgs (PySem.W.fnOf x qual (defArgs st) (defBody st) (defScope st) .none kV doc pmv an cdv ct) ⟨us, ks.zip ws⟩ = pure (ps.zip (pick pm (us ++ ws)))) : FnKw P w K mg base k f n ks pm sp := by
  apply My.two; (focus intro zzI; simp only [↓ My.mkB zzI (by
  clear zzI
  intro A outer s H us ws vs zs Q E hr e0 rv rz l1 l2 h
  obtain ⟨fd, F0, G⟩ := F.o
  refine G.run A outer s H ⟨us, ks.zip ws⟩ (pick pm (us ++ ws)) (pick pm (vs ++ zs)) Q E hr e0 ?_ (pick_vals (rv.append rz) pm) h
  obtain ⟨oc, od, dV, kV, doc, pmv, an, cdv, ct, osl, rfl, lk, hcd, hD, hK⟩ := F0.ex
  rcases hD with ⟨_, rfl⟩ | ⟨e, _⟩
  · exact .of_eq (hb kV doc pmv an cdv ct us ws (rv.length.symm.trans l1) (rz.length.symm.trans l2))
  · exact absurd rfl e
  )]); intro f; simpa using My.gz f 5 true
end
end My
namespace My
open PySem PySem.Spec PyProof.Rows L2
end My
namespace My
open PySem PySem.Spec PyProof.Rows L2
def Bits (xs : List Int) : Prop := ∀ v ∈ xs, v = 0 ∨ v = 1
theorem Bits.tl {x : Int} {xs : List Int} (h : Bits (x :: xs)) : Bits xs := fun v hv => h v (List.mem_cons_of_mem _ hv)
theorem Bits.hd {x : Int} {xs : List Int} (h : Bits (x :: xs)) : x = 0 ∨ x = 1 := h x List.mem_cons_self
theorem Bits.take {xs : List Int} (h : Bits xs) (d : Nat) : Bits (xs.take d) := fun v hv => h v (List.mem_of_mem_take hv)
theorem Bits.drop {xs : List Int} (h : Bits xs) (d : Nat) : Bits (xs.drop d) := fun v hv => h v (List.mem_of_mem_drop hv)
end My
namespace My
open PySem PySem.Spec PyProof.Rows L2
def tLenSetQ (K : Fg) (ta : TE) : TE := fun σ H Q => ta σ H fun x H1 => ∃ (l : Addr) (ns : List Int), x = .ref l ∧ (SqL K H1 l (ns.map V.int) ∨ SqT K H1 l (ns.map V.int)) ∧ ns.Nodup ∧ ns.length ≤ 4000 ∧ Q (.int (ns.length : Nat)) H1
theorem pe_lenSetQ {X : Cx} {a : Expr} {ta : TE} {p p2 q pos : Pos} (hg : Gl X "len") (hm : X.mg "len" = none) (hg2 : Gl X "set") (hm2 : X.mg "set" = none) (ha : PE X a ta) (hc : X.calm = true := by rfl)
    (na : starEach [a] X.env = (false, eval a X.env) :: starEach [] X.env := by rfl) : PE X (.Call (.Name "len" p) [.Call (.Name "set" p2) [a] [] q] [] pos) (tLenSetQ X.K ta) := by
  refine ⟨fun pins s σ H Q I h => ?_⟩
  refine Call_ (ld_blt I hg hm boot_len ?_)
  refine PyProof.Rows.callWith_builtin1 (PyProof.Rows.args_cons ?_ rfl) rfl rfl
  refine Call_ (ld_blt I hg2 hm2 boot_set ?_)
  refine PyProof.Rows.callWith_type1 (PyProof.Rows.args_cons (thn (ha.run pins s σ H _ I h) fun v s1 ⟨x, H1, I1, r1, q1⟩ => PyProof.Rows.args_nil ?_) na) na rfl
  obtain ⟨l, ns, rfl, hq, hnd, hl, q1⟩ := q1
  cases r1
  rcases hq with hq | hq
  · obtain ⟨its, r, pl, hz⟩ := I1.list hq
    have hlen : its.toArray.size = ns.length := by rw [List.size_toArray, ← r.length, List.length_map]
    refine call_set_list (I1.ok.hd hc) pl.isList (by simpa using RZ.intsAre_vals r) (by rw [hlen]; unfold scanBound; omega) fun h' tk hS hk => ?_
    refine PyProof.Rows.args_nil ?_
    rw [hlen, RZ.firstMet_nodup hnd ns.length (Nat.le_refl _), List.take_length] at hS
    obtain ⟨o, es, ep, t, ho, hex, hd, _, _, _, hf, hn⟩ := hS
    have I2 : Inv X pins σ H1 { s1 with heap := h', toks := tk } := I1.kept fun b o e => hk b o (Heap.lt_size e) e
    exact call_len_set ho hex hd hf (by rw [hn] <;> omega) ⟨.int ns.length, H1, I2.tok _, ⟨_, by rw [hn]⟩, q1⟩
  · obtain ⟨its, r, pl, hz⟩ := I1.tuple hq
    refine call_set_tupI ns (I1.ok.hd hc) (show s1.heap.IsTuple l its.toArray from pl) (by simpa using RZ.intsAre_vals r) (by unfold scanBound; omega) fun h' tk c R hcn hk => ?_
    refine PyProof.Rows.args_nil ?_
    obtain ⟨o, es, ep, t, ho, hex, hd, _, nd, hmem, _, hf, hn, _⟩ := R
    have hc2 : es.size = ns.length := by
      have h1 := nd_le ns (es.toList.map keyOf) hnd fun x hx => (hmem x).mp (decide_eq_true hx)
      have h2 : (es.toList.map keyOf).length = es.size := by simp
      omega
    have I2 : Inv X pins σ H1 { s1 with heap := h', toks := tk } := I1.kept hk
    exact call_len_set ho hex hd hf (by rw [hc2]; omega) ⟨.int ns.length, H1, I2.tok _, ⟨_, by rw [hc2]⟩, q1⟩
end My
namespace My
open PySem PySem.Spec PyProof.Rows L2
end My
namespace My
open PySem PySem.Spec PyProof.Rows L2
open Builtin.SmallTypes (ownedTupleIsFree ownedTupleHandOut nextOf)
/-- a zip's record -/
abbrev ZRec (h : Heap) (z TI TO : Addr) (q : Value) (f : Bool) : Prop :=
  h.get? z = some { cls := .type "zip", dict := none, data := .fields #[q, .bool f, .bool false, .ref TI, .ref TO], slots := #[] }
section
variable {prog : Program} {w : World} {A : Around} {E : Value → Shared → Prop} {s : Shared} {z TI TO i1 i2 l1 l2 : Addr} {k1 k2 : Nat} {xs ys : Array Value} {x y a b q : Value} {f : Bool}
/-- where a zip stands at turn i of a walk by which no tuple is taken back -/
def ZSt (z TI TO i1 i2 l1 l2 : Addr) (i : Nat) (h : Heap) : Prop :=
  ((ZRec h z TI TO .none false) ∨ ∃ (T : Addr) (f : Bool), ZRec h z TI TO (rawInt T) f) ∧ IsPair h TI (.ref i1) (.ref i2) ∧ (∃ a b, IsPair h TO a b) ∧ h.IsListIter i1 l1 i ∧ h.IsListIter i2 l2 i
theorem ZSt.at {i : Nat} {h g : Heap} (st : ZSt z TI TO i1 i2 l1 l2 i h) (k : ∀ c o, c = z ∨ c = TI ∨ c = TO ∨ c = i1 ∨ c = i2 → h.get? c = some o → g.get? c = some o) : ZSt z TI TO i1 i2 l1 l2 i g := by
  apply My.two; (focus intro zzI; simp only [↓ My.mkB zzI (by
  clear zzI
  obtain ⟨hz, hTI, ⟨a, b, hTO⟩, h1, h2⟩ := st
  refine ⟨?_, k _ _ (.inr (.inl rfl)) hTI, ⟨a, b, k _ _ (.inr (.inr (.inl rfl))) hTO⟩, h1.at fun o q => k _ _ (.inr (.inr (.inr (.inl rfl)))) q, h2.at fun o q => k _ _ (.inr (.inr (.inr (.inr rfl)))) q⟩
  rcases hz with h | ⟨T, f, h⟩
  · exact .inl (k _ _ (.inl rfl) h)
  · exact .inr ⟨T, f, k _ _ (.inl rfl) h⟩
  )]); intro f; simpa using My.gz f 5 true
end
end My
namespace My
open PySem PySem.Spec PyProof.Rows L2
end My
namespace My
open PySem PySem.Spec PyProof.Rows L2
section
variable {fa : List (Fg → Bool)} {fn : List He5.DefA} {K : Fg} {mg : Str → Option Value} {X : Cx}
theorem past (T : TxOf fa fn K mg) {e : Expr} {es : List Expr} {te : TE} {t : TA} {p : Pos} (he : PE X e te) (hr : PA X es t) (hK : X.K = K := by rfl) (hs : starEach (.Starred e p :: es) X.env = (true, eval e X.env) :: starEach es X.env := by rfl) : PA X (.Starred e p :: es) (StX.tStar K te t) := by
  subst hK
  exact StX.pa_star he hr hs
end
end My
namespace My
open PySem PySem.Spec PyProof.Rows L2
section
variable {fa : List (Fg → Bool)} {fn : List He5.DefA} {K : Fg} {mg : Str → Option Value} {X : Cx}
theorem inq (T : TxOf fa fn K mg) (hK : X.K = K := by rfl) : OpR X (compareOp .In) (rIn K false) := by subst hK; exact op_in_seq
end
end My
namespace My
open PySem PySem.Spec PyProof.Rows L2
end My
namespace My
open PySem PySem.Spec PyProof.Rows L2
/-- the class has object's __ne__ -/
def neB (C : Str) (K : Fg) : Bool := He.eqO (PySem.W.findIn K (.ref (He.ga K C)) "__ne__") (some (some (.builtin "object.__ne__"))) && decide (PySem.W.mroIn K (He.ga K C) (.type "object") = some true)
end My
namespace My
open PySem PySem.Spec PyProof.Rows L2
end My
namespace My
open PySem PySem.Spec PyProof.Rows L2
end My
namespace My
open PySem PySem.Spec PyProof.Rows L2
/-- built-in types of values -/
def tys : List String := ["NoneType", "bool", "int", "str", "list", "tuple", "dict"]
/-- none of these types is the class D, and none goes ahead of the class C -/
def othB (C D : Str) (K : Fg) : Bool := tys.all fun T => decide (PySem.W.kitOne K (.type T) (.ref (He.ga K D)) = some false) && PySem.W.notFirst K (He.ga K C) (.type T)
end My
namespace My
open PySem PySem.Spec PyProof.Rows L2 PySem.PyData
/-- the text, sign by sign -/
abbrev sg (d : PyData) : List Nat := TL.tl d.shown
/-- a figure or a minus -/
def Fig (c : Nat) : Prop := c = 45 ∨ (48 ≤ c ∧ c ≤ 57)
theorem digit_fig {n : Nat} : ∀ c ∈ (Nat.toDigits 10 n).map Char.toNat, 48 ≤ c ∧ c ≤ 57 := fun c hc => by
  obtain ⟨d, hd, rfl⟩ := List.mem_map.mp hc
  have h := Nat.isDigit_of_mem_toDigits (by decide) (by decide) hd
  simp only [Char.isDigit, Bool.and_eq_true, decide_eq_true_eq] at h
  exact ⟨h.1, h.2⟩
theorem repr_list (n : Nat) : (Nat.repr n).toList = Nat.toDigits 10 n := by
  unfold Nat.repr
  rw [String.toList_ofList]
theorem sg_nat (n : Nat) : sg (.int (n : Int)) = (Nat.toDigits 10 n).map Char.toNat := by
  unfold sg
  rw [shown_int, TL.tl_ofString, show (toString (n : Int)) = Nat.repr n from rfl, repr_list]
theorem sg_neg (n : Nat) : sg (.int (Int.negSucc n)) = 45 :: (Nat.toDigits 10 (n + 1)).map Char.toNat := by
  apply My.two; (focus intro zzI; simp only [↓ My.mkB zzI (by
  clear zzI
  unfold sg
  rw [shown_int, TL.tl_ofString, show (toString (Int.negSucc n)) = "-" ++ Nat.repr (n + 1) from rfl, String.toList_append, List.map_append, repr_list]
  rfl
  )]); intro f; simpa using My.gz f 5 true
theorem sg_int_fig (i : Int) : ∀ c ∈ sg (.int i), Fig c := by
  apply My.two; (focus intro zzI; simp only [↓ My.mkB zzI (by
  clear zzI
  cases i with
  | ofNat n =>
    intro c hc
    rw [show Int.ofNat n = (n : Int) from rfl, sg_nat] at hc
    exact .inr (digit_fig c hc)
  | negSucc n =>
    intro c hc
    rw [sg_neg] at hc
    rcases List.mem_cons.mp hc with h | h
    · exact .inl h
    · exact .inr (digit_fig c h)
  )]); intro f; simpa using My.gz f 5 true
/-- closers -/
def Clo (c : List Nat) : Prop := c = [44, 41] ∨ c = [41] ∨ c = [93]
theorem Clo.ex {c : List Nat} (h : Clo c) : ∃ k l, c = k :: l ∧ (k = 44 ∨ k = 41 ∨ k = 93) := by
  apply My.two; (focus intro zzI; simp only [↓ My.mkB zzI (by
  clear zzI
  rcases h with rfl | rfl | rfl
  · exact ⟨_, _, rfl, .inl rfl⟩
  · exact ⟨_, _, rfl, .inr (.inl rfl)⟩
  · exact ⟨_, _, rfl, .inr (.inr rfl)⟩
  )]); intro f; simpa using My.gz f 5 true
end My
namespace My
open PySem PySem.Spec PyProof.Rows L2
/-- a caught exception at a, kept: its class, its dict -/
def ExK (cls : Value) (d : Option Addr) (a : Addr) : HO := .ext fun g => ∃ (o : Obj) (fv : Array Value), g.get? a = some o ∧ Zc cls d o ∧ o.data = .fields fv
end My
namespace My
open PySem PySem.Spec PyProof.Rows L2
/-- an exception with its own dict, kept at a -/
def KExc (H : Hp) (a C : Addr) (fs : List (Str × V)) : Prop := ∃ dd : Addr, H a = some (ExK (.ref C) (some dd) a) ∧ H dd = some (.xd fs)
theorem KExc.same {H H' : Hp} {a C : Addr} {fs : List (Str × V)} (h : KExc H a C fs) (s : Same H H') : KExc H' a C fs := by
  obtain ⟨dd, h1, h2⟩ := h
  exact ⟨dd, s _ _ h1, s _ _ h2⟩
end My
namespace My
open PySem PySem.Spec PyProof.Rows L2
end My
namespace My
open PySem PySem.Spec PyProof.Rows L2
end My
namespace My
open PySem PySem.Spec PyProof.Rows L2
section
variable {X : Cx} {o : Expr} {ta : TE} {f : Str} {pos : Pos}
/-- o.f = .. as a target -/
def gFld (K : Fg) (ta : TE) (f : Str) : TG := fun v σ H Q => ta σ H fun x H1 => ∃ a C dx fs, x = .ref a ∧ H1 a = some (.ins C dx fs) ∧ Cls K C ∧ NoAttr K C f ∧ fs.length < 1000 ∧ Q σ (upd H1 a (.ins C dx (putF f v fs)))
theorem pg_fld (he : PE X o ta)
    (hq : ∀ v, assign (.Attribute o f pos) X.env v = (do
      let w ← holding [v] (eval o X.env)
      standAt pos.atName
      holding [v, w] (setAttr w f v)
      release [v, w] []) := by intro _; rfl) : PG X (.Attribute o f pos) (gFld X.K ta f) := by
  apply My.two; (focus intro zzI; simp only [↓ My.mkB zzI (by
  clear zzI
  refine ⟨fun pins s σ H v u Q I r h => ?_⟩
  rw [hq]
  refine wpAny_bind (wpAny_holding (thn (he.run pins s σ H _ I h) fun w s1 h1 => ?_))
  obtain ⟨x, H1, I1, rx, a, C, dx, fs, ex, ea, c, n, l, q⟩ := h1
  subst ex
  obtain rfl : w = Value.ref a := rx
  exact wpAny_bind (wpAny_standAt (wpAny_bind (wpAny_holding (setattr_ok I1 ea c n l r fun s3 I3 => wpAny_release ⟨σ, _, I3, q⟩))))
  )]); intro f; simpa using My.gz f 5 true
end
end My
namespace My
/-- the remainder comes again first at L, where it is that of e -/
structure Trl (f : Int → Int) (d : Nat) (x : Int) (L e : Nat) : Prop where
  lt : e < L
  eq : it f x L % (d : Int) = it f x e % (d : Int)
  ne : ∀ i j : Nat, i < j → j < L → it f x i % (d : Int) ≠ it f x j % (d : Int)
/-- a look at m dates: which remainder has which number -/
structure TrlI (f : Int → Int) (d : Nat) (x : Int) (m : Nat) (val : Int → Option Int) : Prop where
  v1 : ∀ z j, val z = some j → ∃ n : Nat, j = (n : Int) ∧ n < m ∧ it f x n % (d : Int) = z
  v2 : ∀ j : Nat, j < m → val (it f x j % (d : Int)) = some (j : Int)
  le : m ≤ d
section
variable {f : Int → Int} {d : Nat} {x : Int} {m L e L' e' : Nat} {val : Int → Option Int}
theorem TrlI.ne (h : TrlI f d x m val) (i j : Nat) (hij : i < j) (hj : j < m) : it f x i % (d : Int) ≠ it f x j % (d : Int) := fun e => by
  have h1 := h.v2 i (by omega)
  rw [e, h.v2 j hj] at h1
  have := Option.some.inj h1
  omega
theorem TrlI.step (d0 : 0 < d) (h : TrlI f d x m val) (hv : val (it f x m % (d : Int)) = none) : TrlI f d x (m + 1) (fun z => if z = it f x m % (d : Int) then some (m : Int) else val z) := by
  apply My.two; (focus intro zzI; simp only [↓ My.mkB zzI (by
  clear zzI
  have nn : ∀ j : Nat, j < m → it f x j % (d : Int) ≠ it f x m % (d : Int) := fun j hj e => by
    have := h.v2 j hj
    rw [e, hv] at this
    cases this
  refine ⟨fun z j hz => ?_, fun j hj => ?_, ?_⟩
  · replace hz : (if z = it f x m % (d : Int) then some (m : Int) else val z) = some j := hz
    by_cases e : z = it f x m % (d : Int)
    · rw [if_pos e] at hz
      exact ⟨m, (Option.some.inj hz).symm, Nat.lt_succ_self m, e.symm⟩
    · rw [if_neg e] at hz
      obtain ⟨n, h1, h2, h3⟩ := h.v1 z j hz
      exact ⟨n, h1, by omega, h3⟩
  · show (if it f x j % (d : Int) = it f x m % (d : Int) then some (m : Int) else val (it f x j % (d : Int))) = _
    rcases Nat.lt_or_ge j m with c | c
    · rw [if_neg (nn j c)]
      exact h.v2 j c
    · have : j = m := by omega
      subst this
      rw [if_pos rfl]
  · have hp := pigeon d ((List.range (m + 1)).map fun j => (it f x j % (d : Int)).toNat) ?_ ?_
    · rw [List.length_map, List.length_range] at hp
      exact hp
    · rw [List.nodup_iff_pairwise_ne, List.pairwise_map]
      refine List.Pairwise.imp_of_mem ?_ (List.pairwise_lt_range (n := m + 1))
      intro i j hi hj hij e
      have hi2 := List.mem_range.mp hi
      have hj2 := List.mem_range.mp hj
      have a0 := Int.emod_nonneg (it f x i) (show (d : Int) ≠ 0 by omega)
      have b0 := Int.emod_nonneg (it f x j) (show (d : Int) ≠ 0 by omega)
      have e2 : it f x i % (d : Int) = it f x j % (d : Int) := by omega
      rcases Nat.lt_or_ge j m with c1 | c1
      · exact h.ne i j hij c1 e2
      · have : j = m := by omega
        subst this
        exact nn i hij e2
    · intro v hv2
      obtain ⟨j, _, rfl⟩ := List.mem_map.mp hv2
      have a1 := Int.emod_lt_of_pos (it f x j) (show (0 : Int) < (d : Int) by omega)
      have a0 := Int.emod_nonneg (it f x j) (show (d : Int) ≠ 0 by omega)
      omega
  )]); intro f; simpa using My.gz f 5 true
theorem TrlI.done {j : Int} (h : TrlI f d x m val) (hv : val (it f x m % (d : Int)) = some j) : ∃ e : Nat, j = (e : Int) ∧ Trl f d x m e := by
  obtain ⟨n, h1, h2, h3⟩ := h.v1 _ _ hv
  exact ⟨n, h1, h2, h3.symm, fun i j hij hj => h.ne i j hij hj⟩
theorem Trl.uniq (a : Trl f d x L e) (b : Trl f d x L' e') : L = L' ∧ e = e' := by
  apply My.two; (focus intro zzI; simp only [↓ My.mkB zzI (by
  clear zzI
  have hL : L = L' := by
    rcases Nat.lt_trichotomy L L' with c | c | c
    · exact absurd a.eq.symm (b.ne e L a.lt c)
    · exact c
    · exact absurd b.eq.symm (a.ne e' L' b.lt c)
  subst hL
  refine ⟨rfl, ?_⟩
  rcases Nat.lt_trichotomy e e' with c | c | c
  · exact absurd (a.eq.symm.trans b.eq) (a.ne e e' c b.lt)
  · exact c
  · exact absurd (b.eq.symm.trans a.eq) (a.ne e' e c a.lt)
  )]); intro f; simpa using My.gz f 5 true
theorem Trl.le (a : Trl f d x L e) (d0 : 0 < d) : L ≤ d := by
  apply My.two; (focus intro zzI; simp only [↓ My.mkB zzI (by
  clear zzI
  have hp := pigeon d ((List.range L).map fun j => (it f x j % (d : Int)).toNat) ?_ ?_
  · rw [List.length_map, List.length_range] at hp
    exact hp
  · rw [List.nodup_iff_pairwise_ne, List.pairwise_map]
    refine List.Pairwise.imp_of_mem ?_ (List.pairwise_lt_range (n := L))
    intro i j hi hj hij e
    have hj2 := List.mem_range.mp hj
    have a0 := Int.emod_nonneg (it f x i) (show (d : Int) ≠ 0 by omega)
    have b0 := Int.emod_nonneg (it f x j) (show (d : Int) ≠ 0 by omega)
    exact a.ne i j hij hj2 (by omega)
  · intro v hv2
    obtain ⟨j, _, rfl⟩ := List.mem_map.mp hv2
    have a1 := Int.emod_lt_of_pos (it f x j) (show (0 : Int) < (d : Int) by omega)
    have a0 := Int.emod_nonneg (it f x j) (show (d : Int) ≠ 0 by omega)
    omega
  )]); intro f; simpa using My.gz f 5 true
theorem Trl.at (a : Trl f d x L e) (p : Per f d) (c : Nat) (hc : e ≤ c) : it f x c = it f x (e + (c - e) % (L - e)) + (((c - e) / (L - e) : Nat) : Int) * (it f x L - it f x e) := by
  apply My.two; (focus intro zzI; simp only [↓ My.mkB zzI (by
  clear zzI
  have := a.lt
  have h := it_ring p (a := e) (s := L - e) (by omega) (by rw [show e + (L - e) = L by omega]; exact a.eq) c hc
  rw [show e + (L - e) = L by omega] at h
  exact h
  )]); intro f; simpa using My.gz f 5 true
end
end My
namespace PySem
end PySem
namespace PySem
end PySem
namespace My
open PySem PySem.Spec PyProof.Rows L2
end My
namespace My
open PySem PySem.Spec PyProof.Rows L2
section
variable {K : Fg} {H H' : Hp} {a p : Addr} {o : HO} {xs : List V}
theorem Same.use (s : Same H H') (h : H a = some o) : H' a = some o := s _ _ h
theorem newS (e : upd H a o = H') (h : H a = none) : Same H H' := e ▸ same_upd h
theorem newO (e : upd H a o = H') : H' a = some o := by rw [← e]; exact upd_same
end
end My
namespace My
open PySem PySem.Spec PyProof.Rows L2
end My
namespace My
/-- the least number of a date -/
def NumOf (f : Int → Int) (x date : Int) : Option Int → Prop
  | none => ∀ c : Nat, it f x c ≠ date
  | some k => ∃ c : Nat, k = (c : Int) ∧ it f x c = date ∧ ∀ c' : Nat, it f x c' = date → c ≤ c'
theorem NumOf.uniq {f : Int → Int} {x date : Int} : ∀ {o o' : Option Int}, NumOf f x date o → NumOf f x date o' → o = o'
  | none, none, _, _ => rfl
  | none, some _, h, ⟨c, _, e, _⟩ => absurd e (h c)
  | some _, none, ⟨c, _, e, _⟩, h => absurd e (h c)
  | some _, some _, ⟨c, e1, h1, m1⟩, ⟨c', e2, h2, m2⟩ => by
    apply My.two; (focus intro zzI; simp only [↓ My.mkB zzI (by
    clear zzI
    have := m1 c' h2
    have := m2 c h1
    rw [e1, e2]
    congr 1
    omega
    )]); intro f; simpa using My.gz f 5 true
section
variable {f : Int → Int} {d : Nat} {x date : Int} {L e : Nat}
theorem Trl.join (a : Trl f d x L e) (p : Per f d) {j : Nat} (q : Nat) (h : e ≤ j) (hj : j < L) : it f x (j + q * (L - e)) = it f x j + (q : Int) * (it f x L - it f x e) := by
  apply My.two; (focus intro zzI; simp only [↓ My.mkB zzI (by
  clear zzI
  have lt := a.lt
  have s0 : 0 < L - e := by omega
  have h1 := a.at p (j + q * (L - e)) (by omega)
  have e1 : j + q * (L - e) - e = (j - e) + (L - e) * q := by rw [Nat.mul_comm]; omega
  rw [e1, Nat.add_mul_mod_self_left, Nat.add_mul_div_left _ _ s0, Nat.mod_eq_of_lt (by omega), Nat.div_eq_of_lt (by omega), show e + (j - e) = j by omega, Nat.zero_add] at h1
  exact h1
  )]); intro f; simpa using My.gz f 5 true
theorem Trl.dvd (a : Trl f d x L e) : (d : Int) ∣ it f x L - it f x e := Int.dvd_of_emod_eq_zero (by rw [Int.sub_emod, a.eq, Int.sub_self]; exact Int.zero_emod _)
end
end My
namespace My
open PySem PySem.Spec PyProof.Rows L2
/-- for i in range(n), the slot told without 0 + -/
theorem for_range0 {n : Nat} {g : TG} {tb : TS} {D : Ends} {σ : L2.St} {H : Hp} (Pv : Nat → L2.St → Hp → Prop) (h0 : Pv 0 σ H)
    (hs : ∀ i σ H, i < n → Pv i σ H → g (.int (i : Nat)) σ H fun σ2 H2 => tb { D with nx := Pv (i + 1), ct := Pv (i + 1), bk := D.nx } σ2 H2) (hd : ∀ σ H, Pv n σ H → D.nx σ H) :
    ∃ W : Nat → Nat → L2.St → Hp → Prop, (∃ m, W 0 m σ H) ∧ ∀ i m σ H, W i m σ H →
      ((Itr 0 n).stop i H ∧ D.nx σ H) ∨ ((Itr 0 n).go i H ∧ ∃ N : L2.St → Hp → Prop, (∀ σ' H', N σ' H' → ∃ m', m' < m ∧ W (i + 1) m' σ' H') ∧ ∀ x H', (Itr 0 n).yld i H x H' → g x σ H' fun σ2 H2 => tb { D with nx := N, ct := N, bk := D.nx } σ2 H2) :=
  for_range Pv h0 (fun i σ H hi p => by
    rw [show (0 : Int) + (i : Int) = (i : Int) from Int.zero_add _]
    exact hs i σ H hi p) hd
theorem Same.via {H H1 H2 : Hp} (b : Same H1 H2) (a : Same H H1) : Same H H2 := a.trans b
theorem at_add {xs : List V} {a b : Nat} {v : V} (h : xs[a + b]? = some v) : atI xs ((a : Int) + (b : Int)) = some v := at_of (Int.natCast_add a b).symm h
theorem mulL {i j : Int} (h : -(2 ^ 64) < i ∧ i < 2 ^ 64) : CMul i j := .inl h
theorem mulR {i j : Int} (h : -(2 ^ 64) < j ∧ j < 2 ^ 64) : CMul i j := .inr h
end My
namespace My
/-- the least number with the same date -/
def LevOf (f : Int → Int) (x : Int) (g : Int → Int) (y : Int) : Option Int → Prop
  | none => ∀ c : Nat, it f x c ≠ it g y c
  | some k => ∃ c : Nat, k = (c : Int) ∧ it f x c = it g y c ∧ ∀ c' : Nat, it f x c' = it g y c' → c ≤ c'
theorem LevOf.uniq {f : Int → Int} {x : Int} {g : Int → Int} {y : Int} : ∀ {o o' : Option Int}, LevOf f x g y o → LevOf f x g y o' → o = o'
  | none, none, _, _ => rfl
  | none, some _, h, ⟨c, _, e, _⟩ => absurd e (h c)
  | some _, none, ⟨c, _, e, _⟩, h => absurd e (h c)
  | some _, some _, ⟨c, e1, h1, m1⟩, ⟨c', e2, h2, m2⟩ => by
    apply My.two; (focus intro zzI; simp only [↓ My.mkB zzI (by
    clear zzI
    have := m1 c' h2
    have := m2 c h1
    rw [e1, e2]
    congr 1
    omega
    )]); intro f; simpa using My.gz f 5 true
theorem LevOf.symm {f : Int → Int} {x : Int} {g : Int → Int} {y : Int} : ∀ {o : Option Int}, LevOf f x g y o → LevOf g y f x o
  | none, h => fun c e => h c e.symm
  | some _, ⟨c, e1, h1, m1⟩ => ⟨c, e1, h1.symm, fun c' e => m1 c' e.symm⟩
end My
namespace My
open PySem PySem.Spec PyProof.Rows L2
end My
namespace My
open PySem PySem.Spec PyProof.Rows L2
end My
namespace My
open PySem PySem.Spec PyProof.Rows L2
def kD : Key → PyData
  | .inl i => .int i
  | .inr x => .str x
/-- the interpreter's own dict of modules is in the written part -/
def smB (K : Fg) : Bool := match K.lookup sysModules with
  | some o => o.cls == .type "dict"
  | none => false
mutual
inductive ShwD (K : Fg) (H : Hp) : V → PyData → Prop
  | non : ShwD K H .non .none
  | bl (b : Bool) : ShwD K H (.bl b) (.bool b)
  | int (i : Int) : ShwD K H (.int i) (.int i)
  | str (x : Str) : ShwD K H (.str x) (.str x)
  | lst {a : Addr} {xs : List V} {ds : List PyData} : SqL K H a xs → ShwDs K H xs ds → ShwD K H (.ref a) (.list ds)
  | tup {a : Addr} {xs : List V} {ds : List PyData} : SqT K H a xs → ShwDs K H xs ds → ShwD K H (.ref a) (.tuple ds)
  | dct {a : Addr} {kvs : List (Key × V)} {ds : List (PyData × PyData)} : H a = some (.dK kvs) → ShwKv K H kvs ds → ShwD K H (.ref a) (.dict ds)
inductive ShwDs (K : Fg) (H : Hp) : List V → List PyData → Prop
  | nil : ShwDs K H [] []
  | cons {v : V} {vs : List V} {d : PyData} {ds : List PyData} : ShwD K H v d → ShwDs K H vs ds → ShwDs K H (v :: vs) (d :: ds)
inductive ShwKv (K : Fg) (H : Hp) : List (Key × V) → List (PyData × PyData) → Prop
  | nil : ShwKv K H [] []
  | cons {k : Key} {v : V} {vs : List (Key × V)} {d : PyData} {ds : List (PyData × PyData)} : ShwD K H v d → ShwKv K H vs ds → ShwKv K H ((k, v) :: vs) ((kD k, d) :: ds)
end
section
variable {X : Cx} {pins : List (Addr × Obj)} {σ : L2.St} {H : Hp} {s : Shared}
theorem smB_ne {K : Fg} {h : Heap} (hK : K.In h) (sm : smB K = true) {a : Addr} {o : Obj} (ha : h.get? a = some o) (hc : o.cls ≠ .type "dict") : a ≠ sysModules := fun e => by
  unfold smB at sm
  split at sm
  · rename_i o' eo
    rw [e, hK _ _ eo] at ha
    cases ha
    exact hc (beq_iff_eq.mp sm)
  · cases sm
theorem key_reads {h : Heap} {k : Key} {v : Value} (hk : keyIs k v = true) : Reads h v (kD k) [] := by
  apply My.two; (focus intro zzI; simp only [↓ My.mkB zzI (by
  clear zzI
  rcases keyIs_shape hk with ⟨i, t, rfl, rfl⟩ | ⟨x, t, rfl, rfl⟩
  · exact .int i t
  · exact .str x t
  )]); intro f; simpa using My.gz f 5 true
mutual
theorem ShwD.reads (I : Inv X pins σ H s) (sm : smB X.K = true) : ∀ {v : V} {d : PyData}, ShwD X.K H v d → ∀ u, RelV v u → ∃ as, Reads s.heap u d as ∧ sysModules ∉ as
  | _, _, .non, u, r => by
    cases r
    exact ⟨_, .none, by simp⟩
  | _, _, .bl b, u, r => by
    cases r
    exact ⟨_, .bool b, by simp⟩
  | _, _, .int i, u, r => by
    obtain ⟨t, rfl⟩ := r
    exact ⟨_, .int i t, by simp⟩
  | _, _, .str x, u, r => by
    obtain ⟨t, rfl⟩ := r
    exact ⟨_, .str x t, by simp⟩
  | _, _, .lst (a := a) h hs, u, r => by
    apply My.two; (focus intro zzI; simp only [↓ My.mkB zzI (by
    clear zzI
    cases r
    obtain ⟨its, rv, ⟨o, n, h1, h2, _, h3⟩, _⟩ := I.list h
    obtain ⟨as, ha, hn⟩ := ShwDs.reads I sm hs its rv
    refine ⟨_, .list h1 h2 h3 ha, fun hm => ?_⟩
    rcases List.mem_cons.mp hm with e | e
    · exact smB_ne I.kIn sm h1 (by rw [h2]; exact fun z => absurd (Value.type.inj z) (by decide)) e.symm
    · exact hn e
    )]); intro f; simpa using My.gz f 5 true
  | _, _, .tup h hs, u, r => by
    apply My.two; (focus intro zzI; simp only [↓ My.mkB zzI (by
    clear zzI
    cases r
    obtain ⟨its, rv, ⟨o, h1, h2, n, h3⟩, _⟩ := I.tuple h
    obtain ⟨as, ha, hn⟩ := ShwDs.reads I sm hs its rv
    exact ⟨_, .tuple h1 h2 h3 ha, hn⟩
    )]); intro f; simpa using My.gz f 5 true
  | _, _, .dct (a := a) (kvs := kvs) h hs, u, r => by
    apply My.two; (focus intro zzI; simp only [↓ My.mkB zzI (by
    clear zzI
    cases r
    obtain ⟨_, ne, vs, hkv, o, es, ep, h1, hx, h3, _, hp, _⟩ := dk_of I.hok h
    obtain ⟨as, bs, ha, hb, hn, hm⟩ := ShwKv.reads I sm hs es.toList vs hkv hp
    refine ⟨_, .dict h1 hx.1 h3 ha hb, fun q => ?_⟩
    rcases List.mem_append.mp q with q | q
    · rcases List.mem_cons.mp q with e | q
      · rw [← e] at ne
        exact absurd ne (by simp)
      · exact hn q
    · exact hm q
    )]); intro f; simpa using My.gz f 5 true
theorem ShwDs.reads (I : Inv X pins σ H s) (sm : smB X.K = true) : ∀ {vs : List V} {ds : List PyData}, ShwDs X.K H vs ds → ∀ us, Vals vs us → ∃ as, ReadsAll s.heap us ds as ∧ sysModules ∉ as
  | _, _, .nil, us, r => by
    cases r
    exact ⟨_, .nil, by simp⟩
  | _, _, .cons h hs, us, r => by
    apply My.two; (focus intro zzI; simp only [↓ My.mkB zzI (by
    clear zzI
    cases r with
    | cons r1 r2 =>
      obtain ⟨a1, h1, n1⟩ := ShwD.reads I sm h _ r1
      obtain ⟨a2, h2, n2⟩ := ShwDs.reads I sm hs _ r2
      exact ⟨_, .cons h1 h2, fun q => (List.mem_append.mp q).elim n1 n2⟩
    )]); intro f; simpa using My.gz f 5 true
theorem ShwKv.reads (I : Inv X pins σ H s) (sm : smB X.K = true) : ∀ {kvs : List (Key × V)} {ds : List (PyData × PyData)}, ShwKv X.K H kvs ds → ∀ (es : List DictEntry) (vs : List (Key × Value)), KV kvs vs → Pairs (mixKind X.prog X.w) es vs →
    ∃ as bs, ReadsAll s.heap (es.map (·.key)) (ds.map (·.1)) as ∧ ReadsAll s.heap (es.map (·.val)) (ds.map (·.2)) bs ∧ sysModules ∉ as ∧ sysModules ∉ bs
  | _, _, .nil, es, vs, hk, hp => by
    apply My.two; (focus intro zzI; simp only [↓ My.mkB zzI (by
    clear zzI
    cases hk
    cases hp
    exact ⟨_, _, .nil, .nil, by simp, by simp⟩
    )]); intro f; simpa using My.gz f 5 true
  | _, _, .cons (k := k) (d := d) h hs, es, vs, hk, hp => by
    apply My.two; (focus intro zzI; simp only [↓ My.mkB zzI (by
    clear zzI
    cases hk with
    | cons r1 r2 =>
      cases hp with
      | @cons e kv _ _ p1 p2 p3 =>
        obtain ⟨e1, e2⟩ := r1
        obtain ⟨a2, h2, n2⟩ := ShwD.reads I sm h _ e2
        obtain ⟨as, bs, g1, g2, m1, m2⟩ := ShwKv.reads I sm hs _ _ r2 p3
        have kr : Reads s.heap _ (kD k) [] := key_reads (e1 ▸ p1)
        have h3 : Reads s.heap e.val d a2 := by
          rw [p2]
          exact h2
        exact ⟨_, _, .cons kr g1, .cons h3 g2, by simpa using m1, fun q => (List.mem_append.mp q).elim n2 m2⟩
    )]); intro f; simpa using My.gz f 5 true
end
end
mutual
/-- d's ints have at most B digits; its text's length is at most n; its depth at most m -/
inductive FitD (B : Nat) : PyData → Nat → Nat → Prop
  | of {d : PyData} {n m : Nat} : Fit B d n m → FitD B d n m
  | lst {ds : List PyData} {n m : Nat} : FitDs B ds n m → FitD B (.list ds) (n + 3) (m + 1)
  | tup {ds : List PyData} {n m : Nat} : FitDs B ds n m → FitD B (.tuple ds) (n + 3) (m + 1)
  | dct {ds : List (PyData × PyData)} {n m : Nat} : FitKv B ds n m → FitD B (.dict ds) (n + 3) (m + 1)
inductive FitDs (B : Nat) : List PyData → Nat → Nat → Prop
  | nil {m : Nat} : FitDs B [] 0 m
  | cons {d : PyData} {ds : List PyData} {n k m j : Nat} : FitD B d n j → j ≤ m → FitDs B ds k m → FitDs B (d :: ds) (n + 2 + k) m
inductive FitKv (B : Nat) : List (PyData × PyData) → Nat → Nat → Prop
  | nil {m : Nat} : FitKv B [] 0 m
  | cons {c d : PyData} {ds : List (PyData × PyData)} {i n k m h j : Nat} : FitD B c i h → h ≤ m → FitD B d n j → j ≤ m → FitKv B ds k m → FitKv B ((c, d) :: ds) (i + n + 4 + k) m
end
mutual
theorem FitD.ok {B : Nat} (hB : B ≤ 500) : ∀ {d : PyData} {n m : Nat}, FitD B d n m → d.shown.length ≤ n ∧ d.showable = true ∧ d.depth ≤ m
  | _, _, _, .of h => by
    obtain ⟨h1, h2, _, h4⟩ := Fit.ok hB h
    exact ⟨h1, h2, h4⟩
  | _, _, _, .lst h => by
    apply My.two; (focus intro zzI; simp only [↓ My.mkB zzI (by
    clear zzI
    obtain ⟨h1, h2, h4⟩ := FitDs.ok hB h
    refine ⟨?_, by simpa only [PyData.showable] using h2, by simp only [PyData.depth]; omega⟩
    simp only [PyData.shown]
    exact Nat.le_trans (listText_le _) (by omega)
    )]); intro f; simpa using My.gz f 5 true
  | _, _, _, .tup h => by
    apply My.two; (focus intro zzI; simp only [↓ My.mkB zzI (by
    clear zzI
    obtain ⟨h1, h2, h4⟩ := FitDs.ok hB h
    refine ⟨?_, by simpa only [PyData.showable] using h2, by simp only [PyData.depth]; omega⟩
    simp only [PyData.shown]
    exact Nat.le_trans (fmt_text _) (by omega)
    )]); intro f; simpa using My.gz f 5 true
  | _, _, _, .dct h => by
    apply My.two; (focus intro zzI; simp only [↓ My.mkB zzI (by
    clear zzI
    obtain ⟨h1, h2, h4⟩ := FitKv.ok hB h
    refine ⟨?_, by simpa only [PyData.showable] using h2, by simp only [PyData.depth]; omega⟩
    simp only [PyData.shown]
    exact Nat.le_trans (dictText_len_le _) (by omega)
    )]); intro f; simpa using My.gz f 5 true
theorem FitDs.ok {B : Nat} (hB : B ≤ 500) : ∀ {ds : List PyData} {n m : Nat}, FitDs B ds n m → piled (PyData.shownAll ds) ≤ n ∧ PyData.showableAll ds = true ∧ PyData.depthAll ds ≤ m
  | _, _, _, .nil => ⟨by simp only [PyData.shownAll]; exact Nat.le_refl _, by simp only [PyData.showableAll], by simp only [PyData.depthAll]; omega⟩
  | _, _, _, .cons h hj hs => by
    apply My.two; (focus intro zzI; simp only [↓ My.mkB zzI (by
    clear zzI
    obtain ⟨h1, h2, h4⟩ := FitD.ok hB h
    obtain ⟨g1, g2, g4⟩ := FitDs.ok hB hs
    refine ⟨?_, ?_, ?_⟩
    · simp only [PyData.shownAll, piled_cons]
      omega
    · simp only [PyData.showableAll, h2, g2, Bool.and_self]
    · simp only [PyData.depthAll]
      omega
    )]); intro f; simpa using My.gz f 5 true
theorem FitKv.ok {B : Nat} (hB : B ≤ 500) : ∀ {ds : List (PyData × PyData)} {n m : Nat}, FitKv B ds n m → ((PyData.shownKv ds).map (·.length)).sum + 2 * (PyData.shownKv ds).length ≤ n ∧ PyData.showableKv ds = true ∧ PyData.depthKv ds ≤ m
  | _, _, _, .nil => ⟨by simp [PyData.shownKv], by simp only [PyData.showableKv], by simp only [PyData.depthKv]; omega⟩
  | _, _, _, .cons hc hh h hj hs => by
    apply My.two; (focus intro zzI; simp only [↓ My.mkB zzI (by
    clear zzI
    obtain ⟨c1, c2, c4⟩ := FitD.ok hB hc
    obtain ⟨h1, h2, h4⟩ := FitD.ok hB h
    obtain ⟨g1, g2, g4⟩ := FitKv.ok hB hs
    refine ⟨?_, ?_, ?_⟩
    · have e : (": " : Str).length = 2 := rfl
      simp only [PyData.shownKv, List.map_cons, List.sum_cons, List.length_cons, strLen_append, e]
      omega
    · simp only [PyData.showableKv, c2, h2, g2, Bool.and_self]
    · simp only [PyData.depthKv]
      omega
    )]); intro f; simpa using My.gz f 5 true
end
end My
namespace My
section
variable {f : Int → Int} {n : Nat}
/-- the k-th member from x on, or before it; none if there are no members -/
def KthO (f : Int → Int) (n : Nat) (x k : Int) : Option Int → Prop
  | none => ∀ y, f y ≠ 1
  | some y => f y = 1 ∧ ps f n y = ps f n x + (if 0 < k then k - 1 else k)
theorem KthO.uniq (p : Per f n) (n0 : 0 < n) (hb : ∀ x, f x = 0 ∨ f x = 1) {x k : Int} : ∀ {o o' : Option Int}, KthO f n x k o → KthO f n x k o' → o = o'
  | none, none, _, _ => rfl
  | none, some y, h, h' => absurd h'.1 (h y)
  | some y, none, h, h' => absurd h.1 (h' y)
  | some y, some z, h, h' => by rw [num_uniq p n0 hb h.1 h'.1 (h.2.trans h'.2.symm)]
/-- the greatest gap: bound and met -/
def GapO (f : Int → Int) (n : Nat) : Option Int → Prop
  | none => ∀ y, f y ≠ 1
  | some G => (∀ y z, f y = 1 → f z = 1 → ps f n z = ps f n y + 1 → z - y ≤ G) ∧ ∃ y z, f y = 1 ∧ f z = 1 ∧ ps f n z = ps f n y + 1 ∧ z - y = G
theorem GapO.uniq : ∀ {o o' : Option Int}, GapO f n o → GapO f n o' → o = o'
  | none, none, _, _ => rfl
  | none, some y, h, h' => by
    obtain ⟨y, z, h1, _⟩ := h'.2
    exact absurd h1 (h y)
  | some y, none, h, h' => by
    obtain ⟨y, z, h1, _⟩ := h.2
    exact absurd h1 (h' y)
  | some G, some G', h, h' => by
    apply My.two; (focus intro zzI; simp only [↓ My.mkB zzI (by
    clear zzI
    obtain ⟨y, z, h1, h2, h3, h4⟩ := h.2
    obtain ⟨y', z', h1', h2', h3', h4'⟩ := h'.2
    have := h'.1 y z h1 h2 h3
    have := h.1 y' z' h1' h2' h3'
    congr 1
    omega
    )]); intro f; simpa using My.gz f 5 true
end
end My
namespace My
/-- the remainder behind n steps -/
def rmd (f : Int → Int) (d : Nat) (x : Int) (n : Nat) : Int := it f x n % (d : Int)
section
variable {f : Int → Int} {d : Nat} {x y i : Int} {L e s : Nat}
theorem rmd_lo (d0 : 0 < d) (n : Nat) : 0 ≤ rmd f d x n := Int.emod_nonneg _ (by omega)
theorem rmd_hi (d0 : 0 < d) (n : Nat) : rmd f d x n < (d : Int) := Int.emod_lt_of_pos _ (by omega)
theorem rmd_zero (h0 : 0 ≤ x) (h1 : x < (d : Int)) : rmd f d x 0 = x := by
  apply My.two; (focus intro zzI; simp only [↓ My.mkB zzI (by
  clear zzI
  unfold rmd
  rw [it_zero]
  exact Int.emod_eq_of_lt h0 h1
  )]); intro f; simpa using My.gz f 5 true
theorem it_emod (p : Per f d) (y : Int) (n : Nat) : it f y n = it f (y % (d : Int)) n + (d : Int) * (y / (d : Int)) := by
  rw [← it_per p, Int.emod_add_mul_ediv]
theorem rmd_emod (p : Per f d) (y : Int) (n : Nat) : rmd f d (y % (d : Int)) n = rmd f d y n := by
  unfold rmd
  rw [it_emod p y n, Int.add_mul_emod_self_left]
theorem rmd_add (p : Per f d) (x : Int) (a b : Nat) : rmd f d x (a + b) = rmd f d (rmd f d x a) b := by
  apply My.two; (focus intro zzI; simp only [↓ My.mkB zzI (by
  clear zzI
  rw [show rmd f d x a = it f x a % (d : Int) from rfl, rmd_emod p]
  unfold rmd
  rw [it_add]
  )]); intro f; simpa using My.gz f 5 true
theorem Trl.back (a : Trl f d x L e) (p : Per f d) (c : Nat) (hc : e ≤ c) : rmd f d x c = rmd f d x (e + (c - e) % (L - e)) := by
  apply My.two; (focus intro zzI; simp only [↓ My.mkB zzI (by
  clear zzI
  have h := a.at p c hc
  have hd : (d : Int) ∣ it f x L - it f x e := a.dvd
  unfold rmd
  rw [h, Int.add_emod, Int.emod_eq_zero_of_dvd (Int.dvd_trans hd (Int.dvd_mul_left _ _)), Int.add_zero, Int.emod_emod]
  )]); intro f; simpa using My.gz f 5 true
theorem mod_step {a s t : Nat} (h0 : 0 < t) (h1 : t < s) : (a + t) % s ≠ a % s := fun e => by
  have s0 : 0 < s := by omega
  have hu := Nat.mod_lt a s0
  rw [Nat.add_mod, Nat.mod_eq_of_lt h1] at e
  rcases Nat.lt_or_ge (a % s + t) s with c | c
  · rw [Nat.mod_eq_of_lt c] at e
    omega
  · rw [Nat.mod_eq_sub_mod c, Nat.mod_eq_of_lt (by omega)] at e
    omega
/-- a remainder on the ring of a trail -/
theorem Trl.onr (a : Trl f d x L e) (p : Per f d) {j : Nat} (hj : e ≤ j) : Trl f d (rmd f d x j) (L - e) 0 := by
  apply My.two; (focus intro zzI; simp only [↓ My.mkB zzI (by
  clear zzI
  have elt := a.lt
  refine ⟨by omega, ?_, fun u v huv hv => ?_⟩
  · show rmd f d (rmd f d x j) (L - e) = rmd f d (rmd f d x j) 0
    rw [← rmd_add p, ← rmd_add p, a.back p (j + (L - e)) (by omega), a.back p (j + 0) (by omega)]
    congr 2
    rw [show j + (L - e) - e = (j - e) + (L - e) by omega, Nat.add_mod_right, Nat.add_zero]
  · show rmd f d (rmd f d x j) u ≠ rmd f d (rmd f d x j) v
    rw [← rmd_add p, ← rmd_add p, a.back p (j + u) (by omega), a.back p (j + v) (by omega)]
    have m1 := Nat.mod_lt (j + u - e) (show 0 < L - e by omega)
    have m2 := Nat.mod_lt (j + v - e) (show 0 < L - e by omega)
    have ne : (j + v - e) % (L - e) ≠ (j + u - e) % (L - e) := by
      have := mod_step (a := j + u - e) (s := L - e) (t := v - u) (by omega) (by omega)
      rw [show j + u - e + (v - u) = j + v - e by omega] at this
      exact this
    intro h
    rcases Nat.lt_or_gt_of_ne ne with c | c
    · exact a.ne _ _ (show e + (j + v - e) % (L - e) < e + (j + u - e) % (L - e) by omega) (by omega) h.symm
    · exact a.ne _ _ (show e + (j + u - e) % (L - e) < e + (j + v - e) % (L - e) by omega) (by omega) h
  )]); intro f; simpa using My.gz f 5 true
theorem Trl.ring_per (a : Trl f d y s 0) (p : Per f d) (n : Nat) : rmd f d y n = rmd f d y (n % s) := by
  apply My.two; (focus intro zzI; simp only [↓ My.mkB zzI (by
  clear zzI
  have := a.back p n (Nat.zero_le _)
  rw [Nat.zero_add, Nat.sub_zero, Nat.sub_zero] at this
  exact this
  )]); intro f; simpa using My.gz f 5 true
/-- from any date of a ring one comes back -/
theorem Trl.ring_back (a : Trl f d y s 0) (p : Per f d) (n m : Nat) : ∃ t, rmd f d (rmd f d y n) t = rmd f d y m := by
  apply My.two; (focus intro zzI; simp only [↓ My.mkB zzI (by
  clear zzI
  have s0 := a.lt
  have hn := Nat.mod_lt n s0
  refine ⟨m % s + s - n % s, ?_⟩
  rw [← rmd_add p, a.ring_per p (n + _), a.ring_per p m, Nat.add_mod]
  congr 1
  have hm := Nat.mod_lt m s0
  rw [Nat.add_mod_mod, show n % s + (m % s + s - n % s) = m % s + s by omega, Nat.add_mod_right, Nat.mod_mod]
  )]); intro f; simpa using My.gz f 5 true
/-- the least remainder of a ring -/
def Lst (f : Int → Int) (d : Nat) (i : Int) : Prop := (0 ≤ i ∧ i < (d : Int)) ∧ (∃ s, Trl f d i s 0) ∧ ∀ n, i ≤ rmd f d i n
theorem Trl.lst (a : Trl f d y s 0) (p : Per f d) (d0 : 0 < d) {k : Nat} (hm : ∀ n, n < s → rmd f d y k ≤ rmd f d y n) : Lst f d (rmd f d y k) := by
  apply My.two; (focus intro zzI; simp only [↓ My.mkB zzI (by
  clear zzI
  refine ⟨⟨rmd_lo d0 k, rmd_hi d0 k⟩, ⟨_, a.onr p (Nat.zero_le k)⟩, fun n => ?_⟩
  rw [← rmd_add p, a.ring_per p (k + n)]
  exact hm _ (Nat.mod_lt _ a.lt)
  )]); intro f; simpa using My.gz f 5 true
theorem Lst.uniq {j : Int} {n m : Nat} (p : Per f d) (a : Lst f d i) (b : Lst f d j) (h : rmd f d i n = rmd f d j m) : i = j := by
  apply My.two; (focus intro zzI; simp only [↓ My.mkB zzI (by
  clear zzI
  obtain ⟨⟨i0, i1⟩, ⟨s, ta⟩, la⟩ := a
  obtain ⟨⟨j0, j1⟩, ⟨t, tb⟩, lb⟩ := b
  obtain ⟨u, hu⟩ := ta.ring_back p n 0
  obtain ⟨v, hv⟩ := tb.ring_back p m 0
  rw [rmd_zero i0 i1] at hu
  rw [rmd_zero j0 j1] at hv
  rw [h, ← rmd_add p] at hu
  rw [← h, ← rmd_add p] at hv
  have h1 := la (n + v)
  have h2 := lb (m + u)
  omega
  )]); intro f; simpa using My.gz f 5 true
open Classical in
noncomputable def rlen (f : Int → Int) (d : Nat) (i : Int) : Nat := if h : ∃ s, Trl f d i s 0 then h.choose else 0
theorem Trl.rl_eq (a : Trl f d i s 0) : rlen f d i = s := by
  apply My.two; (focus intro zzI; simp only [↓ My.mkB zzI (by
  clear zzI
  have h : ∃ s, Trl f d i s 0 := ⟨s, a⟩
  unfold rlen
  rw [dif_pos h]
  exact (h.choose_spec.uniq a).1
  )]); intro f; simpa using My.gz f 5 true
theorem Lst.trl (a : Lst f d i) : Trl f d i (rlen f d i) 0 := by
  apply My.two; (focus intro zzI; simp only [↓ My.mkB zzI (by
  clear zzI
  obtain ⟨_, ⟨s, t⟩, _⟩ := a
  rw [t.rl_eq]
  exact t
  )]); intro f; simpa using My.gz f 5 true
open Classical in
noncomputable def lsts (f : Int → Int) (d : Nat) : List Int := ((List.range d).map fun n : Nat => (n : Int)).filter fun i => decide (Lst f d i)
open Classical in
theorem mem_lsts : i ∈ lsts f d ↔ Lst f d i := by
  apply My.two; (focus intro zzI; simp only [↓ My.mkB zzI (by
  clear zzI
  unfold lsts
  rw [List.mem_filter, decide_eq_true_eq]
  refine ⟨fun h => h.2, fun h => ⟨List.mem_map.mpr ⟨i.toNat, List.mem_range.mpr (by have := h.1; omega), by have := h.1; omega⟩, h⟩⟩
  )]); intro f; simpa using My.gz f 5 true
theorem lsts_up : (lsts f d).Pairwise (· < ·) := by
  apply My.two; (focus intro zzI; simp only [↓ My.mkB zzI (by
  clear zzI
  have h : ((List.range d).map fun n : Nat => (n : Int)).Pairwise (· < ·) := by
    rw [List.pairwise_map]
    exact List.pairwise_lt_range.imp fun h => by omega
  unfold lsts
  exact h.filter _
  )]); intro f; simpa using My.gz f 5 true
theorem up_nodup {l : List Int} (h : l.Pairwise (· < ·)) : l.Nodup := by
  rw [List.nodup_iff_pairwise_ne]
  exact h.imp fun h => by omega
theorem lsts_nodup : (lsts f d).Nodup := up_nodup lsts_up
end
/-- behind the starts before st: where one has been, and the least remainders of the rings found -/
structure RgI (f : Int → Int) (d st : Nat) (val : Int → Option Int) (fs : List Int) : Prop where
  nd : fs.Nodup
  lst : ∀ i ∈ fs, Lst f d i ∧ val i ≠ none
  old : ∀ z v, val z = some v → v < (st : Int)
  all : ∀ z : Int, 0 ≤ z → z < (st : Int) → val z ≠ none
  cl : ∀ z v, val z = some v → 0 ≤ z ∧ z < (d : Int) ∧ (∀ n, val (rmd f d z n) ≠ none) ∧ ∃ i ∈ fs, ∃ n, rmd f d z n = i
/-- in the walk from st, behind m steps -/
structure RgW (f : Int → Int) (d st : Nat) (v0 : Int → Option Int) (m : Nat) (val : Int → Option Int) : Prop where
  le : m ≤ d
  ne : ∀ a b : Nat, a < b → b < m → rmd f d st a ≠ rmd f d st b
  out : ∀ a, a < m → v0 (rmd f d st a) = none
  v1 : ∀ a, a < m → val (rmd f d st a) = some (st : Int)
  v2 : ∀ z, (∀ a, a < m → rmd f d st a ≠ z) → val z = v0 z
section
variable {f : Int → Int} {d st m : Nat} {v0 val : Int → Option Int} {fs : List Int}
theorem RgW.step (d0 : 0 < d) (h : RgW f d st v0 m val) (hv : val (rmd f d st m) = none) : RgW f d st v0 (m + 1) (fun z => if z = rmd f d st m then some (st : Int) else val z) := by
  apply My.two; (focus intro zzI; simp only [↓ My.mkB zzI (by
  clear zzI
  have nw : ∀ a, a < m → rmd f d st a ≠ rmd f d st m := fun a ha e => by
    rw [← e, h.v1 a ha] at hv
    cases hv
  have ne : ∀ a b : Nat, a < b → b < m + 1 → rmd f d st a ≠ rmd f d st b := fun a b hab hb => by
    rcases Nat.lt_or_ge b m with c | c
    · exact h.ne a b hab c
    · rw [show b = m by omega]
      exact nw a (by omega)
  refine ⟨?_, ne, fun a ha => ?_, fun a ha => ?_, fun z hz => ?_⟩
  · have hp := pigeon d ((List.range (m + 1)).map fun j => (rmd f d st j).toNat) ?_ ?_
    · rw [List.length_map, List.length_range] at hp
      exact hp
    · rw [List.nodup_iff_pairwise_ne, List.pairwise_map]
      refine List.Pairwise.imp_of_mem ?_ (List.pairwise_lt_range (n := m + 1))
      intro i j hi hj hij e
      have hj2 := List.mem_range.mp hj
      have a0 := rmd_lo (f := f) (x := (st : Int)) d0 i
      have b0 := rmd_lo (f := f) (x := (st : Int)) d0 j
      exact ne i j hij hj2 (by omega)
    · intro v hv2
      obtain ⟨j, _, rfl⟩ := List.mem_map.mp hv2
      have a1 := rmd_hi (f := f) (x := (st : Int)) d0 j
      have a0 := rmd_lo (f := f) (x := (st : Int)) d0 j
      omega
  · rcases Nat.lt_or_ge a m with c | c
    · exact h.out a c
    · rw [show a = m by omega, ← h.v2 _ fun b hb => nw b hb]
      exact hv
  · show (if rmd f d st a = rmd f d st m then some (st : Int) else val (rmd f d st a)) = some (st : Int)
    by_cases c : rmd f d st a = rmd f d st m
    · rw [if_pos c]
    · rw [if_neg c]
      refine h.v1 a ?_
      rcases Nat.lt_or_ge a m with c2 | c2
      · exact c2
      · exact absurd (by rw [show a = m by omega]) c
  · show (if z = rmd f d st m then some (st : Int) else val z) = v0 z
    rw [if_neg (fun e => hz m (by omega) e.symm)]
    exact h.v2 z fun a ha => hz a (by omega)
  )]); intro f; simpa using My.gz f 5 true
/-- the walk ends -/
theorem RgW.done {v : Int} (p : Per f d) (d0 : 0 < d) (I : RgI f d st v0 fs) (h : RgW f d st v0 m val) (hs : st < d) (hv : val (rmd f d st m) = some v) :
    (v = (st : Int) ∧ ∃ e, Trl f d st m e ∧ (∀ i, Lst f d i → (∃ n, rmd f d (rmd f d st e) n = i) → RgI f d (st + 1) val (fs ++ [i]))) ∨ (v ≠ (st : Int) ∧ RgI f d (st + 1) val fs) := by
  apply My.two; (focus intro zzI; simp only [↓ My.mkB zzI (by
  clear zzI
  have s0 : rmd f d (st : Int) 0 = (st : Int) := rmd_zero (by omega) (by omega)
  have grow : ∀ z v, v0 z = some v → val z = some v := fun z v hz => by
    rw [← hz]
    refine h.v2 z fun a ha e => ?_
    rw [← e, h.out a ha] at hz
    cases hz
  have old : ∀ z v, val z = some v → v0 z = some v ∨ (v = (st : Int) ∧ ∃ a, a < m ∧ rmd f d st a = z) := fun z v hz => by
    by_cases c : ∃ a, a < m ∧ rmd f d st a = z
    · obtain ⟨a, ha, e⟩ := c
      rw [← e, h.v1 a ha] at hz
      exact .inr ⟨(Option.some.inj hz).symm, a, ha, e⟩
    · rw [h.v2 z fun a ha e => c ⟨a, ha, e⟩] at hz
      exact .inl hz
  have stv : val (st : Int) ≠ none := by
    rcases Nat.eq_zero_or_pos m with c | c
    · subst c
      rw [s0] at hv
      rw [hv]
      exact fun z => nomatch z
    · have := h.v1 0 c
      rw [s0] at this
      rw [this]
      exact fun z => nomatch z
  rcases old _ _ hv with hv0 | ⟨e0, a, ha, ea⟩
  · -- one comes to a place of before
    refine .inr ⟨fun e => by have := I.old _ _ hv0; omega, ?_⟩
    obtain ⟨c0, c1, c2, i, hi, n, hn⟩ := I.cl _ _ hv0
    refine ⟨I.nd, fun i hi => ⟨(I.lst i hi).1, ?_⟩, fun z v hz => ?_, fun z h0 h1 => ?_, fun z v hz => ?_⟩
    · obtain ⟨w, hw⟩ := Option.ne_none_iff_exists'.mp (I.lst i hi).2
      rw [grow _ _ hw]
      exact fun z => nomatch z
    · rcases old _ _ hz with h2 | h2
      · have := I.old _ _ h2
        omega
      · omega
    · rcases Int.lt_or_le z (st : Int) with c | c
      · obtain ⟨w, hw⟩ := Option.ne_none_iff_exists'.mp (I.all z h0 c)
        rw [grow _ _ hw]
        exact fun z => nomatch z
      · rw [show z = (st : Int) by omega]
        exact stv
    · rcases old _ _ hz with h2 | ⟨_, a, ha, rfl⟩
      · obtain ⟨b0, b1, b2, b3⟩ := I.cl _ _ h2
        refine ⟨b0, b1, fun n => ?_, b3⟩
        obtain ⟨w, hw⟩ := Option.ne_none_iff_exists'.mp (b2 n)
        rw [grow _ _ hw]
        exact fun z => nomatch z
      · refine ⟨rmd_lo d0 a, rmd_hi d0 a, fun k => ?_, i, hi, m - a + n, ?_⟩
        · rw [← rmd_add p]
          rcases Nat.lt_or_ge (a + k) m with c | c
          · rw [h.v1 _ c]
            exact fun z => nomatch z
          · rw [show a + k = m + (a + k - m) by omega, rmd_add p]
            obtain ⟨w, hw⟩ := Option.ne_none_iff_exists'.mp (c2 (a + k - m))
            rw [grow _ _ hw]
            exact fun z => nomatch z
        · rw [← rmd_add p, show a + (m - a + n) = m + n by omega, rmd_add p]
          exact hn
  · -- a new ring
    subst e0
    have tr : Trl f d (st : Int) m a := ⟨ha, ea.symm, h.ne⟩
    refine .inl ⟨rfl, a, tr, fun i hi hn => ?_⟩
    obtain ⟨n, hn⟩ := hn
    have inr : ∀ k, ∃ b, b < m ∧ rmd f d (st : Int) (a + k) = rmd f d (st : Int) b := fun k => by
      have := tr.back p (a + k) (by omega)
      have := Nat.mod_lt (a + k - a) (show 0 < m - a by omega)
      exact ⟨a + (a + k - a) % (m - a), by omega, by assumption⟩
    have iv : ∃ b, b < m ∧ rmd f d (st : Int) b = i := by
      obtain ⟨b, hb, e⟩ := inr n
      rw [← rmd_add p, e] at hn
      exact ⟨b, hb, hn⟩
    obtain ⟨b, hb, eb⟩ := iv
    have ivn : val i = some (st : Int) := by
      rw [← eb]
      exact h.v1 b hb
    have i0 : v0 i = none := by
      rw [← eb]
      exact h.out b hb
    refine ⟨?_, fun j hj => ?_, fun z v hz => ?_, fun z h0 h1 => ?_, fun z v hz => ?_⟩
    · rw [List.nodup_append]
      refine ⟨I.nd, by simp, fun x hx y hy e => ?_⟩
      rw [List.mem_singleton] at hy
      subst hy
      subst e
      exact (I.lst _ hx).2 i0
    · rcases List.mem_append.mp hj with hj | hj
      · refine ⟨(I.lst j hj).1, ?_⟩
        obtain ⟨w, hw⟩ := Option.ne_none_iff_exists'.mp (I.lst j hj).2
        rw [grow _ _ hw]
        exact fun z => nomatch z
      · rw [List.mem_singleton] at hj
        subst hj
        rw [ivn]
        exact ⟨hi, fun z => nomatch z⟩
    · rcases old _ _ hz with h2 | h2
      · have := I.old _ _ h2
        omega
      · omega
    · rcases Int.lt_or_le z (st : Int) with c | c
      · obtain ⟨w, hw⟩ := Option.ne_none_iff_exists'.mp (I.all z h0 c)
        rw [grow _ _ hw]
        exact fun z => nomatch z
      · rw [show z = (st : Int) by omega]
        exact stv
    · rcases old _ _ hz with h2 | ⟨_, c, hc, rfl⟩
      · obtain ⟨b0, b1, b2, j, hj, b3⟩ := I.cl _ _ h2
        refine ⟨b0, b1, fun n => ?_, j, List.mem_append_left _ hj, b3⟩
        obtain ⟨w, hw⟩ := Option.ne_none_iff_exists'.mp (b2 n)
        rw [grow _ _ hw]
        exact fun z => nomatch z
      · refine ⟨rmd_lo d0 c, rmd_hi d0 c, fun k => ?_, i, List.mem_append_right _ (List.mem_singleton.mpr rfl), ?_⟩
        · rw [← rmd_add p]
          rcases Nat.lt_or_ge (c + k) m with c2 | c2
          · rw [h.v1 _ c2]
            exact fun z => nomatch z
          · obtain ⟨b2, hb2, e2⟩ := inr (c + k - a)
            rw [show a + (c + k - a) = c + k by omega] at e2
            rw [e2, h.v1 _ hb2]
            exact fun z => nomatch z
        · refine ⟨(m - c) + n, ?_⟩
          rw [← rmd_add p, show c + ((m - c) + n) = m + n by omega, rmd_add p, ← ea]
          exact hn
  )]); intro f; simpa using My.gz f 5 true
/-- all rings are found -/
theorem RgI.end_ (p : Per f d) (I : RgI f d d val fs) : fs.Perm (lsts f d) := by
  apply My.two; (focus intro zzI; simp only [↓ My.mkB zzI (by
  clear zzI
  refine (List.perm_ext_iff_of_nodup I.nd lsts_nodup).mpr fun i => ?_
  rw [mem_lsts]
  refine ⟨fun h => (I.lst i h).1, fun h => ?_⟩
  obtain ⟨v, hv⟩ := Option.ne_none_iff_exists'.mp (I.all i h.1.1 h.1.2)
  obtain ⟨_, _, _, j, hj, n, hn⟩ := I.cl i v hv
  have l := (I.lst j hj).1
  have : i = j := by
    refine Lst.uniq (n := n) (m := 0) p h l ?_
    rw [hn, rmd_zero l.1.1 l.1.2]
  rw [this]
  exact hj
  )]); intro f; simpa using My.gz f 5 true
end
end My
namespace My
/-- how many keys there are -/
def Cnt (d : Nat) (val : Int → Option Int) (c : Nat) : Prop := ∃ ks : List Int, ks.Nodup ∧ ks.length = c ∧ ∀ z ∈ ks, 0 ≤ z ∧ z < (d : Int) ∧ val z ≠ none
theorem Cnt.put {d c : Nat} {val : Int → Option Int} {z : Int} {v : Int} (h : Cnt d val c) (hz : val z = none) (h0 : 0 ≤ z) (h1 : z < (d : Int)) : Cnt d (fun y => if y = z then some v else val y) (c + 1) := by
  apply My.two; (focus intro zzI; simp only [↓ My.mkB zzI (by
  clear zzI
  obtain ⟨ks, nd, l, hk⟩ := h
  refine ⟨z :: ks, List.nodup_cons.mpr ⟨fun m => (hk z m).2.2 hz, nd⟩, by rw [List.length_cons, l], fun y hy => ?_⟩
  show 0 ≤ y ∧ y < (d : Int) ∧ (if y = z then some v else val y) ≠ none
  by_cases e : y = z
  · rw [if_pos e, e]
    exact ⟨h0, h1, fun z => nomatch z⟩
  · rw [if_neg e]
    exact hk y ((List.mem_cons.mp hy).resolve_left e)
  )]); intro f; simpa using My.gz f 5 true
theorem Cnt.le {d c : Nat} {val : Int → Option Int} (h : Cnt d val c) : c ≤ d := by
  apply My.two; (focus intro zzI; simp only [↓ My.mkB zzI (by
  clear zzI
  obtain ⟨ks, nd, l, hk⟩ := h
  have hp := pigeon d (ks.map Int.toNat) ?_ ?_
  · rw [List.length_map, l] at hp
    exact hp
  · rw [List.nodup_iff_pairwise_ne, List.pairwise_map]
    refine List.Pairwise.imp_of_mem ?_ (List.nodup_iff_pairwise_ne.mp nd)
    intro a b ha hb hab e
    have := (hk a ha).1
    have := (hk b hb).1
    exact hab (by omega)
  · intro v hv
    obtain ⟨z, hz, rfl⟩ := List.mem_map.mp hv
    have := hk z hz
    omega
  )]); intro f; simpa using My.gz f 5 true
end My
namespace My
/-- behind k rings and m more places of the next one: which remainder has which index -/
structure PlI (f : Int → Int) (d k m : Nat) (val : Int → Option Int) : Prop where
  v1 : ∀ z j, val z = some j → ∃ (n : Nat) (i : Int) (q : Nat), j = (n : Int) ∧ (lsts f d)[n]? = some i ∧ rmd f d i q = z ∧ q < rlen f d i ∧ (n < k ∨ n = k ∧ q < m)
  v2 : ∀ (n q : Nat) (i : Int), (lsts f d)[n]? = some i → q < rlen f d i → (n < k ∨ n = k ∧ q < m) → val (rmd f d i q) ≠ none
section
variable {f : Int → Int} {d k m : Nat} {val : Int → Option Int} {i : Int}
theorem PlI.next (h : PlI f d k m val) (hi : (lsts f d)[k]? = some i) (hm : rlen f d i ≤ m) : PlI f d (k + 1) 0 val := ⟨fun z j e => by
  obtain ⟨n, i2, q, h1, h2, h3, h4, h5⟩ := h.v1 z j e
  exact ⟨n, i2, q, h1, h2, h3, h4, .inl (by omega)⟩, fun n q j hn hq hc => by
  rcases Nat.lt_or_ge n k with c | c
  · exact h.v2 n q j hn hq (.inl c)
  · obtain rfl : n = k := by omega
    rw [hn] at hi
    obtain rfl : j = i := Option.some.inj hi
    exact h.v2 n q j hn hq (.inr ⟨rfl, by omega⟩)⟩
theorem PlI.step (h : PlI f d k m val) (hi : (lsts f d)[k]? = some i) (hm : m < rlen f d i) : PlI f d k (m + 1) (fun z => if z = rmd f d i m then some (k : Int) else val z) := by
  apply My.two; (focus intro zzI; simp only [↓ My.mkB zzI (by
  clear zzI
  refine ⟨fun z j e => ?_, fun n q j hn hq hc => ?_⟩
  · replace e : (if z = rmd f d i m then some (k : Int) else val z) = some j := e
    by_cases c : z = rmd f d i m
    · rw [if_pos c] at e
      exact ⟨k, i, m, (Option.some.inj e).symm, hi, c.symm, hm, .inr ⟨rfl, by omega⟩⟩
    · rw [if_neg c] at e
      obtain ⟨n, i2, q, h1, h2, h3, h4, h5⟩ := h.v1 z j e
      exact ⟨n, i2, q, h1, h2, h3, h4, by omega⟩
  · show (if rmd f d j q = rmd f d i m then some (k : Int) else val (rmd f d j q)) ≠ none
    by_cases c : rmd f d j q = rmd f d i m
    · rw [if_pos c]
      exact fun z => nomatch z
    · rw [if_neg c]
      refine h.v2 n q j hn hq ?_
      rcases hc with hc | ⟨rfl, hc⟩
      · exact .inl hc
      · refine .inr ⟨rfl, ?_⟩
        rcases Nat.lt_or_ge q m with c2 | c2
        · exact c2
        · rw [hn] at hi
          obtain rfl : j = i := Option.some.inj hi
          exact absurd (by rw [show q = m by omega]) c
  )]); intro f; simpa using My.gz f 5 true
theorem PlI.free (h : PlI f d k m val) (p : Per f d) (hi : (lsts f d)[k]? = some i) (hm : m < rlen f d i) : val (rmd f d i m) = none := by
  apply My.two; (focus intro zzI; simp only [↓ My.mkB zzI (by
  clear zzI
  cases hv : val (rmd f d i m) with
  | none => rfl
  | some j =>
    obtain ⟨n, i2, q, _, h2, h3, h4, h5⟩ := h.v1 _ _ hv
    have li := mem_lsts.mp (List.mem_of_getElem? hi)
    have l2 := mem_lsts.mp (List.mem_of_getElem? h2)
    obtain rfl := Lst.uniq p l2 li h3
    obtain rfl := nodup_get lsts_nodup h2 hi
    exact absurd h3 (li.trl.ne q m (by omega) hm)
  )]); intro f; simpa using My.gz f 5 true
end
end My
namespace My
/-- n / s in lowest terms -/
def low (n : Int) (s : Nat) : List Int := [n / ((Nat.gcd n.natAbs s : Nat) : Int), (s : Int) / ((Nat.gcd n.natAbs s : Nat) : Int)]
/-- the least date from 0 on that does not lead forward -/
def StopOf (f : Int → Int) : Option Int → Prop
  | none => ∀ z, 0 < f z
  | some m => 0 ≤ m ∧ f m ≤ 0 ∧ ∀ z, 0 ≤ z → z < m → 0 < f z
theorem StopOf.uniq {f : Int → Int} : ∀ {o o' : Option Int}, StopOf f o → StopOf f o' → o = o'
  | none, none, _, _ => rfl
  | none, some m, h, h' => by have := h m; have := h'.2.1; omega
  | some m, none, h, h' => by have := h' m; have := h.2.1; omega
  | some m, some m', h, h' => by
    apply My.two; (focus intro zzI; simp only [↓ My.mkB zzI (by
    clear zzI
    have a := h.2.2 m' h'.1
    have b := h'.2.2 m h.1
    have c := h.2.1
    have c' := h'.2.1
    have : m = m' := by
      rcases Int.lt_trichotomy m m' with z | z | z
      · have := b z; omega
      · exact z
      · have := a z; omega
    rw [this]
    )]); intro f; simpa using My.gz f 5 true
end My
namespace My
end My
namespace My
end My
namespace My
end My
namespace My
open PySem PySem.Spec PyProof.Rows L2
end My
namespace My
open PySem PySem.Spec PyProof.Rows L2
theorem eqd {fa : List (Fg → Bool)} {fn : List He5.DefA} {K : Fg} {mg : Str → Option Value} {X : Cx} (T : TxOf fa fn K mg) (hu : X.A.units + 64 < cLine) (hK : X.K = K := by rfl) : OpR X (compareOp .Eq) (rEqD K) := by subst hK; exact op_eqD hu
end My
namespace My
open PySem PySem.Spec PyProof.Rows L2
/-- a def called with parameters by name, that may raise -/
def FnKwX (P : Program) (w : World) (K : Fg) (mg : Str → Option Value) (base : Heap) (k : Nat) (f : Addr) (n : Nat) (ks : List Str) (pm : List Nat) (sp : Sp) : Prop :=
  ∀ (A : Around) (outer : List Env) (st : Shared) (H : Hp) (us ws : List Value) (vs zs : List V) (Q : VK) (E : XK), Room k A → Env0 P w K mg base A outer st H → Vals vs us → Vals zs ws → vs.length = n → zs.length = ks.length → sp (pick pm (vs ++ zs)) H Q E →
    codeAny (model P w) A (.call (.ref f) ⟨us, ks.zip ws⟩) (CR (L2.CX P w) outer P w H st Q E) st
structure FnDX (P : Program) (w : World) (K : Fg) (mg : Str → Option Value) (base : Heap) (k : Nat) (f : Addr) (x qual : Str) (st : Stmt) (kws : List (Str × V)) (ps : List Str) (sp : Sp) : Prop where
  o : ∃ fd, FunD K x qual (defArgs st) (defBody st) (defScope st) [] kws f fd ∧ FnOk P w K mg base (L2.CX P w) k f fd ps sp
section
variable {fa : List (Fg → Bool)} {fn : List He5.DefA} {K : Fg} {mg : Str → Option Value} {P : Program} {w : World} {base : Heap}
variable {k j n : Nat} {f : Addr} {x qual : Str} {st : Stmt} {ps : List Str} {sp sp1 sp2 : Sp} {kws : List (Str × V)} {ks : List Str} {pm : List Nat}
/-- called without them -/
theorem FnDX.plain (F : FnDX P w K mg base k f x qual st kws ps sp) (n : Nat) (hk : kws ≠ []) (hn : n + kws.length = ps.length)
    (h : ∀ (D : Addr) (doc pm : Value) (an : Option Addr) (cdv ct : Value) (us ks : List Value), us.length = n → ks.length = kws.length →
      KwChain D ((kws.map (·.1)).zip ks) (bindArgs (PySem.W.fnOf x qual (defArgs st) (defBody st) (defScope st) .none (.ref D) doc pm an cdv ct) ⟨us, []⟩) (ps.zip (us ++ ks))) :
    FnR P w K mg base (L2.CX P w) k f (fun vs H Q E => sp (vs ++ kws.map (·.2)) H Q E) := by
  apply My.two; (focus intro zzI; simp only [↓ My.mkB zzI (by
  clear zzI
  obtain ⟨fd, F0, G⟩ := F.o
  obtain ⟨ds, rd, B⟩ := F0.binds0 n hk hn h
  exact G.raw B rd
  )]); intro f; simpa using My.gz f 5 true
/-- called with all of them -/
theorem FnDX.kw (F : FnDX P w K mg base k f x qual st kws ps sp) (n : Nat) (ks : List Str) (pm : List Nat)
    (hb : ∀ (kV doc pmv : Value) (an : Option Addr) (cdv ct : Value) (us ws : List Value), us.length = n → ws.length = ks.length →
      bindArgs (PySem.W.fnOf x qual (defArgs st) (defBody st) (defScope st) .none kV doc pmv an cdv ct) ⟨us, ks.zip ws⟩ = pure (ps.zip (pick pm (us ++ ws)))) : FnKwX P w K mg base k f n ks pm sp := by
  apply My.two; (focus intro zzI; simp only [↓ My.mkB zzI (by
  clear zzI
  intro A outer s H us ws vs zs Q E hr e0 rv rz l1 l2 h
  obtain ⟨fd, F0, G⟩ := F.o
  refine G.run A outer s H ⟨us, ks.zip ws⟩ (pick pm (us ++ ws)) (pick pm (vs ++ zs)) Q E hr e0 ?_ (pick_vals (rv.append rz) pm) h
  obtain ⟨oc, od, dV, kV, doc, pmv, an, cdv, ct, osl, rfl, lk, hcd, hD, hK⟩ := F0.ex
  rcases hD with ⟨_, rfl⟩ | ⟨e, _⟩
  · exact .of_eq (hb kV doc pmv an cdv ct us ws (rv.length.symm.trans l1) (rz.length.symm.trans l2))
  · exact absurd rfl e
  )]); intro f; simpa using My.gz f 5 true
end
end My
namespace My
open PySem PySem.Spec PyProof.Rows L2 PySem.SeqAt
/-- v is a list of these ints -/
def IsLi (h : Heap) (v : Value) (ns : List Int) : Prop := ∃ (a : Addr) (its : List Value) (n : Nat), v = .ref a ∧ h.get? a = some (seqObj "list" its.toArray n) ∧ IntsAre its ns
theorem IsLi.keeps {h h' : Heap} {v : Value} {ns : List Int} (x : IsLi h v ns) (k : ∀ b o, v = .ref b → h.get? b = some o → h'.get? b = some o) : IsLi h' v ns := by
  obtain ⟨a, its, n, e, g, i⟩ := x
  exact ⟨a, its, n, e, k _ _ e g, i⟩
theorem IsLi.type {M : Model} {h : Heap} {v : Value} {ns : List Int} (x : IsLi h v ns) : PySem.W.Looks M h (typeOf v) (.type "list") := by
  obtain ⟨a, its, n, rfl, g, i⟩ := x
  exact (PySem.W.Looks.ld g).andThen .now
end My
namespace My
open PySem PySem.Spec PyProof.Rows L2
end My
namespace My
open PySem PySem.Spec PyProof.Rows L2
end My
namespace My
open PySem PySem.Spec PyProof.Rows L2
mutual
/-- v stands in H as d tells -/
inductive DV (H : Hp) : V → PyData → Prop
  | non : DV H .non .none
  | bl (b : Bool) : DV H (.bl b) (.bool b)
  | int (i : Int) : DV H (.int i) (.int i)
  | str (x : Str) : DV H (.str x) (.str x)
  | lst {a : Addr} {xs : List V} {ds : List PyData} : H a = some (.lst xs) → DVs H xs ds → DV H (.ref a) (.list ds)
  | tup {a : Addr} {xs : List V} {ds : List PyData} : H a = some (.tup xs) → DVs H xs ds → DV H (.ref a) (.tuple ds)
  | dct {a : Addr} {kvs : List (Key × V)} {ds : List (PyData × PyData)} : H a = some (.dK kvs) → DVk H kvs ds → DV H (.ref a) (.dict ds)
inductive DVs (H : Hp) : List V → List PyData → Prop
  | nil : DVs H [] []
  | cons {v : V} {vs : List V} {d : PyData} {ds : List PyData} : DV H v d → DVs H vs ds → DVs H (v :: vs) (d :: ds)
inductive DVk (H : Hp) : List (Key × V) → List (PyData × PyData) → Prop
  | nil : DVk H [] []
  | cons {k : Key} {v : V} {vs : List (Key × V)} {d : PyData} {ds : List (PyData × PyData)} : DV H v d → DVk H vs ds → DVk H ((k, v) :: vs) ((kD k, d) :: ds)
end
section
variable {K : Fg} {H H' : Hp}
mutual
theorem DV.same (s : Same H H') : ∀ {v : V} {d : PyData}, DV H v d → DV H' v d
  | _, _, .non => .non
  | _, _, .bl b => .bl b
  | _, _, .int i => .int i
  | _, _, .str x => .str x
  | _, _, .lst h hs => .lst (s _ _ h) (DVs.same s hs)
  | _, _, .tup h hs => .tup (s _ _ h) (DVs.same s hs)
  | _, _, .dct h hs => .dct (s _ _ h) (DVk.same s hs)
theorem DVs.same (s : Same H H') : ∀ {vs : List V} {ds : List PyData}, DVs H vs ds → DVs H' vs ds
  | _, _, .nil => .nil
  | _, _, .cons h hs => .cons (DV.same s h) (DVs.same s hs)
theorem DVk.same (s : Same H H') : ∀ {vs : List (Key × V)} {ds : List (PyData × PyData)}, DVk H vs ds → DVk H' vs ds
  | _, _, .nil => .nil
  | _, _, .cons h hs => .cons (DV.same s h) (DVk.same s hs)
end
/-- the name of the type -/
def tyD : PyData → String
  | .none => "NoneType"
  | .bool _ => "bool"
  | .int _ => "int"
  | .str _ => "str"
  | .list _ => "list"
  | .tuple _ => "tuple"
  | .dict _ => "dict"
theorem DV.ty {v : V} {d : PyData} (h : DV H v d) : TyX K H v (.type (tyD d)) := by
  apply My.two; (focus intro zzI; simp only [↓ My.mkB zzI (by
  clear zzI
  cases h with
  | non => exact .base .non
  | bl b => exact .base (.bl b)
  | int i => exact .base (.int i)
  | str x => exact .base (.str x)
  | lst h _ => exact .base (.lst h)
  | tup h _ => exact .base (.tup h)
  | dct h _ => exact .base (.dK h)
  )]); intro f; simpa using My.gz f 5 true
theorem DVs.len : ∀ {vs : List V} {ds : List PyData}, DVs H vs ds → vs.length = ds.length
  | _, _, .nil => rfl
  | _, _, .cons _ hs => congrArg (· + 1) hs.len
theorem DVs.at : ∀ {vs : List V} {ds : List PyData} {i : Nat} {v : V}, DVs H vs ds → vs[i]? = some v → ∃ d, ds[i]? = some d ∧ DV H v d
  | _, _, 0, _, .cons h _, e => ⟨_, rfl, Option.some.inj e ▸ h⟩
  | _, _, _ + 1, _, .cons _ hs, e => hs.at e
  | _, _, _, _, .nil, e => nomatch e
theorem DVs.ints {is : List Int} : DVs H (is.map V.int) (is.map PyData.int) := by
  apply My.two; (focus intro zzI; simp only [↓ My.mkB zzI (by
  clear zzI
  induction is with
  | nil => exact .nil
  | cons i is ih => exact .cons (.int i) ih
  )]); intro f; simpa using My.gz f 5 true
/-- an atom: nothing stands within -/
def atomD : PyData → Bool
  | .none => true
  | .bool _ => true
  | .int _ => true
  | .str x => SeqAt.shaped (.str x)
  | _ => false
theorem DV.dp {v : V} {d : PyData} (h : DV H v d) (z : atomD d = true) : Dp K H v d := by
  apply My.two; (focus intro zzI; simp only [↓ My.mkB zzI (by
  clear zzI
  cases h with
  | non => exact .non
  | bl b => exact .bl b
  | int i => exact .int i
  | str x => exact .str x
  | _ => cases z
  )]); intro f; simpa using My.gz f 5 true
theorem DVs.dp : ∀ {vs : List V} {ds : List PyData}, DVs H vs ds → ds.all atomD = true → DpAll K H vs ds
  | _, _, .nil, _ => .nil
  | _, _, .cons h hs, z => by
    rw [List.all_cons, Bool.and_eq_true] at z
    exact .cons (h.dp z.1) (hs.dp z.2)
end
end My
namespace My
open PySem PySem.Spec PyProof.Rows L2
end My
namespace My
open PySem PySem.Spec PyProof.Rows L2
section
variable {K : Fg} {H H' : Hp}
theorem DVs.get : ∀ {xs : List V} {ds : List PyData} {i : Nat} {v : V}, DVs H xs ds → xs[i]? = some v → DV H v (ds.getD i .none)
  | _, _, 0, _, .cons h _, e => by
    rw [← Option.some.inj e]
    exact h
  | _, _, i + 1, _, .cons _ hs, e => hs.get (i := i) e
  | _, _, _, _, .nil, e => nomatch e
def PrAt (H : Hp) (ps : List Addr) (kvs : List (Key × V)) : Prop := Paired (fun p kv => H p = some (.tup [kV kv.1, kv.2])) ps kvs
theorem paired_imp {α β : Type} {F G : α → β → Prop} (f : ∀ a b, F a b → G a b) : ∀ {as : List α} {bs : List β}, Paired F as bs → Paired G as bs
  | _, _, .nil => .nil
  | _, _, .cons h t => .cons (f _ _ h) (paired_imp f t)
theorem PrAt.same {ps : List Addr} {kvs : List (Key × V)} (s : Same H H') (h : PrAt H ps kvs) : PrAt H' ps kvs := paired_imp (fun _ _ e => s _ _ e) h
theorem PrAt.upd {ps : List Addr} {kvs : List (Key × V)} {D : Addr} {xs : List V} {o : HO} (hD : H D = some (.lst xs)) (h : PrAt H ps kvs) : PrAt (L2.upd H D o) ps kvs := paired_imp (fun p _ e => by
  rw [upd_ne fun z : p = D => by rw [z, hD] at e; cases e]
  exact e) h
theorem PrAt.sq {ps : List Addr} {kvs : List (Key × V)} (h : PrAt H ps kvs) : Paired (fun p kv => SqT K H p [kV kv.1, kv.2]) ps kvs := paired_imp (fun _ _ e => SqT.of e) h
def KVg (kvs : List (Key × V)) : Prop := ∀ kv ∈ kvs, ∃ i : Int, i.natAbs ≤ 100 ∧ kv = ((Sum.inl i : Key), V.int 1)
theorem KVg.put {kvs : List (Key × V)} {i : Int} (h : KVg kvs) (hi : i.natAbs ≤ 100) : KVg (putK kvs (Sum.inl i) (.int 1)) := by
  apply My.two; (focus intro zzI; simp only [↓ My.mkB zzI (by
  clear zzI
  unfold putK
  split
  · intro kv hk
    obtain ⟨kv', h1, rfl⟩ := List.mem_map.mp hk
    obtain ⟨j, hj, rfl⟩ := h kv' h1
    dsimp only
    split
    · exact ⟨j, hj, rfl⟩
    · exact ⟨j, hj, rfl⟩
  · intro kv hk
    rcases List.mem_append.mp hk with hk | hk
    · exact h kv hk
    · exact ⟨i, hi, List.mem_singleton.mp hk⟩
  )]); intro f; simpa using My.gz f 5 true
end
end My
namespace My
open PySem PySem.Spec PyProof.Rows L2
end My
namespace My
open PySem PySem.Spec PyProof.Rows L2
section
variable {H H' : Hp}
mutual
theorem DV.ext (e : LamX.ExtN H H') : ∀ {v : V} {d : PyData}, DV H v d → DV H' v d
  | _, _, .non => .non
  | _, _, .bl b => .bl b
  | _, _, .int i => .int i
  | _, _, .str x => .str x
  | _, _, .lst h hs => .lst (e _ _ h (fun _ z => by cases z)) (DVs.ext e hs)
  | _, _, .tup h hs => .tup (e _ _ h (fun _ z => by cases z)) (DVs.ext e hs)
  | _, _, .dct h hs => .dct (e _ _ h (fun _ z => by cases z)) (DVk.ext e hs)
theorem DVs.ext (e : LamX.ExtN H H') : ∀ {vs : List V} {ds : List PyData}, DVs H vs ds → DVs H' vs ds
  | _, _, .nil => .nil
  | _, _, .cons h hs => .cons (DV.ext e h) (DVs.ext e hs)
theorem DVk.ext (e : LamX.ExtN H H') : ∀ {vs : List (Key × V)} {ds : List (PyData × PyData)}, DVk H vs ds → DVk H' vs ds
  | _, _, .nil => .nil
  | _, _, .cons h hs => .cons (DV.ext e h) (DVk.ext e hs)
end
end
end My
namespace My
open PySem PySem.Spec PyProof.Rows L2
end My
namespace My
open PySem PySem.Spec PyProof.Rows L2
end My
namespace My
open PySem PySem.Spec PyProof.Rows L2
end My
namespace My
open PySem PySem.Spec PyProof.Rows L2
structure FnA (P : Program) (w : World) (K : Fg) (mg : Str → Option Value) (base : Heap) (k : Nat) (f : Addr) (x qual : Str) (st : Stmt) (dvs : List V) (ps : List Str) (sp : Sp) : Prop where
  o : ∃ (fd : FuncData) (kws : List (Str × V)), FunD K x qual (defArgs st) (defBody st) (defScope st) dvs kws f fd ∧ FnOk P w K mg base CX0 k f fd ps sp
section
variable {fa : List (Fg → Bool)} {fn : List He5.DefA} {K : Fg} {mg : Str → Option Value} {P : Program} {w : World} {base : Heap}
theorem TxOf.fnA (T : TxOf fa fn K mg) (i : Nat) {x qual : Str} {st : Stmt} {at_ : Fg → Addr} {N ps : List Str} {k : Nat} {sp : Sp} {dfl : List He.Dv} {kwd : List (Str × He.Dv)}
    (hi : fn[i]? = some ⟨at_, x, qual, defArgs st, defBody st, defScope st, dfl, kwd⟩) (S : FnScope N ps (defScope st))
    (len : ∀ vs H Q E, sp vs H Q E → vs.length = ps.length)
    (hbody : ∀ (cdv : Value) (A : Around) (outer : List Env) (s : Shared) (H : Hp) (vs : List V) (Q : VK) (E : XK), Room k (A.deeper (envOfC qual (defScope st) s.heap.objs.size (at_ K) cdv)) → sp vs H Q E →
      ∃ t, PSs (cxOf CX0 P w K mg base N qual (defScope st) (at_ K) cdv A outer s H E).nox (defBody st) t ∧ t { nx := fun _ H' => Q .non H', rt := Q } (start N vs) H) :
    FnA P w K mg base (k + 1) (at_ K) x qual st (dfl.map (He.Dv.v K)) ps sp := by
  apply My.two; (focus intro zzI; simp only [↓ My.mkB zzI (by
  clear zzI
  obtain ⟨fd, F⟩ := T.fund i hi
  have F0 : FunD K x qual (defArgs st) (defBody st) (defScope st) (dfl.map (He.Dv.v K)) (kwd.map fun q => (q.1, q.2.v K)) (at_ K) fd := F
  exact ⟨fd, _, F0, F0.ok S len fun cdv A outer s H vs Q E hr h => by
    obtain ⟨t, h1, h2⟩ := hbody cdv A outer s H vs Q E hr h
    exact ⟨t, h1.nox, h2⟩⟩
  )]); intro f; simpa using My.gz f 5 true
variable {k : Nat} {f : Addr} {x qual : Str} {st : Stmt} {dvs : List V} {ps : List Str} {sp : Sp}
/-- called with all of them -/
theorem FnA.kw (F : FnA P w K mg base k f x qual st dvs ps sp) (n : Nat) (ks : List Str) (pm : List Nat) (hd : dvs ≠ [])
    (hb : ∀ (D : Addr) (kV doc pmv : Value) (an : Option Addr) (cdv ct : Value) (us its ws : List Value), us.length = n → its.length = dvs.length → ws.length = ks.length →
      ∃ c, bindArgs (PySem.W.fnOf x qual (defArgs st) (defBody st) (defScope st) (.ref D) kV doc pmv an cdv ct) ⟨us, ks.zip ws⟩ = seqItems? (.ref D) >>= c ∧ c (some its.toArray) = pure (ps.zip (pick pm (us ++ ws)))) : FnKw P w K mg base k f n ks pm sp := by
  apply My.two; (focus intro zzI; simp only [↓ My.mkB zzI (by
  clear zzI
  intro A outer s H us ws vs zs Q E hr e0 rv rz l1 l2 h
  obtain ⟨fd, kws, F0, G⟩ := F.o
  refine G.run A outer s H ⟨us, ks.zip ws⟩ (pick pm (us ++ ws)) (pick pm (vs ++ zs)) Q E hr e0 ?_ (pick_vals (rv.append rz) pm) h
  obtain ⟨oc, od, dV, kV, doc, pmv, an, cdv, ct, osl, rfl, lk, hcd, hD, hK⟩ := F0.ex
  rcases hD with ⟨e, _⟩ | ⟨_, D, o, its, m, rfl, lT, oT, rT⟩
  · exact absurd e hd
  obtain ⟨c, e1, e2⟩ := hb D kV doc pmv an cdv ct us its ws (rv.length.symm.trans l1) rT.length.symm (rz.length.symm.trans l2)
  refine BindsTo.of_looks fun M => ?_
  rw [e1]
  exact looks_items (PySem.W.Frag.In.keeps e0.mod.kin fun b o e => (e0.bs b o e).1) lT oT (.of_pure e2)
  )]); intro f; simpa using My.gz f 5 true
end
section
variable {X : Cx} {k n : Nat} {C f : Addr} {x : Str} {ks : List Str} {pm : List Nat} {sp : Sp} {E : XK} {e : Expr} {es : List Expr} {kws : List Keyword} {t tk : TA} {pos np : Pos}
/-- C(e, .., k = v, ..) -/
def tMkKn (C : Addr) (n nk : Nat) (pm : List Nat) (sp : Sp) (E : XK) (t tk : TA) : TE := fun σ H Q => t σ H fun vs H1 => tk σ H1 fun zs H2 => vs.length = n ∧ zs.length = nk ∧
  ∀ x dx, H2 x = none → H2 dx = none → dx ≠ x → sp (pick pm ((.ref x :: vs) ++ zs)) (upd (upd H2 dx (.own x)) x (.ins C dx [])) (fun v H3 => v = .non ∧ Q (.ref x) H3) E
end
end My
namespace My
open PySem PySem.Spec PyProof.Rows L2
def intOf : Value → Option Int
  | .int i _ => some i
  | _ => none
theorem vals_int : ∀ {us : List Value} {xs : List Int}, us.map intOf = xs.map some → Vals (xs.map V.int) us
  | [], [], _ => .nil
  | [], _ :: _, h => by cases h
  | _ :: _, [], h => by cases h
  | u :: us, x :: xs, h => by
    apply My.two; (focus intro zzI; simp only [↓ My.mkB zzI (by
    clear zzI
    rw [List.map_cons, List.map_cons] at h
    obtain ⟨h1, h2⟩ := List.cons.inj h
    refine .cons ?_ (vals_int h2)
    cases u with
    | int i t =>
      cases h1
      exact ⟨t, rfl⟩
    | _ => cases h1
    )]); intro f; simpa using My.gz f 5 true
/-- the tuple of ints at an address of the fragment -/
def tupIA (p : Fg → Addr) (xs : List Int) (K : Fg) : Bool := match K.lookup (p K) with
  | some o => decide (o.cls = .type "tuple") && (match o.data with
    | .seq its _ => decide (its.size ≤ 1000) && decide (its.toList.map intOf = xs.map some)
    | _ => false)
  | none => false
theorem tupIA_ok {p : Fg → Addr} {xs : List Int} {K : Fg} (h : tupIA p xs K = true) (H : Hp) : SqT K H (p K) (xs.map V.int) := by
  apply My.two; (focus intro zzI; simp only [↓ My.mkB zzI (by
  clear zzI
  unfold tupIA at h
  refine .inr ?_
  split at h
  · rename_i o eo
    obtain ⟨h3, h4⟩ := He.ba h
    split at h4
    · rename_i its n ed
      obtain ⟨h5, h6⟩ := He.ba h4
      exact ⟨o, its, n, eo, of_decide_eq_true h3, ed, sz (Nat.le_trans (of_decide_eq_true h5) (by decide)), vals_int (of_decide_eq_true h6)⟩
    · cases h4
  · cases h
  )]); intro f; simpa using My.gz f 5 true
/-- the keyword-only default x of the def at p, if it is an object -/
def kwAt (p : Fg → Addr) (x : Str) (K : Fg) : Addr := match K.lookup (p K) with
  | some ⟨_, _, .func fd, _⟩ => (match fd.kwdefaults with
    | .ref D => (match PySem.W.nsIn K D x with
      | some (some (.ref b)) => b
      | _ => 0)
    | _ => 0)
  | _ => 0
section
variable {fa : List (Fg → Bool)} {fn : List He5.DefA} {K : Fg} {mg : Str → Option Value} {P : Program} {w : World} {base : Heap}
/-- a def with keyword-only defaults, none of them written -/
theorem TxOf.fnKd (T : TxOf fa fn K mg) (i : Nat) {x qual : Str} {st : Stmt} {at_ : Fg → Addr} {N ps : List Str} {k : Nat} {sp : Sp} {kwd : List (Str × He.Dv)} (n : Nat)
    (hi : fn[i]? = some ⟨at_, x, qual, defArgs st, defBody st, defScope st, [], kwd⟩) (S : FnScope N ps (defScope st)) (hk : kwd ≠ []) (hn : n + kwd.length = ps.length)
    (h : ∀ (D : Addr) (doc pm : Value) (an : Option Addr) (cdv ct : Value) (us ks : List Value), us.length = n → ks.length = kwd.length →
      KwChain D ((kwd.map (·.1)).zip ks) (bindArgs (PySem.W.fnOf x qual (defArgs st) (defBody st) (defScope st) .none (.ref D) doc pm an cdv ct) ⟨us, []⟩) (ps.zip (us ++ ks)))
    (len : ∀ vs H Q E, sp vs H Q E → vs.length = ps.length)
    (hbody : ∀ (cdv : Value) (A : Around) (outer : List Env) (s : Shared) (H : Hp) (vs : List V) (Q : VK) (E : XK), Room k (A.deeper (envOfC qual (defScope st) s.heap.objs.size (at_ K) cdv)) → sp vs H Q E →
      ∃ t, PSs (cxOf CX0 P w K mg base N qual (defScope st) (at_ K) cdv A outer s H E).nox (defBody st) t ∧ t { nx := fun _ H' => Q .non H', rt := Q } (start N vs) H) :
    FnR P w K mg base CX0 (k + 1) (at_ K) (fun vs H Q E => sp (vs ++ kwd.map fun q => q.2.v K) H Q E) := by
  apply My.two; (focus intro zzI; simp only [↓ My.mkB zzI (by
  clear zzI
  obtain ⟨fd, F⟩ := T.fund i hi
  have F0 : FunD K x qual (defArgs st) (defBody st) (defScope st) [] (kwd.map fun q => (q.1, q.2.v K)) (at_ K) fd := F
  have G : FnOk P w K mg base CX0 (k + 1) (at_ K) fd ps sp := F0.ok S len fun cdv A outer s H vs Q E hr h => by
    obtain ⟨t, h1, h2⟩ := hbody cdv A outer s H vs Q E hr h
    exact ⟨t, h1.nox, h2⟩
  obtain ⟨ds, d1, d2⟩ := F0.binds0 (ps := ps) n (fun z => hk (List.map_eq_nil_iff.mp z)) (by rw [List.length_map]; exact hn) (fun D doc pm an cdv ct us ks l1 l2 => by
    rw [List.length_map] at l2
    have := h D doc pm an cdv ct us ks l1 l2
    rw [List.map_map]
    exact this)
  rw [List.map_map] at d1
  exact G.raw d2 d1
  )]); intro f; simpa using My.gz f 5 true
end
section
variable {X : Cx} {k n i : Nat} {C f : Addr} {x : Str} {ks : List Str} {pm : List Nat} {sp : Sp} {E : XK} {e : Expr} {es : List Expr} {kws : List Keyword} {t tk : TA} {pos np : Pos}
/-- x(e, .., k = v, ..), x a local name that holds the class at C -/
def tMkKnV (i : Nat) (C : Addr) (n nk : Nat) (pm : List Nat) (sp : Sp) (E : XK) (t tk : TA) : TE := fun σ H Q => σ[i]? = some (some (.ref C)) ∧ tMkKn C n nk pm sp E t tk σ H Q
theorem pe_mkKnV (M : Mk X.K C f) (F : FnKw X.prog X.w X.K X.mg X.base k f (n + 1) ks pm sp) (hr : Room (k + 1) X.A) (hx : Passes CX0 X E) (ha : PA X (e :: es) t) (hkw : PK X kws tk) (hN : X.N[i]? = some x := by rfl)
    (hv : Vis X.env.scope x := by first | exact Or.inl rfl | exact Or.inr (Or.inl rfl) | exact Or.inr (Or.inr rfl))
    (hd : (x == ("__debug__" : Str)) = false := by decide) (hcd : (x == ("__classdict__" : Str)) = false := by decide)
    (hall : (backToKw pos (keywordEach kws X.env)).all (·.1.isSome) = true := by rfl) (hks : (backToKw pos (keywordEach kws X.env)).filterMap (·.1) = ks := by rfl)
    (hse : starEach (e :: es) X.env = (false, eval e X.env) :: starEach es X.env := by rfl)
    (hpl : ((backTo pos (starEach (e :: es) X.env)).any (·.1) || (backToKw pos (keywordEach kws X.env)).any (·.1.isNone)) = false := by rfl) : PE X (.Call (.Name x np) (e :: es) kws pos) (tMkKnV i C n ks.length pm sp E t tk) := by
  refine ⟨fun pins s σ H Q I h => ?_⟩
  obtain ⟨hs, h⟩ := h
  have hvar := (pe_var (pos := np) (i := i) hN hv hd hcd).run pins s σ H (fun v H1 => v = .ref C ∧ H1 = H) I ⟨.ref C, hs, rfl, rfl⟩
  refine wpAny_Call_Name_kw (thn hvar fun u s1 z => ?_)
  obtain ⟨v, H1, I1, r1, ev, eH⟩ := z
  subst ev
  rw [eH] at I1
  obtain rfl : u = Value.ref C := r1
  refine PySem.W.callWith_KW (h₀ := X.base) I.ok.mod.kin M.kp hall (thn (ha.run pos pins s1 σ H _ I1 h) fun us s1 ⟨vs, H1, I1, rv, q1⟩ => ?_) hpl hse
  refine thn (hkw.run pos pins s1 σ H1 _ I1 q1) fun ws s2 ⟨zs, H2, I, rz, l1, l2, q⟩ => ?_
  refine ⟨I.kIn, ?_⟩
  rw [hks]
  have hq := q (s2.heap.objs.size + 1) s2.heap.objs.size (I.hok.fresh (Nat.le_succ _)) (I.hok.fresh (Nat.le_refl _)) (Nat.ne_of_lt (Nat.lt_succ_self _))
  have I2 := Inv.made (C := C) I
  have r2 : Vals (V.ref (s2.heap.objs.size + 1) :: vs) (Value.ref (s2.heap.objs.size + 1) :: us) := .cons rfl rv
  refine wpAny_call (make_map (f := f) I.kIn M.makes M.init (beq_iff_eq.mp M.fn) (codeAny_mono (F _ X.stack _ _ (Value.ref (s2.heap.objs.size + 1) :: us) ws _ _ _ E (hr.make C us (ks.zip ws)) (I2.env0.make C us (ks.zip ws)) r2 rz (by rw [List.length_cons, l1]) l2 hq) fun r s' hq' => ?_))
  cases r with
  | error e => exact hx pins σ _ _ e s' I2 hq'
  | ok fl =>
    cases fl with
    | ret u =>
      obtain ⟨v, H', I3, rv, ev, q3⟩ := I2.after hq'
      subst ev
      exact ⟨rv, ⟨V.ref (s2.heap.objs.size + 1), H', I3, rfl, q3⟩⟩
    | next => exact False.elim hq'
    | brk => exact False.elim hq'
    | cont => exact False.elim hq'
end
end My
namespace Lw
open PySem PySem.Spec PyProof.Rows L2 My
def top (i : Nat) : Stmt := PySem.Challenge.pw_dayrecipes_k03_gregorian_calendar.main.body.getD i (.Pass ⟨0, 0, 0, 0⟩)
abbrev s_number_in : Stmt := top 14
abbrev s_integer_text : Stmt := top 16
abbrev s_date_text_of : Stmt := top 17
abbrev s_two_digits_in : Stmt := top 18
abbrev s_parts_in : Stmt := top 19
abbrev s_is_integer : Stmt := top 28
abbrev s_common_divisor : Stmt := top 29
abbrev s_common_multiple : Stmt := top 30
abbrev s_is_row : Stmt := top 34
abbrev s_is_between : Stmt := top 35
abbrev s_are_years : Stmt := top 36
abbrev s_are_weekdays : Stmt := top 37
abbrev s_are_holidays : Stmt := top 38
abbrev s_month_starts : Stmt := top 39
abbrev s_month_at : Stmt := top 40
abbrev s_gregorian_years : Stmt := top 41
abbrev s_Calendaru_initu : Stmt := inClass (top 42) 0
abbrev s_Calendaru_equ : Stmt := inClass (top 42) 1
abbrev s_Calendar_gregorian : Stmt := inClass (top 42) 2
abbrev s_Calendar_facts : Stmt := inClass (top 42) 5
abbrev s_Calendar_first_works : Stmt := inClass (top 42) 7
abbrev s_Calendar_week : Stmt := inClass (top 42) 11
abbrev s_Calendar_first : Stmt := inClass (top 42) 12
abbrev s_Calendar_rest : Stmt := inClass (top 42) 13
abbrev s_Calendar_holidays : Stmt := inClass (top 42) 14
abbrev s_Calendar_months : Stmt := inClass (top 42) 15
abbrev s_Calendar_cycle_days : Stmt := inClass (top 42) 16
abbrev s_Calendar_period : Stmt := inClass (top 42) 17
abbrev s_Calendar_month_start : Stmt := inClass (top 42) 19
abbrev s_Calendar_month_days : Stmt := inClass (top 42) 20
abbrev s_Calendar_month_number : Stmt := inClass (top 42) 21
abbrev s_Calendar_month_length : Stmt := inClass (top 42) 22
abbrev s_Calendar_date_of : Stmt := inClass (top 42) 23
abbrev s_Calendar_parts : Stmt := inClass (top 42) 24
abbrev s_Calendar_weekday : Stmt := inClass (top 42) 25
abbrev s_Calendar_is_work : Stmt := inClass (top 42) 26
abbrev s_Calendar_date_text : Stmt := inClass (top 42) 27
abbrev s_Calendar_read_date : Stmt := inClass (top 42) 28
abbrev s__law_pen : Stmt := top 44
abbrev s__law_draw : Stmt := top 45
abbrev s__law_pick : Stmt := top 46
abbrev s__law_great : Stmt := top 47
abbrev s__law_is_leap : Stmt := top 48
abbrev s__law_new_year : Stmt := top 49
abbrev s__law_year : Stmt := top 50
abbrev s_law : Stmt := top 51
abbrev N_number_in : List Str := ["word", "most", "digits", "sign"]
theorem sc_number_in : FnScope N_number_in ["word", "most"] (defScope s_number_in) := ⟨rfl, rfl, rfl, by decide +kernel, rfl, by decide +kernel, by decide +kernel⟩
abbrev N_integer_text : List Str := ["number", "left", "found"]
theorem sc_integer_text : FnScope N_integer_text ["number"] (defScope s_integer_text) := ⟨rfl, rfl, rfl, by decide +kernel, rfl, by decide +kernel, by decide +kernel⟩
abbrev N_date_text_of : List Str := ["parts", "year", "month", "day"]
theorem sc_date_text_of : FnScope N_date_text_of ["parts"] (defScope s_date_text_of) := ⟨rfl, rfl, rfl, by decide +kernel, rfl, by decide +kernel, by decide +kernel⟩
abbrev N_two_digits_in : List Str := ["word", "sign"]
theorem sc_two_digits_in : FnScope N_two_digits_in ["word"] (defScope s_two_digits_in) := ⟨rfl, rfl, rfl, by decide +kernel, rfl, by decide +kernel, by decide +kernel⟩
abbrev N_parts_in : List Str := ["text", "year", "month", "day"]
theorem sc_parts_in : FnScope N_parts_in ["text"] (defScope s_parts_in) := ⟨rfl, rfl, rfl, by decide +kernel, rfl, by decide +kernel, by decide +kernel⟩
abbrev N_is_integer : List Str := ["value"]
theorem sc_is_integer : FnScope N_is_integer ["value"] (defScope s_is_integer) := ⟨rfl, rfl, rfl, by decide +kernel, rfl, by decide +kernel, by decide +kernel⟩
abbrev N_common_divisor : List Str := ["one", "other"]
theorem sc_common_divisor : FnScope N_common_divisor ["one", "other"] (defScope s_common_divisor) := ⟨rfl, rfl, rfl, by decide +kernel, rfl, by decide +kernel, by decide +kernel⟩
abbrev N_common_multiple : List Str := ["one", "other"]
theorem sc_common_multiple : FnScope N_common_multiple ["one", "other"] (defScope s_common_multiple) := ⟨rfl, rfl, rfl, by decide +kernel, rfl, by decide +kernel, by decide +kernel⟩
abbrev N_is_row : List Str := ["value"]
theorem sc_is_row : FnScope N_is_row ["value"] (defScope s_is_row) := ⟨rfl, rfl, rfl, by decide +kernel, rfl, by decide +kernel, by decide +kernel⟩
abbrev N_is_between : List Str := ["value", "low", "high"]
theorem sc_is_between : FnScope N_is_between ["value", "low", "high"] (defScope s_is_between) := ⟨rfl, rfl, rfl, by decide +kernel, rfl, by decide +kernel, by decide +kernel⟩
abbrev N_are_years : List Str := ["years", "year", "days"]
theorem sc_are_years : FnScope N_are_years ["years"] (defScope s_are_years) := ⟨rfl, rfl, rfl, by decide +kernel, rfl, by decide +kernel, by decide +kernel⟩
abbrev N_are_weekdays : List Str := ["rest", "week", "weekday"]
theorem sc_are_weekdays : FnScope N_are_weekdays ["rest", "week"] (defScope s_are_weekdays) := ⟨rfl, rfl, rfl, by decide +kernel, rfl, by decide +kernel, by decide +kernel⟩
abbrev N_are_holidays : List Str := ["holidays", "months", "holiday"]
theorem sc_are_holidays : FnScope N_are_holidays ["holidays", "months"] (defScope s_are_holidays) := ⟨rfl, rfl, rfl, by decide +kernel, rfl, by decide +kernel, by decide +kernel⟩
abbrev N_month_starts : List Str := ["lengths", "found", "days"]
theorem sc_month_starts : FnScope N_month_starts ["lengths"] (defScope s_month_starts) := ⟨rfl, rfl, rfl, by decide +kernel, rfl, by decide +kernel, by decide +kernel⟩
abbrev N_month_at : List Str := ["starts", "day", "low", "high", "middle"]
theorem sc_month_at : FnScope N_month_at ["starts", "day"] (defScope s_month_at) := ⟨rfl, rfl, rfl, by decide +kernel, rfl, by decide +kernel, by decide +kernel⟩
abbrev N_gregorian_years : List Str := ["leap", "year"]
theorem sc_gregorian_years : FnScope N_gregorian_years [] (defScope s_gregorian_years) := ⟨rfl, rfl, rfl, by decide +kernel, rfl, by decide +kernel, by decide +kernel⟩
abbrev N_Calendaru_initu : List Str := ["self", "years", "week", "first", "rest", "holidays", "year", "days"]
theorem sc_Calendaru_initu : FnScope N_Calendaru_initu ["self", "years", "week", "first", "rest", "holidays"] (defScope s_Calendaru_initu) := ⟨rfl, rfl, rfl, by decide +kernel, rfl, by decide +kernel, by decide +kernel⟩
abbrev N_Calendar_gregorian : List Str := ["cls", "rest", "holidays"]
theorem sc_Calendar_gregorian : FnScope N_Calendar_gregorian ["cls", "rest", "holidays"] (defScope s_Calendar_gregorian) := ⟨rfl, rfl, rfl, by decide +kernel, rfl, by decide +kernel, by decide +kernel⟩
abbrev N_Calendar_first_works : List Str := ["self", "period", "found", "day"]
theorem sc_Calendar_first_works : FnScope N_Calendar_first_works ["self"] (defScope s_Calendar_first_works) := ⟨rfl, rfl, rfl, by decide +kernel, rfl, by decide +kernel, by decide +kernel⟩
abbrev N_Calendar_week : List Str := ["self"]
theorem sc_Calendar_week : FnScope N_Calendar_week ["self"] (defScope s_Calendar_week) := ⟨rfl, rfl, rfl, by decide +kernel, rfl, by decide +kernel, by decide +kernel⟩
abbrev N_Calendar_first : List Str := ["self"]
theorem sc_Calendar_first : FnScope N_Calendar_first ["self"] (defScope s_Calendar_first) := ⟨rfl, rfl, rfl, by decide +kernel, rfl, by decide +kernel, by decide +kernel⟩
abbrev N_Calendar_rest : List Str := ["self"]
theorem sc_Calendar_rest : FnScope N_Calendar_rest ["self"] (defScope s_Calendar_rest) := ⟨rfl, rfl, rfl, by decide +kernel, rfl, by decide +kernel, by decide +kernel⟩
abbrev N_Calendar_holidays : List Str := ["self"]
theorem sc_Calendar_holidays : FnScope N_Calendar_holidays ["self"] (defScope s_Calendar_holidays) := ⟨rfl, rfl, rfl, by decide +kernel, rfl, by decide +kernel, by decide +kernel⟩
abbrev N_Calendar_months : List Str := ["self"]
theorem sc_Calendar_months : FnScope N_Calendar_months ["self"] (defScope s_Calendar_months) := ⟨rfl, rfl, rfl, by decide +kernel, rfl, by decide +kernel, by decide +kernel⟩
abbrev N_Calendar_cycle_days : List Str := ["self"]
theorem sc_Calendar_cycle_days : FnScope N_Calendar_cycle_days ["self"] (defScope s_Calendar_cycle_days) := ⟨rfl, rfl, rfl, by decide +kernel, rfl, by decide +kernel, by decide +kernel⟩
abbrev N_Calendar_period : List Str := ["self"]
theorem sc_Calendar_period : FnScope N_Calendar_period ["self"] (defScope s_Calendar_period) := ⟨rfl, rfl, rfl, by decide +kernel, rfl, by decide +kernel, by decide +kernel⟩
abbrev N_Calendar_month_start : List Str := ["self", "number", "many"]
theorem sc_Calendar_month_start : FnScope N_Calendar_month_start ["self", "number"] (defScope s_Calendar_month_start) := ⟨rfl, rfl, rfl, by decide +kernel, rfl, by decide +kernel, by decide +kernel⟩
abbrev N_Calendar_month_days : List Str := ["self", "number"]
theorem sc_Calendar_month_days : FnScope N_Calendar_month_days ["self", "number"] (defScope s_Calendar_month_days) := ⟨rfl, rfl, rfl, by decide +kernel, rfl, by decide +kernel, by decide +kernel⟩
abbrev N_Calendar_month_number : List Str := ["self", "date", "days"]
theorem sc_Calendar_month_number : FnScope N_Calendar_month_number ["self", "date"] (defScope s_Calendar_month_number) := ⟨rfl, rfl, rfl, by decide +kernel, rfl, by decide +kernel, by decide +kernel⟩
abbrev N_Calendar_month_length : List Str := ["self", "year", "month"]
theorem sc_Calendar_month_length : FnScope N_Calendar_month_length ["self", "year", "month"] (defScope s_Calendar_month_length) := ⟨rfl, rfl, rfl, by decide +kernel, rfl, by decide +kernel, by decide +kernel⟩
abbrev N_Calendar_date_of : List Str := ["self", "year", "month", "day"]
theorem sc_Calendar_date_of : FnScope N_Calendar_date_of ["self", "year", "month", "day"] (defScope s_Calendar_date_of) := ⟨rfl, rfl, rfl, by decide +kernel, rfl, by decide +kernel, by decide +kernel⟩
abbrev N_Calendar_parts : List Str := ["self", "date", "number"]
theorem sc_Calendar_parts : FnScope N_Calendar_parts ["self", "date"] (defScope s_Calendar_parts) := ⟨rfl, rfl, rfl, by decide +kernel, rfl, by decide +kernel, by decide +kernel⟩
abbrev N_Calendar_weekday : List Str := ["self", "date"]
theorem sc_Calendar_weekday : FnScope N_Calendar_weekday ["self", "date"] (defScope s_Calendar_weekday) := ⟨rfl, rfl, rfl, by decide +kernel, rfl, by decide +kernel, by decide +kernel⟩
abbrev N_Calendar_is_work : List Str := ["self", "date"]
theorem sc_Calendar_is_work : FnScope N_Calendar_is_work ["self", "date"] (defScope s_Calendar_is_work) := ⟨rfl, rfl, rfl, by decide +kernel, rfl, by decide +kernel, by decide +kernel⟩
abbrev N_Calendar_date_text : List Str := ["self", "date"]
theorem sc_Calendar_date_text : FnScope N_Calendar_date_text ["self", "date"] (defScope s_Calendar_date_text) := ⟨rfl, rfl, rfl, by decide +kernel, rfl, by decide +kernel, by decide +kernel⟩
abbrev N_Calendar_read_date : List Str := ["self", "text", "year", "month", "day"]
theorem sc_Calendar_read_date : FnScope N_Calendar_read_date ["self", "text"] (defScope s_Calendar_read_date) := ⟨rfl, rfl, rfl, by decide +kernel, rfl, by decide +kernel, by decide +kernel⟩
abbrev N__law_pen : List Str := ["_law_script"]
theorem sc__law_pen : FnScope N__law_pen ["_law_script"] (defScope s__law_pen) := ⟨rfl, rfl, rfl, by decide +kernel, rfl, by decide +kernel, by decide +kernel⟩
abbrev N__law_draw : List Str := ["_law_pen_here", "_law_many", "_law_digit", "_law_turn", "_law_cell", "_law_primes", "_law_prime", "_law_drawn"]
theorem sc__law_draw : FnScope N__law_draw ["_law_pen_here", "_law_many"] (defScope s__law_draw) := ⟨rfl, rfl, rfl, by decide +kernel, rfl, by decide +kernel, by decide +kernel⟩
abbrev N__law_pick : List Str := ["_law_pen_here", "_law_options"]
theorem sc__law_pick : FnScope N__law_pick ["_law_pen_here", "_law_options"] (defScope s__law_pick) := ⟨rfl, rfl, rfl, by decide +kernel, rfl, by decide +kernel, by decide +kernel⟩
abbrev N__law_great : List Str := ["_law_pen_here", "_law_digits", "_law_found", "_law_k"]
theorem sc__law_great : FnScope N__law_great ["_law_pen_here", "_law_digits"] (defScope s__law_great) := ⟨rfl, rfl, rfl, by decide +kernel, rfl, by decide +kernel, by decide +kernel⟩
abbrev N__law_is_leap : List Str := ["_law_year_here"]
theorem sc__law_is_leap : FnScope N__law_is_leap ["_law_year_here"] (defScope s__law_is_leap) := ⟨rfl, rfl, rfl, by decide +kernel, rfl, by decide +kernel, by decide +kernel⟩
abbrev N__law_new_year : List Str := ["_law_year_here"]
theorem sc__law_new_year : FnScope N__law_new_year ["_law_year_here"] (defScope s__law_new_year) := ⟨rfl, rfl, rfl, by decide +kernel, rfl, by decide +kernel, by decide +kernel⟩
abbrev N__law_year : List Str := ["_law_pen_here", "_law_near"]
theorem sc__law_year : FnScope N__law_year ["_law_pen_here"] (defScope s__law_year) := ⟨rfl, rfl, rfl, by decide +kernel, rfl, by decide +kernel, by decide +kernel⟩
abbrev N_law : List Str := ["_law_script", "_law_pen_here", "_law_day", "_law_idle", "_law_free", "_law_house", "_law_is_plain", "_law_turn", "_law_year_here", "_law_month", "_law_lengths", "_law_begin", "_law_date", "_law_text", "_law_is_rest"]
theorem sc_law : FnScope N_law ["_law_script"] (defScope s_law) := ⟨rfl, rfl, rfl, by decide +kernel, rfl, by decide +kernel, by decide +kernel⟩
abbrev CA (K : Fg) : Addr := He.ga K "Calendar"
def facts : List (Fg → Bool) := [(He.Fa.glo "number_in").ok,
  (He.Fa.glo "integer_text").ok,
  (He.Fa.glo "date_text_of").ok,
  (He.Fa.glo "two_digits_in").ok,
  (He.Fa.glo "parts_in").ok,
  (He.Fa.glo "is_integer").ok,
  (He.Fa.glo "common_divisor").ok,
  (He.Fa.glo "common_multiple").ok,
  (He.Fa.glo "is_row").ok,
  (He.Fa.glo "is_between").ok,
  (He.Fa.glo "are_years").ok,
  (He.Fa.glo "are_weekdays").ok,
  (He.Fa.glo "are_holidays").ok,
  (He.Fa.glo "month_starts").ok,
  (He.Fa.glo "month_at").ok,
  (He.Fa.glo "gregorian_years").ok,
  (He.Fa.glo "_law_pen").ok,
  (He.Fa.glo "_law_draw").ok,
  (He.Fa.glo "_law_pick").ok,
  (He.Fa.glo "_law_great").ok,
  (He.Fa.glo "_law_is_leap").ok,
  (He.Fa.glo "_law_new_year").ok,
  (He.Fa.glo "_law_year").ok,
  (He.Fa.glo "law").ok,
  (He.Fa.glo "InvalidCalendar").ok,
  (He.Fa.glo "InvalidDate").ok,
  (He.Fa.glo "InvalidText").ok,
  (He.Fa.glo "Calendar").ok,
  (He.Fa.int "MAX_PERIOD" 200000).ok,
  (He.Fa.int "MAX_YEARS" 400).ok,
  (He.Fa.int "MAX_MONTHS" 14).ok,
  (He.Fa.int "MAX_DAYS" 40).ok,
  (He.Fa.int "MAX_WEEK" 10).ok,
  (He.Fa.int "MAX_YEAR_DIGITS" 36).ok,
  (He.Fa.int "BLOCK" 1000000000000000000).ok,
  (He.Fa.int "SHORT_PERIOD" 2000).ok,
  (He.Fa.str "DIGITS" "0123456789").ok,
  (He.Fa.glo "EVEN").ok,
  My.tupIA (fun K => He.ga K "EVEN") [31, 28, 31, 30, 31, 30, 31, 31, 30, 31, 30, 31],
  My.tupIA (My.kwAt (fun K => He5.wf K (He.ga K "Calendar") "classmethod" "gregorian") "rest") [5, 6],
  My.tupIA (My.kwAt (fun K => He5.wf K (He.ga K "Calendar") "classmethod" "gregorian") "holidays") [],
  (He.Fa.free "abs").ok,
  (He.Fa.free "all").ok,
  (He.Fa.free "bool").ok,
  (He.Fa.free "classmethod").ok,
  (He.Fa.free "int").ok,
  (He.Fa.free "isinstance").ok,
  (He.Fa.free "len").ok,
  (He.Fa.free "list").ok,
  (He.Fa.free "min").ok,
  (He.Fa.free "property").ok,
  (He.Fa.free "range").ok,
  (He.Fa.free "repr").ok,
  (He.Fa.free "set").ok,
  (He.Fa.free "sorted").ok,
  (He.Fa.free "str").ok,
  (He.Fa.free "sum").ok,
  (He.Fa.free "tuple").ok,
  (He.Fa.cls "Calendar").ok,
  (He.Fa.noat "Calendar" "all_years").ok,
  (He.Fa.noat "Calendar" "days_of_week").ok,
  (He.Fa.noat "Calendar" "begins").ok,
  (He.Fa.noat "Calendar" "rests").ok,
  (He.Fa.noat "Calendar" "free_days").ok,
  (He.Fa.noat "Calendar" "lengths").ok,
  (He.Fa.noat "Calendar" "starts").ok,
  (He.Fa.noat "Calendar" "turn").ok,
  (He.Fa.noat "Calendar" "works").ok,
  (He.Fa.mkr "Calendar").ok,
  tyB "Calendar",
  firstB "Calendar",
  isiB "Calendar" "Calendar" true,
  neB "Calendar",
  othB "Calendar" "Calendar",
  spB "Calendar" "__eq__",
  cmB "Calendar" "gregorian",
  crB "Calendar",
  (He.Fa.meth "Calendar" "facts").ok,
  (He.Fa.meth "Calendar" "first_works").ok,
  propB "Calendar" "week",
  propB "Calendar" "first",
  propB "Calendar" "rest",
  propB "Calendar" "holidays",
  propB "Calendar" "months",
  propB "Calendar" "cycle_days",
  propB "Calendar" "period",
  (He.Fa.meth "Calendar" "month_start").ok,
  (He.Fa.meth "Calendar" "month_days").ok,
  (He.Fa.meth "Calendar" "month_number").ok,
  (He.Fa.meth "Calendar" "month_length").ok,
  (He.Fa.meth "Calendar" "date_of").ok,
  (He.Fa.meth "Calendar" "parts").ok,
  (He.Fa.meth "Calendar" "weekday").ok,
  (He.Fa.meth "Calendar" "is_work").ok,
  (He.Fa.meth "Calendar" "date_text").ok,
  (He.Fa.meth "Calendar" "read_date").ok]
def defs : List He5.DefA := [⟨fun K => He.ma K (He.ga K "Calendar") "__init__", "__init__", "Calendar.__init__", defArgs s_Calendaru_initu, defBody s_Calendaru_initu, defScope s_Calendaru_initu, [.int 7], [("first", .int 0)]⟩,
  ⟨fun K => He.ma K (He.ga K "Calendar") "__eq__", "__eq__", "Calendar.__eq__", defArgs s_Calendaru_equ, defBody s_Calendaru_equ, defScope s_Calendaru_equ, [], []⟩,
  ⟨fun K => He5.wf K (He.ga K "Calendar") "classmethod" "gregorian", "gregorian", "Calendar.gregorian", defArgs s_Calendar_gregorian, defBody s_Calendar_gregorian, defScope s_Calendar_gregorian, [], [("rest", .adr (My.kwAt (fun K => He5.wf K (He.ga K "Calendar") "classmethod" "gregorian") "rest")), ("holidays", .adr (My.kwAt (fun K => He5.wf K (He.ga K "Calendar") "classmethod" "gregorian") "holidays"))]⟩,
  ⟨fun K => He.ma K (He.ga K "Calendar") "facts", "facts", "Calendar.facts", defArgs s_Calendar_facts, defBody s_Calendar_facts, defScope s_Calendar_facts, [], []⟩,
  ⟨fun K => He.ma K (He.ga K "Calendar") "first_works", "first_works", "Calendar.first_works", defArgs s_Calendar_first_works, defBody s_Calendar_first_works, defScope s_Calendar_first_works, [], []⟩,
  ⟨fun K => He5.wf K (He.ga K "Calendar") "property" "week", "week", "Calendar.week", defArgs s_Calendar_week, defBody s_Calendar_week, defScope s_Calendar_week, [], []⟩,
  ⟨fun K => He5.wf K (He.ga K "Calendar") "property" "first", "first", "Calendar.first", defArgs s_Calendar_first, defBody s_Calendar_first, defScope s_Calendar_first, [], []⟩,
  ⟨fun K => He5.wf K (He.ga K "Calendar") "property" "rest", "rest", "Calendar.rest", defArgs s_Calendar_rest, defBody s_Calendar_rest, defScope s_Calendar_rest, [], []⟩,
  ⟨fun K => He5.wf K (He.ga K "Calendar") "property" "holidays", "holidays", "Calendar.holidays", defArgs s_Calendar_holidays, defBody s_Calendar_holidays, defScope s_Calendar_holidays, [], []⟩,
  ⟨fun K => He5.wf K (He.ga K "Calendar") "property" "months", "months", "Calendar.months", defArgs s_Calendar_months, defBody s_Calendar_months, defScope s_Calendar_months, [], []⟩,
  ⟨fun K => He5.wf K (He.ga K "Calendar") "property" "cycle_days", "cycle_days", "Calendar.cycle_days", defArgs s_Calendar_cycle_days, defBody s_Calendar_cycle_days, defScope s_Calendar_cycle_days, [], []⟩,
  ⟨fun K => He5.wf K (He.ga K "Calendar") "property" "period", "period", "Calendar.period", defArgs s_Calendar_period, defBody s_Calendar_period, defScope s_Calendar_period, [], []⟩,
  ⟨fun K => He.ma K (He.ga K "Calendar") "month_start", "month_start", "Calendar.month_start", defArgs s_Calendar_month_start, defBody s_Calendar_month_start, defScope s_Calendar_month_start, [], []⟩,
  ⟨fun K => He.ma K (He.ga K "Calendar") "month_days", "month_days", "Calendar.month_days", defArgs s_Calendar_month_days, defBody s_Calendar_month_days, defScope s_Calendar_month_days, [], []⟩,
  ⟨fun K => He.ma K (He.ga K "Calendar") "month_number", "month_number", "Calendar.month_number", defArgs s_Calendar_month_number, defBody s_Calendar_month_number, defScope s_Calendar_month_number, [], []⟩,
  ⟨fun K => He.ma K (He.ga K "Calendar") "month_length", "month_length", "Calendar.month_length", defArgs s_Calendar_month_length, defBody s_Calendar_month_length, defScope s_Calendar_month_length, [], []⟩,
  ⟨fun K => He.ma K (He.ga K "Calendar") "date_of", "date_of", "Calendar.date_of", defArgs s_Calendar_date_of, defBody s_Calendar_date_of, defScope s_Calendar_date_of, [], []⟩,
  ⟨fun K => He.ma K (He.ga K "Calendar") "parts", "parts", "Calendar.parts", defArgs s_Calendar_parts, defBody s_Calendar_parts, defScope s_Calendar_parts, [], []⟩,
  ⟨fun K => He.ma K (He.ga K "Calendar") "weekday", "weekday", "Calendar.weekday", defArgs s_Calendar_weekday, defBody s_Calendar_weekday, defScope s_Calendar_weekday, [], []⟩,
  ⟨fun K => He.ma K (He.ga K "Calendar") "is_work", "is_work", "Calendar.is_work", defArgs s_Calendar_is_work, defBody s_Calendar_is_work, defScope s_Calendar_is_work, [], []⟩,
  ⟨fun K => He.ma K (He.ga K "Calendar") "date_text", "date_text", "Calendar.date_text", defArgs s_Calendar_date_text, defBody s_Calendar_date_text, defScope s_Calendar_date_text, [], []⟩,
  ⟨fun K => He.ma K (He.ga K "Calendar") "read_date", "read_date", "Calendar.read_date", defArgs s_Calendar_read_date, defBody s_Calendar_read_date, defScope s_Calendar_read_date, [], []⟩,
  ⟨fun K => He.ga K "number_in", "number_in", "number_in", defArgs s_number_in, defBody s_number_in, defScope s_number_in, [], []⟩,
  ⟨fun K => He.ga K "integer_text", "integer_text", "integer_text", defArgs s_integer_text, defBody s_integer_text, defScope s_integer_text, [], []⟩,
  ⟨fun K => He.ga K "date_text_of", "date_text_of", "date_text_of", defArgs s_date_text_of, defBody s_date_text_of, defScope s_date_text_of, [], []⟩,
  ⟨fun K => He.ga K "two_digits_in", "two_digits_in", "two_digits_in", defArgs s_two_digits_in, defBody s_two_digits_in, defScope s_two_digits_in, [], []⟩,
  ⟨fun K => He.ga K "parts_in", "parts_in", "parts_in", defArgs s_parts_in, defBody s_parts_in, defScope s_parts_in, [], []⟩,
  ⟨fun K => He.ga K "is_integer", "is_integer", "is_integer", defArgs s_is_integer, defBody s_is_integer, defScope s_is_integer, [], []⟩,
  ⟨fun K => He.ga K "common_divisor", "common_divisor", "common_divisor", defArgs s_common_divisor, defBody s_common_divisor, defScope s_common_divisor, [], []⟩,
  ⟨fun K => He.ga K "common_multiple", "common_multiple", "common_multiple", defArgs s_common_multiple, defBody s_common_multiple, defScope s_common_multiple, [], []⟩,
  ⟨fun K => He.ga K "is_row", "is_row", "is_row", defArgs s_is_row, defBody s_is_row, defScope s_is_row, [], []⟩,
  ⟨fun K => He.ga K "is_between", "is_between", "is_between", defArgs s_is_between, defBody s_is_between, defScope s_is_between, [], []⟩,
  ⟨fun K => He.ga K "are_years", "are_years", "are_years", defArgs s_are_years, defBody s_are_years, defScope s_are_years, [], []⟩,
  ⟨fun K => He.ga K "are_weekdays", "are_weekdays", "are_weekdays", defArgs s_are_weekdays, defBody s_are_weekdays, defScope s_are_weekdays, [], []⟩,
  ⟨fun K => He.ga K "are_holidays", "are_holidays", "are_holidays", defArgs s_are_holidays, defBody s_are_holidays, defScope s_are_holidays, [], []⟩,
  ⟨fun K => He.ga K "month_starts", "month_starts", "month_starts", defArgs s_month_starts, defBody s_month_starts, defScope s_month_starts, [], []⟩,
  ⟨fun K => He.ga K "month_at", "month_at", "month_at", defArgs s_month_at, defBody s_month_at, defScope s_month_at, [], []⟩,
  ⟨fun K => He.ga K "gregorian_years", "gregorian_years", "gregorian_years", defArgs s_gregorian_years, defBody s_gregorian_years, defScope s_gregorian_years, [], []⟩,
  ⟨fun K => He.ga K "_law_pen", "_law_pen", "_law_pen", defArgs s__law_pen, defBody s__law_pen, defScope s__law_pen, [], []⟩,
  ⟨fun K => He.ga K "_law_draw", "_law_draw", "_law_draw", defArgs s__law_draw, defBody s__law_draw, defScope s__law_draw, [], []⟩,
  ⟨fun K => He.ga K "_law_pick", "_law_pick", "_law_pick", defArgs s__law_pick, defBody s__law_pick, defScope s__law_pick, [], []⟩,
  ⟨fun K => He.ga K "_law_great", "_law_great", "_law_great", defArgs s__law_great, defBody s__law_great, defScope s__law_great, [], []⟩,
  ⟨fun K => He.ga K "_law_is_leap", "_law_is_leap", "_law_is_leap", defArgs s__law_is_leap, defBody s__law_is_leap, defScope s__law_is_leap, [], []⟩,
  ⟨fun K => He.ga K "_law_new_year", "_law_new_year", "_law_new_year", defArgs s__law_new_year, defBody s__law_new_year, defScope s__law_new_year, [], []⟩,
  ⟨fun K => He.ga K "_law_year", "_law_year", "_law_year", defArgs s__law_year, defBody s__law_year, defScope s__law_year, [], []⟩,
  ⟨fun K => He.ga K "law", "law", "law", defArgs s_law, defBody s_law, defScope s_law, [], []⟩]
abbrev Tx (K : Fg) (mg : Str → Option Value) : Prop := TxOf facts defs K mg
section
variable {K : Fg} {mg : Str → Option Value}
theorem Tx.g_number_in (T : Tx K mg) : mg "number_in" = some (.ref (He.ga K "number_in")) := T.glo (T.fact 0)
theorem Tx.g_integer_text (T : Tx K mg) : mg "integer_text" = some (.ref (He.ga K "integer_text")) := T.glo (T.fact 1)
theorem Tx.g_date_text_of (T : Tx K mg) : mg "date_text_of" = some (.ref (He.ga K "date_text_of")) := T.glo (T.fact 2)
theorem Tx.g_two_digits_in (T : Tx K mg) : mg "two_digits_in" = some (.ref (He.ga K "two_digits_in")) := T.glo (T.fact 3)
theorem Tx.g_parts_in (T : Tx K mg) : mg "parts_in" = some (.ref (He.ga K "parts_in")) := T.glo (T.fact 4)
theorem Tx.g_is_integer (T : Tx K mg) : mg "is_integer" = some (.ref (He.ga K "is_integer")) := T.glo (T.fact 5)
theorem Tx.g_common_divisor (T : Tx K mg) : mg "common_divisor" = some (.ref (He.ga K "common_divisor")) := T.glo (T.fact 6)
theorem Tx.g_common_multiple (T : Tx K mg) : mg "common_multiple" = some (.ref (He.ga K "common_multiple")) := T.glo (T.fact 7)
theorem Tx.g_is_row (T : Tx K mg) : mg "is_row" = some (.ref (He.ga K "is_row")) := T.glo (T.fact 8)
theorem Tx.g_is_between (T : Tx K mg) : mg "is_between" = some (.ref (He.ga K "is_between")) := T.glo (T.fact 9)
theorem Tx.g_are_years (T : Tx K mg) : mg "are_years" = some (.ref (He.ga K "are_years")) := T.glo (T.fact 10)
theorem Tx.g_are_weekdays (T : Tx K mg) : mg "are_weekdays" = some (.ref (He.ga K "are_weekdays")) := T.glo (T.fact 11)
theorem Tx.g_are_holidays (T : Tx K mg) : mg "are_holidays" = some (.ref (He.ga K "are_holidays")) := T.glo (T.fact 12)
theorem Tx.g_month_starts (T : Tx K mg) : mg "month_starts" = some (.ref (He.ga K "month_starts")) := T.glo (T.fact 13)
theorem Tx.g_month_at (T : Tx K mg) : mg "month_at" = some (.ref (He.ga K "month_at")) := T.glo (T.fact 14)
theorem Tx.g_gregorian_years (T : Tx K mg) : mg "gregorian_years" = some (.ref (He.ga K "gregorian_years")) := T.glo (T.fact 15)
theorem Tx.g__law_pen (T : Tx K mg) : mg "_law_pen" = some (.ref (He.ga K "_law_pen")) := T.glo (T.fact 16)
theorem Tx.g__law_draw (T : Tx K mg) : mg "_law_draw" = some (.ref (He.ga K "_law_draw")) := T.glo (T.fact 17)
theorem Tx.g__law_pick (T : Tx K mg) : mg "_law_pick" = some (.ref (He.ga K "_law_pick")) := T.glo (T.fact 18)
theorem Tx.g__law_great (T : Tx K mg) : mg "_law_great" = some (.ref (He.ga K "_law_great")) := T.glo (T.fact 19)
theorem Tx.g__law_is_leap (T : Tx K mg) : mg "_law_is_leap" = some (.ref (He.ga K "_law_is_leap")) := T.glo (T.fact 20)
theorem Tx.g__law_new_year (T : Tx K mg) : mg "_law_new_year" = some (.ref (He.ga K "_law_new_year")) := T.glo (T.fact 21)
theorem Tx.g__law_year (T : Tx K mg) : mg "_law_year" = some (.ref (He.ga K "_law_year")) := T.glo (T.fact 22)
theorem Tx.g_law (T : Tx K mg) : mg "law" = some (.ref (He.ga K "law")) := T.glo (T.fact 23)
theorem Tx.g_Calendar (T : Tx K mg) : mg "Calendar" = some (.ref (He.ga K "Calendar")) := T.glo (T.fact 27)
theorem Tx.g_MAX_PERIOD (T : Tx K mg) : ∃ t, mg "MAX_PERIOD" = some (.int 200000 t) := T.int (T.fact 28)
theorem Tx.g_MAX_YEARS (T : Tx K mg) : ∃ t, mg "MAX_YEARS" = some (.int 400 t) := T.int (T.fact 29)
theorem Tx.g_MAX_MONTHS (T : Tx K mg) : ∃ t, mg "MAX_MONTHS" = some (.int 14 t) := T.int (T.fact 30)
theorem Tx.g_MAX_DAYS (T : Tx K mg) : ∃ t, mg "MAX_DAYS" = some (.int 40 t) := T.int (T.fact 31)
theorem Tx.g_MAX_WEEK (T : Tx K mg) : ∃ t, mg "MAX_WEEK" = some (.int 10 t) := T.int (T.fact 32)
theorem Tx.g_MAX_YEAR_DIGITS (T : Tx K mg) : ∃ t, mg "MAX_YEAR_DIGITS" = some (.int 36 t) := T.int (T.fact 33)
theorem Tx.g_BLOCK (T : Tx K mg) : ∃ t, mg "BLOCK" = some (.int 1000000000000000000 t) := T.int (T.fact 34)
theorem Tx.g_SHORT_PERIOD (T : Tx K mg) : ∃ t, mg "SHORT_PERIOD" = some (.int 2000 t) := T.int (T.fact 35)
theorem Tx.g_DIGITS (T : Tx K mg) : ∃ t, mg "DIGITS" = some (.str "0123456789" t) := T.inn.elim fun _ q => He.str_ok q.1 q.2 (T.fact 36)
theorem Tx.g_EVEN (T : Tx K mg) : mg "EVEN" = some (.ref (He.ga K "EVEN")) := T.glo (T.fact 37)
theorem Tx.tup_EVEN (T : Tx K mg) (H : Hp) : SqT K H (He.ga K "EVEN") (([31, 28, 31, 30, 31, 30, 31, 31, 30, 31, 30, 31] : List Int).map V.int) := My.tupIA_ok (p := fun K => He.ga K "EVEN") (T.fact 38) H
theorem Tx.kw_gregorian_rest (T : Tx K mg) (H : Hp) : SqT K H (My.kwAt (fun K => He5.wf K (He.ga K "Calendar") "classmethod" "gregorian") "rest" K) (([5, 6] : List Int).map V.int) := My.tupIA_ok (T.fact 39) H
theorem Tx.kw_gregorian_holidays (T : Tx K mg) (H : Hp) : SqT K H (My.kwAt (fun K => He5.wf K (He.ga K "Calendar") "classmethod" "gregorian") "holidays" K) (([] : List Int).map V.int) := My.tupIA_ok (T.fact 40) H
theorem Tx.n_abs (T : Tx K mg) : mg "abs" = none := T.free (T.fact 41)
theorem Tx.n_all (T : Tx K mg) : mg "all" = none := T.free (T.fact 42)
theorem Tx.n_bool (T : Tx K mg) : mg "bool" = none := T.free (T.fact 43)
theorem Tx.n_int (T : Tx K mg) : mg "int" = none := T.free (T.fact 45)
theorem Tx.n_isinstance (T : Tx K mg) : mg "isinstance" = none := T.free (T.fact 46)
theorem Tx.n_len (T : Tx K mg) : mg "len" = none := T.free (T.fact 47)
theorem Tx.n_list (T : Tx K mg) : mg "list" = none := T.free (T.fact 48)
theorem Tx.n_min (T : Tx K mg) : mg "min" = none := T.free (T.fact 49)
theorem Tx.n_range (T : Tx K mg) : mg "range" = none := T.free (T.fact 51)
theorem Tx.n_repr (T : Tx K mg) : mg "repr" = none := T.free (T.fact 52)
theorem Tx.n_set (T : Tx K mg) : mg "set" = none := T.free (T.fact 53)
theorem Tx.n_sorted (T : Tx K mg) : mg "sorted" = none := T.free (T.fact 54)
theorem Tx.n_str (T : Tx K mg) : mg "str" = none := T.free (T.fact 55)
theorem Tx.n_sum (T : Tx K mg) : mg "sum" = none := T.free (T.fact 56)
theorem Tx.n_tuple (T : Tx K mg) : mg "tuple" = none := T.free (T.fact 57)
theorem Tx.cl_CA (T : Tx K mg) : Cls K (CA K) := He.cls_ok (x := "Calendar") (T.fact 58)
theorem Tx.no_CA_all_years (T : Tx K mg) : NoAttr K (CA K) "all_years" := He.noat_ok (x := "Calendar") (T.fact 59)
theorem Tx.no_CA_days_of_week (T : Tx K mg) : NoAttr K (CA K) "days_of_week" := He.noat_ok (x := "Calendar") (T.fact 60)
theorem Tx.no_CA_begins (T : Tx K mg) : NoAttr K (CA K) "begins" := He.noat_ok (x := "Calendar") (T.fact 61)
theorem Tx.no_CA_rests (T : Tx K mg) : NoAttr K (CA K) "rests" := He.noat_ok (x := "Calendar") (T.fact 62)
theorem Tx.no_CA_free_days (T : Tx K mg) : NoAttr K (CA K) "free_days" := He.noat_ok (x := "Calendar") (T.fact 63)
theorem Tx.no_CA_lengths (T : Tx K mg) : NoAttr K (CA K) "lengths" := He.noat_ok (x := "Calendar") (T.fact 64)
theorem Tx.no_CA_starts (T : Tx K mg) : NoAttr K (CA K) "starts" := He.noat_ok (x := "Calendar") (T.fact 65)
theorem Tx.no_CA_turn (T : Tx K mg) : NoAttr K (CA K) "turn" := He.noat_ok (x := "Calendar") (T.fact 66)
theorem Tx.no_CA_works (T : Tx K mg) : NoAttr K (CA K) "works" := He.noat_ok (x := "Calendar") (T.fact 67)
theorem Tx.mk_CA (T : Tx K mg) : Mk K (CA K) (He.ma K (CA K) "__init__") := He.mkr_ok (x := "Calendar") (T.fact 68)
theorem Tx.fst_CA (T : Tx K mg) : PySem.W.selfFirst K (CA K) = true ∧ PySem.W.notFirst K (CA K) (.ref (CA K)) = true := He.ba (T.fact 70)
theorem Tx.cm_CA_gregorian (T : Tx K mg) : ClX.CMet K (CA K) (.type "type") "gregorian" (He.ma K (CA K) "gregorian") (He5.wf K (CA K) "classmethod" "gregorian") := cmB_ok (C := "Calendar") (T.fact 75)
theorem Tx.cr_CA (T : Tx K mg) : ClX.CRead K (CA K) (.type "type") := crB_ok (C := "Calendar") (T.fact 76)
theorem Tx.me_CA_first_works (T : Tx K mg) : Meth K (CA K) "first_works" (He.ma K (CA K) "first_works") := He.meth_ok (x := "Calendar") (T.fact 78)
theorem Tx.pr_CA_week (T : Tx K mg) : PropOf K (CA K) "week" (He.ma K (CA K) "week") (He5.wf K (CA K) "property" "week") := propB_ok (C := "Calendar") (T.fact 79)
theorem Tx.pr_CA_first (T : Tx K mg) : PropOf K (CA K) "first" (He.ma K (CA K) "first") (He5.wf K (CA K) "property" "first") := propB_ok (C := "Calendar") (T.fact 80)
theorem Tx.pr_CA_rest (T : Tx K mg) : PropOf K (CA K) "rest" (He.ma K (CA K) "rest") (He5.wf K (CA K) "property" "rest") := propB_ok (C := "Calendar") (T.fact 81)
theorem Tx.pr_CA_holidays (T : Tx K mg) : PropOf K (CA K) "holidays" (He.ma K (CA K) "holidays") (He5.wf K (CA K) "property" "holidays") := propB_ok (C := "Calendar") (T.fact 82)
theorem Tx.pr_CA_months (T : Tx K mg) : PropOf K (CA K) "months" (He.ma K (CA K) "months") (He5.wf K (CA K) "property" "months") := propB_ok (C := "Calendar") (T.fact 83)
theorem Tx.pr_CA_cycle_days (T : Tx K mg) : PropOf K (CA K) "cycle_days" (He.ma K (CA K) "cycle_days") (He5.wf K (CA K) "property" "cycle_days") := propB_ok (C := "Calendar") (T.fact 84)
theorem Tx.pr_CA_period (T : Tx K mg) : PropOf K (CA K) "period" (He.ma K (CA K) "period") (He5.wf K (CA K) "property" "period") := propB_ok (C := "Calendar") (T.fact 85)
theorem Tx.me_CA_month_start (T : Tx K mg) : Meth K (CA K) "month_start" (He.ma K (CA K) "month_start") := He.meth_ok (x := "Calendar") (T.fact 86)
theorem Tx.me_CA_month_days (T : Tx K mg) : Meth K (CA K) "month_days" (He.ma K (CA K) "month_days") := He.meth_ok (x := "Calendar") (T.fact 87)
theorem Tx.me_CA_month_number (T : Tx K mg) : Meth K (CA K) "month_number" (He.ma K (CA K) "month_number") := He.meth_ok (x := "Calendar") (T.fact 88)
theorem Tx.me_CA_month_length (T : Tx K mg) : Meth K (CA K) "month_length" (He.ma K (CA K) "month_length") := He.meth_ok (x := "Calendar") (T.fact 89)
theorem Tx.me_CA_date_of (T : Tx K mg) : Meth K (CA K) "date_of" (He.ma K (CA K) "date_of") := He.meth_ok (x := "Calendar") (T.fact 90)
theorem Tx.me_CA_parts (T : Tx K mg) : Meth K (CA K) "parts" (He.ma K (CA K) "parts") := He.meth_ok (x := "Calendar") (T.fact 91)
theorem Tx.me_CA_weekday (T : Tx K mg) : Meth K (CA K) "weekday" (He.ma K (CA K) "weekday") := He.meth_ok (x := "Calendar") (T.fact 92)
theorem Tx.me_CA_is_work (T : Tx K mg) : Meth K (CA K) "is_work" (He.ma K (CA K) "is_work") := He.meth_ok (x := "Calendar") (T.fact 93)
theorem Tx.me_CA_date_text (T : Tx K mg) : Meth K (CA K) "date_text" (He.ma K (CA K) "date_text") := He.meth_ok (x := "Calendar") (T.fact 94)
theorem Tx.me_CA_read_date (T : Tx K mg) : Meth K (CA K) "read_date" (He.ma K (CA K) "read_date") := He.meth_ok (x := "Calendar") (T.fact 95)
theorem Tx.kp_number_in (T : Tx K mg) : PySem.W.keepIn K (.ref ((fun K => He.ga K "number_in") K)) = true := T.kp 22 (st := s_number_in) rfl
theorem Tx.kp_integer_text (T : Tx K mg) : PySem.W.keepIn K (.ref ((fun K => He.ga K "integer_text") K)) = true := T.kp 23 (st := s_integer_text) rfl
theorem Tx.kp_date_text_of (T : Tx K mg) : PySem.W.keepIn K (.ref ((fun K => He.ga K "date_text_of") K)) = true := T.kp 24 (st := s_date_text_of) rfl
theorem Tx.kp_two_digits_in (T : Tx K mg) : PySem.W.keepIn K (.ref ((fun K => He.ga K "two_digits_in") K)) = true := T.kp 25 (st := s_two_digits_in) rfl
theorem Tx.kp_parts_in (T : Tx K mg) : PySem.W.keepIn K (.ref ((fun K => He.ga K "parts_in") K)) = true := T.kp 26 (st := s_parts_in) rfl
theorem Tx.kp_is_integer (T : Tx K mg) : PySem.W.keepIn K (.ref ((fun K => He.ga K "is_integer") K)) = true := T.kp 27 (st := s_is_integer) rfl
theorem Tx.kp_common_divisor (T : Tx K mg) : PySem.W.keepIn K (.ref ((fun K => He.ga K "common_divisor") K)) = true := T.kp 28 (st := s_common_divisor) rfl
theorem Tx.kp_common_multiple (T : Tx K mg) : PySem.W.keepIn K (.ref ((fun K => He.ga K "common_multiple") K)) = true := T.kp 29 (st := s_common_multiple) rfl
theorem Tx.kp_is_row (T : Tx K mg) : PySem.W.keepIn K (.ref ((fun K => He.ga K "is_row") K)) = true := T.kp 30 (st := s_is_row) rfl
theorem Tx.kp_is_between (T : Tx K mg) : PySem.W.keepIn K (.ref ((fun K => He.ga K "is_between") K)) = true := T.kp 31 (st := s_is_between) rfl
theorem Tx.kp_are_years (T : Tx K mg) : PySem.W.keepIn K (.ref ((fun K => He.ga K "are_years") K)) = true := T.kp 32 (st := s_are_years) rfl
theorem Tx.kp_are_weekdays (T : Tx K mg) : PySem.W.keepIn K (.ref ((fun K => He.ga K "are_weekdays") K)) = true := T.kp 33 (st := s_are_weekdays) rfl
theorem Tx.kp_are_holidays (T : Tx K mg) : PySem.W.keepIn K (.ref ((fun K => He.ga K "are_holidays") K)) = true := T.kp 34 (st := s_are_holidays) rfl
theorem Tx.kp_month_starts (T : Tx K mg) : PySem.W.keepIn K (.ref ((fun K => He.ga K "month_starts") K)) = true := T.kp 35 (st := s_month_starts) rfl
theorem Tx.kp_month_at (T : Tx K mg) : PySem.W.keepIn K (.ref ((fun K => He.ga K "month_at") K)) = true := T.kp 36 (st := s_month_at) rfl
theorem Tx.kp_gregorian_years (T : Tx K mg) : PySem.W.keepIn K (.ref ((fun K => He.ga K "gregorian_years") K)) = true := T.kp 37 (st := s_gregorian_years) rfl
theorem Tx.kp__law_pen (T : Tx K mg) : PySem.W.keepIn K (.ref ((fun K => He.ga K "_law_pen") K)) = true := T.kp 38 (st := s__law_pen) rfl
theorem Tx.kp__law_draw (T : Tx K mg) : PySem.W.keepIn K (.ref ((fun K => He.ga K "_law_draw") K)) = true := T.kp 39 (st := s__law_draw) rfl
theorem Tx.kp__law_pick (T : Tx K mg) : PySem.W.keepIn K (.ref ((fun K => He.ga K "_law_pick") K)) = true := T.kp 40 (st := s__law_pick) rfl
theorem Tx.kp__law_great (T : Tx K mg) : PySem.W.keepIn K (.ref ((fun K => He.ga K "_law_great") K)) = true := T.kp 41 (st := s__law_great) rfl
theorem Tx.kp__law_is_leap (T : Tx K mg) : PySem.W.keepIn K (.ref ((fun K => He.ga K "_law_is_leap") K)) = true := T.kp 42 (st := s__law_is_leap) rfl
theorem Tx.kp__law_new_year (T : Tx K mg) : PySem.W.keepIn K (.ref ((fun K => He.ga K "_law_new_year") K)) = true := T.kp 43 (st := s__law_new_year) rfl
theorem Tx.kp__law_year (T : Tx K mg) : PySem.W.keepIn K (.ref ((fun K => He.ga K "_law_year") K)) = true := T.kp 44 (st := s__law_year) rfl
end
end Lw
section
set_option maxHeartbeats 0
namespace My
open PySem PySem.Spec PyProof.Rows L2
theorem seeG_split {ns : List Str} {n : Nat} {fa : List (Fg → Bool)} {fn : List He5.DefA} {g : Addr → Option Obj} (a b : Nat) (h1 : seeG ns n (fa.take a) (fn.take b) g = dueX (fn.take b)) (h2 : seeG ns n (fa.drop a) (fn.drop b) g = dueX (fn.drop b)) : seeG ns n fa fn g = dueX fn := by
  apply My.two; (focus intro zzI; simp only [↓ My.mkB zzI (by
  clear zzI
  have ea : ∀ f : (Fg → Bool) → Bool, fa.all f = ((fa.take a).all f && (fa.drop a).all f) := fun f => by rw [← List.all_append, List.take_append_drop]
  have en : ∀ f : He5.DefA → Bool, fn.all f = ((fn.take b).all f && (fn.drop b).all f) := fun f => by rw [← List.all_append, List.take_append_drop]
  have em : ∀ {β : Type} (f : He5.DefA → β), fn.map f = (fn.take b).map f ++ (fn.drop b).map f := fun f => by rw [← List.map_append, List.take_append_drop]
  obtain ⟨p1, q1⟩ := Prod.ext_iff.mp h1
  obtain ⟨p2, q2⟩ := Prod.ext_iff.mp h2
  refine Prod.ext ?_ ?_
  · obtain ⟨u1, u2⟩ := Bool.and_eq_true_iff.mp p1
    obtain ⟨v1, v2⟩ := Bool.and_eq_true_iff.mp p2
    exact Bool.and_eq_true_iff.mpr ⟨(ea _).trans (Bool.and_eq_true_iff.mpr ⟨u1, v1⟩), (en _).trans (Bool.and_eq_true_iff.mpr ⟨u2, v2⟩)⟩
  · exact (em _).trans ((congr (congrArg HAppend.hAppend q1) q2).trans (em _).symm)
  )]); intro f; simpa using My.gz f 5 true
theorem pair3 {α β γ : Type} {a a' : α} {b b' : β} {c c' : γ} (h : (a, b) = (a', b')) (k : c = c') : (a, b, c) = (a', b', c') := by
  apply My.two; (focus intro zzI; simp only [↓ My.mkB zzI (by
  clear zzI
  cases h
  cases k
  rfl
  )]); intro f; simpa using My.gz f 5 true
end My
namespace Hd
open PySem PySem.W PySem.Calls PyProof.Rows HandSHeadRun
abbrev R : OpenRow := OpenLaw.row PySem.Challenge.rw_dayrecipes_k03_gregorian_calendar
def loose : List PySem.Str := (["_wall", "InvalidCalendar", "InvalidDate", "InvalidText", "MAX_PERIOD", "MAX_YEARS", "MAX_MONTHS", "MAX_DAYS", "MAX_WEEK", "DIGITS", "MAX_YEAR_DIGITS", "BLOCK", "number_in", "bounded_in", "integer_text", "date_text_of", "two_digits_in", "parts_in", "calendar_text", "week_in"] : List PySem.Str) ++ (["numbers_in", "rest_in", "holiday_in", "year_in", "read_calendar", "is_integer", "common_divisor", "common_multiple", "SHORT_PERIOD", "EVEN", "is_row", "is_between", "are_years", "are_weekdays", "are_holidays", "month_starts", "month_at", "gregorian_years", "Calendar", "_law_pen"] : List PySem.Str) ++ (["_law_draw", "_law_pick", "_law_great", "_law_is_leap", "_law_new_year", "_law_year"] : List PySem.Str)
def names : List PySem.Str := (["number_in", "integer_text", "date_text_of", "two_digits_in", "parts_in", "is_integer", "common_divisor", "common_multiple", "is_row", "is_between", "are_years", "are_weekdays", "are_holidays", "month_starts", "month_at", "gregorian_years", "_law_pen", "_law_draw", "_law_pick", "_law_great"] : List PySem.Str) ++ (["_law_is_leap", "_law_new_year", "_law_year", "law", "EVEN", "InvalidCalendar", "InvalidDate", "InvalidText", "Calendar"] : List PySem.Str)
abbrev hk : Hook := My.hookX names 6 Lw.facts Lw.defs
def ob (s : SharedT) : He.AlD := My.seeG names 6 Lw.facts Lw.defs (HandSHeadRun.getT s)
theorem ob_eq (s : SharedT) : ob s = hk.obs s.abs := My.seeG_eq (HandSHeadRun.getT_eq s)
theorem runL (w : World) : ∀ os : OsState, (endF (stepQ (denQ tabQ) R.prog w) 20000 R.prog w os).map (fun s => (looksF R.prog (boot_heap w.params) s.abs, seenQ (view R.prog [51]) loose (importedModules R.prog.main.body) (fun s => xlAt (view R.prog [51]) [] s && recOk R.toRowW.records s) s.abs)) = some (true, openGood (view R.prog [51]) loose) := by
  intro os
  kernel_rfl
theorem run0 (w : World) : ∀ os : OsState, (endF (stepQ (denQ tabQ) R.prog w) 20000 R.prog w os).map (fun s => My.seeG names 6 (Lw.facts.take (Lw.facts.length / 3)) (Lw.defs.take (Lw.defs.length / 3)) (getT s)) = some (My.dueX (Lw.defs.take (Lw.defs.length / 3))) := by
  intro os
  kernel_rfl
theorem run1 (w : World) : ∀ os : OsState, (endF (stepQ (denQ tabQ) R.prog w) 20000 R.prog w os).map (fun s => My.seeG names 6 ((Lw.facts.drop (Lw.facts.length / 3)).take (Lw.facts.length / 3)) ((Lw.defs.drop (Lw.defs.length / 3)).take (Lw.defs.length / 3)) (getT s)) = some (My.dueX ((Lw.defs.drop (Lw.defs.length / 3)).take (Lw.defs.length / 3))) := by
  intro os
  kernel_rfl
theorem run2 (w : World) : ∀ os : OsState, (endF (stepQ (denQ tabQ) R.prog w) 20000 R.prog w os).map (fun s => My.seeG names 6 ((Lw.facts.drop (Lw.facts.length / 3)).drop (Lw.facts.length / 3)) ((Lw.defs.drop (Lw.defs.length / 3)).drop (Lw.defs.length / 3)) (getT s)) = some (My.dueX ((Lw.defs.drop (Lw.defs.length / 3)).drop (Lw.defs.length / 3))) := by
  intro os
  kernel_rfl
theorem run (w : World) : HandSHeadRun.RunEq R (view R.prog [51]) hk ob 20000 loose w := by
  apply My.two; (focus intro zzI; simp only [↓ My.mkB zzI (by
  clear zzI
  intro os
  obtain ⟨s, e, hL⟩ := Option.map_eq_some_iff.mp (runL w os)
  obtain ⟨s0, e0, h0⟩ := Option.map_eq_some_iff.mp (run0 w os)
  obtain rfl : s = s0 := Option.some.inj (e.symm.trans e0)
  obtain ⟨s1, e1, h1⟩ := Option.map_eq_some_iff.mp (run1 w os)
  obtain rfl : s = s1 := Option.some.inj (e.symm.trans e1)
  obtain ⟨s2, e2, h2⟩ := Option.map_eq_some_iff.mp (run2 w os)
  obtain rfl : s = s2 := Option.some.inj (e.symm.trans e2)
  exact Option.map_eq_some_iff.mpr ⟨s, e, My.pair3 hL (My.seeG_split (Lw.facts.length / 3) (Lw.defs.length / 3) h0 (My.seeG_split (Lw.facts.length / 3) (Lw.defs.length / 3) h1 (h2)))⟩
  )]); intro f; simpa using My.gz f 5 true
end Hd
end
set_option maxHeartbeats 40000000
namespace My
/-- the days of the first k months -/
def pre (ls : List Nat) (k : Nat) : Nat := (ls.take k).sum
section
variable {ls : List Nat}
theorem pre_zero : pre ls 0 = 0 := rfl
theorem pre_cons {l k : Nat} : pre (l :: ls) (k + 1) = l + pre ls k := by
  unfold pre
  rw [List.take_succ_cons, List.sum_cons]
theorem pre_succ : ∀ {ls : List Nat} {k : Nat}, k < ls.length → pre ls (k + 1) = pre ls k + ls.getD k 0
  | [], _, h => absurd h (Nat.not_lt_zero _)
  | l :: ls, 0, _ => by
    apply My.two; (focus intro zzI; simp only [↓ My.mkB zzI (by
    clear zzI
    rw [pre_cons, pre_zero, pre_zero]
    show l + 0 = 0 + l
    omega
    )]); intro f; simpa using My.gz f 5 true
  | l :: ls, k + 1, h => by
    rw [pre_cons, pre_cons, pre_succ (Nat.lt_of_succ_lt_succ h), List.getD_cons_succ, Nat.add_assoc]
theorem pre_all : pre ls ls.length = ls.sum := by
  unfold pre
  rw [List.take_length]
theorem getD_mem {k : Nat} (h : k < ls.length) : ls.getD k 0 ∈ ls := by
  rw [List.getD_eq_getElem?_getD, List.getElem?_eq_getElem h]
  exact List.getElem_mem h
theorem pre_step (pos : ∀ l ∈ ls, 0 < l) {k : Nat} (h : k < ls.length) : pre ls k < pre ls (k + 1) := by
  apply My.two; (focus intro zzI; simp only [↓ My.mkB zzI (by
  clear zzI
  rw [pre_succ h]
  have := pos _ (getD_mem h)
  omega
  )]); intro f; simpa using My.gz f 5 true
theorem pre_lt (pos : ∀ l ∈ ls, 0 < l) {i : Nat} : ∀ {j : Nat}, i < j → j ≤ ls.length → pre ls i < pre ls j
  | 0, h, _ => absurd h (Nat.not_lt_zero _)
  | j + 1, h, hj => by
    apply My.two; (focus intro zzI; simp only [↓ My.mkB zzI (by
    clear zzI
    have := pre_step pos (k := j) hj
    rcases Nat.lt_or_ge i j with c | c
    · exact Nat.lt_trans (pre_lt pos c (by omega)) this
    · obtain rfl : i = j := by omega
      exact this
    )]); intro f; simpa using My.gz f 5 true
theorem pre_le (pos : ∀ l ∈ ls, 0 < l) {i j : Nat} (h : i ≤ j) (hj : j ≤ ls.length) : pre ls i ≤ pre ls j := by
  apply My.two; (focus intro zzI; simp only [↓ My.mkB zzI (by
  clear zzI
  rcases Nat.lt_or_ge i j with c | c
  · exact Nat.le_of_lt (pre_lt pos c hj)
  · obtain rfl : i = j := by omega
    exact Nat.le_refl _
  )]); intro f; simpa using My.gz f 5 true
/-- the place of the month with a day of the cycle -/
def loc : List Nat → Nat → Nat
  | [], _ => 0
  | l :: ls, d => if d < l then 0 else loc ls (d - l) + 1
theorem loc_lt : ∀ {ls : List Nat} {d : Nat}, d < ls.sum → loc ls d < ls.length
  | [], _, h => absurd h (Nat.not_lt_zero _)
  | l :: ls, d, h => by
    apply My.two; (focus intro zzI; simp only [↓ My.mkB zzI (by
    clear zzI
    unfold loc
    rw [List.sum_cons] at h
    split
    · exact Nat.succ_pos _
    · exact Nat.succ_lt_succ (loc_lt (by omega))
    )]); intro f; simpa using My.gz f 5 true
theorem loc_lo : ∀ {ls : List Nat} {d : Nat}, pre ls (loc ls d) ≤ d
  | [], _ => Nat.zero_le _
  | l :: ls, d => by
    apply My.two; (focus intro zzI; simp only [↓ My.mkB zzI (by
    clear zzI
    unfold loc
    split
    · exact Nat.zero_le _
    · rw [pre_cons]
      have := loc_lo (ls := ls) (d := d - l)
      omega
    )]); intro f; simpa using My.gz f 5 true
theorem loc_hi : ∀ {ls : List Nat} {d : Nat}, d < ls.sum → d < pre ls (loc ls d + 1)
  | [], _, h => absurd h (Nat.not_lt_zero _)
  | l :: ls, d, h => by
    apply My.two; (focus intro zzI; simp only [↓ My.mkB zzI (by
    clear zzI
    unfold loc
    rw [List.sum_cons] at h
    rw [pre_cons]
    split
    · omega
    · have := loc_hi (ls := ls) (d := d - l) (by omega)
      omega
    )]); intro f; simpa using My.gz f 5 true
theorem loc_uniq (pos : ∀ l ∈ ls, 0 < l) {d k : Nat} (hk : k < ls.length) (h1 : pre ls k ≤ d) (h2 : d < pre ls (k + 1)) : k = loc ls d := by
  apply My.two; (focus intro zzI; simp only [↓ My.mkB zzI (by
  clear zzI
  have hd : d < ls.sum := by
    have := pre_le pos (show k + 1 ≤ ls.length from hk) (Nat.le_refl _)
    rw [pre_all] at this
    omega
  have a := loc_lt hd
  have b := loc_lo (ls := ls) (d := d)
  have c := loc_hi hd
  rcases Nat.lt_trichotomy k (loc ls d) with z | z | z
  · have := pre_le pos (show k + 1 ≤ loc ls d from z) (Nat.le_of_lt a)
    omega
  · exact z
  · have := pre_le pos (show loc ls d + 1 ≤ k from z) (Nat.le_of_lt hk)
    omega
  )]); intro f; simpa using My.gz f 5 true
/-- the first day of a month, by its number -/
def ms (ls : List Nat) (m : Int) : Int := m / (ls.length : Int) * (ls.sum : Int) + (pre ls (m % (ls.length : Int)).toNat : Int)
/-- the length of a month, by its number -/
def ml (ls : List Nat) (m : Int) : Int := ((ls.getD (m % (ls.length : Int)).toNat 0 : Nat) : Int)
/-- the number of the month of a date -/
def mn (ls : List Nat) (d : Int) : Int := d / (ls.sum : Int) * (ls.length : Int) + (loc ls (d % (ls.sum : Int)).toNat : Int)
theorem idiv_at {n q r : Int} (h0 : 0 ≤ r) (h1 : r < n) : (q * n + r) / n = q ∧ (q * n + r) % n = r := by
  apply My.two; (focus intro zzI; simp only [↓ My.mkB zzI (by
  clear zzI
  constructor
  · rw [Int.add_comm, Int.add_mul_ediv_right _ _ (by omega), Int.ediv_eq_zero_of_lt h0 h1, Int.zero_add]
  · rw [Int.add_comm, Int.add_mul_emod_self_right, Int.emod_eq_of_lt h0 h1]
  )]); intro f; simpa using My.gz f 5 true
theorem ms_at {q : Int} {k : Nat} (hk : k < ls.length) : ms ls (q * (ls.length : Int) + (k : Int)) = q * (ls.sum : Int) + (pre ls k : Int) := by
  apply My.two; (focus intro zzI; simp only [↓ My.mkB zzI (by
  clear zzI
  unfold ms
  obtain ⟨e1, e2⟩ := idiv_at (n := (ls.length : Int)) (q := q) (r := (k : Int)) (by omega) (by omega)
  rw [e1, e2, Int.toNat_natCast]
  )]); intro f; simpa using My.gz f 5 true
theorem ml_at {q : Int} {k : Nat} (hk : k < ls.length) : ml ls (q * (ls.length : Int) + (k : Int)) = ((ls.getD k 0 : Nat) : Int) := by
  apply My.two; (focus intro zzI; simp only [↓ My.mkB zzI (by
  clear zzI
  unfold ml
  obtain ⟨e1, e2⟩ := idiv_at (n := (ls.length : Int)) (q := q) (r := (k : Int)) (by omega) (by omega)
  rw [e2, Int.toNat_natCast]
  )]); intro f; simpa using My.gz f 5 true
theorem m_split (ne : 0 < ls.length) (m : Int) : ∃ (q : Int) (k : Nat), k < ls.length ∧ m = q * (ls.length : Int) + (k : Int) := by
  apply My.two; (focus intro zzI; simp only [↓ My.mkB zzI (by
  clear zzI
  refine ⟨m / (ls.length : Int), (m % (ls.length : Int)).toNat, ?_, ?_⟩
  · have := Int.emod_lt_of_pos m (show (0 : Int) < ls.length by omega)
    have := Int.emod_nonneg m (show (ls.length : Int) ≠ 0 by omega)
    omega
  · have := Int.emod_nonneg m (show (ls.length : Int) ≠ 0 by omega)
    rw [Int.toNat_of_nonneg this]
    have := Int.mul_ediv_add_emod m (ls.length : Int)
    rw [Int.mul_comm] at this
    omega
  )]); intro f; simpa using My.gz f 5 true
theorem ms_succ (ne : 0 < ls.length) (m : Int) : ms ls (m + 1) = ms ls m + ml ls m := by
  apply My.two; (focus intro zzI; simp only [↓ My.mkB zzI (by
  clear zzI
  obtain ⟨q, k, hk, rfl⟩ := m_split ne m
  rw [ms_at hk, ml_at hk]
  rcases Nat.lt_or_ge (k + 1) ls.length with c | c
  · rw [show q * (ls.length : Int) + (k : Int) + 1 = q * (ls.length : Int) + ((k + 1 : Nat) : Int) by omega, ms_at c, pre_succ hk]
    omega
  · have e : k + 1 = ls.length := by omega
    have h := pre_succ hk
    rw [e, pre_all] at h
    rw [show q * (ls.length : Int) + (k : Int) + 1 = (q + 1) * (ls.length : Int) + ((0 : Nat) : Int) by rw [Int.add_mul]; omega, ms_at ne, pre_zero, h, Int.add_mul]
    omega
  )]); intro f; simpa using My.gz f 5 true
theorem ml_pos (ne : 0 < ls.length) (pos : ∀ l ∈ ls, 0 < l) (m : Int) : 0 < ml ls m := by
  apply My.two; (focus intro zzI; simp only [↓ My.mkB zzI (by
  clear zzI
  obtain ⟨q, k, hk, rfl⟩ := m_split ne m
  rw [ml_at hk]
  have := pos _ (getD_mem hk)
  omega
  )]); intro f; simpa using My.gz f 5 true
theorem ml_le (ne : 0 < ls.length) {B : Nat} (top : ∀ l ∈ ls, l ≤ B) (m : Int) : ml ls m ≤ (B : Int) := by
  apply My.two; (focus intro zzI; simp only [↓ My.mkB zzI (by
  clear zzI
  obtain ⟨q, k, hk, rfl⟩ := m_split ne m
  rw [ml_at hk]
  have := top _ (getD_mem hk)
  omega
  )]); intro f; simpa using My.gz f 5 true
theorem ms_lt (ne : 0 < ls.length) (pos : ∀ l ∈ ls, 0 < l) {a b : Int} (h : a < b) : ms ls a < ms ls b := by
  apply My.two; (focus intro zzI; simp only [↓ My.mkB zzI (by
  clear zzI
  have step : ∀ n : Nat, ms ls a < ms ls (a + (n : Int) + 1) := fun n => by
    induction n with
    | zero =>
      have := ml_pos ne pos a
      rw [show a + ((0 : Nat) : Int) + 1 = a + 1 by omega, ms_succ ne]
      omega
    | succ n ih =>
      have := ml_pos ne pos (a + (n : Int) + 1)
      rw [show a + ((n + 1 : Nat) : Int) + 1 = a + (n : Int) + 1 + 1 by omega, ms_succ ne]
      omega
  have := step (b - a - 1).toNat
  rw [show a + ((b - a - 1).toNat : Int) + 1 = b by omega] at this
  exact this
  )]); intro f; simpa using My.gz f 5 true
theorem ms_le (ne : 0 < ls.length) (pos : ∀ l ∈ ls, 0 < l) {a b : Int} (h : a ≤ b) : ms ls a ≤ ms ls b := by
  apply My.two; (focus intro zzI; simp only [↓ My.mkB zzI (by
  clear zzI
  rcases Int.lt_or_eq_of_le h with c | rfl
  · exact Int.le_of_lt (ms_lt ne pos c)
  · exact Int.le_refl _
  )]); intro f; simpa using My.gz f 5 true
theorem ms_uniq (ne : 0 < ls.length) (pos : ∀ l ∈ ls, 0 < l) {a b d : Int} (a1 : ms ls a ≤ d) (a2 : d < ms ls (a + 1)) (b1 : ms ls b ≤ d) (b2 : d < ms ls (b + 1)) : a = b := by
  apply My.two; (focus intro zzI; simp only [↓ My.mkB zzI (by
  clear zzI
  rcases Int.lt_trichotomy a b with z | z | z
  · have := ms_le ne pos (show a + 1 ≤ b by omega)
    omega
  · exact z
  · have := ms_le ne pos (show b + 1 ≤ a by omega)
    omega
  )]); intro f; simpa using My.gz f 5 true
theorem sum_pos (ne : 0 < ls.length) (pos : ∀ l ∈ ls, 0 < l) : 0 < ls.sum := by
  apply My.two; (focus intro zzI; simp only [↓ My.mkB zzI (by
  clear zzI
  have := pre_lt pos ne (Nat.le_refl _)
  rw [pre_all, pre_zero] at this
  exact this
  )]); intro f; simpa using My.gz f 5 true
theorem sum_le {B : Nat} (top : ∀ l ∈ ls, l ≤ B) : ls.sum ≤ ls.length * B := by
  apply My.two; (focus intro zzI; simp only [↓ My.mkB zzI (by
  clear zzI
  induction ls with
  | nil => simp
  | cons l ls ih =>
    have h1 := top l (List.mem_cons_self ..)
    have h2 := ih fun x hx => top x (List.mem_cons_of_mem _ hx)
    rw [List.sum_cons, List.length_cons, Nat.add_mul]
    omega
  )]); intro f; simpa using My.gz f 5 true
theorem d_split (s0 : 0 < ls.sum) (d : Int) : ∃ (q : Int) (r : Nat), r < ls.sum ∧ d = q * (ls.sum : Int) + (r : Int) := by
  apply My.two; (focus intro zzI; simp only [↓ My.mkB zzI (by
  clear zzI
  refine ⟨d / (ls.sum : Int), (d % (ls.sum : Int)).toNat, ?_, ?_⟩
  · have := Int.emod_lt_of_pos d (show (0 : Int) < ls.sum by omega)
    have := Int.emod_nonneg d (show (ls.sum : Int) ≠ 0 by omega)
    omega
  · have := Int.emod_nonneg d (show (ls.sum : Int) ≠ 0 by omega)
    rw [Int.toNat_of_nonneg this]
    have := Int.mul_ediv_add_emod d (ls.sum : Int)
    rw [Int.mul_comm] at this
    omega
  )]); intro f; simpa using My.gz f 5 true
theorem mn_at {q : Int} {r : Nat} (hr : r < ls.sum) : mn ls (q * (ls.sum : Int) + (r : Int)) = q * (ls.length : Int) + (loc ls r : Int) := by
  apply My.two; (focus intro zzI; simp only [↓ My.mkB zzI (by
  clear zzI
  unfold mn
  obtain ⟨e1, e2⟩ := idiv_at (n := (ls.sum : Int)) (q := q) (r := (r : Int)) (by omega) (by omega)
  rw [e1, e2, Int.toNat_natCast]
  )]); intro f; simpa using My.gz f 5 true
theorem mn_lo (ne : 0 < ls.length) (pos : ∀ l ∈ ls, 0 < l) (d : Int) : ms ls (mn ls d) ≤ d := by
  apply My.two; (focus intro zzI; simp only [↓ My.mkB zzI (by
  clear zzI
  obtain ⟨q, r, hr, rfl⟩ := d_split (sum_pos ne pos) d
  rw [mn_at hr, ms_at (loc_lt hr)]
  have := loc_lo (ls := ls) (d := r)
  omega
  )]); intro f; simpa using My.gz f 5 true
theorem mn_hi (ne : 0 < ls.length) (pos : ∀ l ∈ ls, 0 < l) (d : Int) : d < ms ls (mn ls d + 1) := by
  apply My.two; (focus intro zzI; simp only [↓ My.mkB zzI (by
  clear zzI
  obtain ⟨q, r, hr, rfl⟩ := d_split (sum_pos ne pos) d
  have a := loc_lt hr
  rw [ms_succ ne, mn_at hr, ms_at a, ml_at a]
  have := loc_hi hr
  rw [pre_succ a] at this
  omega
  )]); intro f; simpa using My.gz f 5 true
theorem mn_of (ne : 0 < ls.length) (pos : ∀ l ∈ ls, 0 < l) {m d : Int} (h1 : ms ls m ≤ d) (h2 : d < ms ls (m + 1)) : mn ls d = m :=
  ms_uniq ne pos (mn_lo ne pos d) (mn_hi ne pos d) h1 h2
end
end My
namespace My
open PySem PySem.Spec PyProof.Rows L2
def prP (z : Int × Int) : PyData := .tuple [.int z.1, .int z.2]
theorem prP_eqv (z w : Int × Int) : PyData.eqv (prP z) (prP w) = decide (z = w) := by
  apply My.two; (focus intro zzI; simp only [↓ My.mkB zzI (by
  clear zzI
  obtain ⟨a, b⟩ := z
  obtain ⟨c, d⟩ := w
  unfold prP
  by_cases h1 : a = c
  · by_cases h2 : b = d
    · subst h1 h2
      simp [PyData.eqv, PyData.eqvAll]
    · simp [PyData.eqv, PyData.eqvAll, h2]
  · simp [PyData.eqv, PyData.eqvAll, h1]
  )]); intro f; simpa using My.gz f 5 true
theorem prP_any (z : Int × Int) (zs : List (Int × Int)) : ((zs.map prP).any fun y => PyData.eqv y (prP z)) = decide (z ∈ zs) := by
  apply My.two; (focus intro zzI; simp only [↓ My.mkB zzI (by
  clear zzI
  rw [Bool.eq_iff_iff, List.any_eq_true, decide_eq_true_iff]
  constructor
  · rintro ⟨y, hy, e⟩
    obtain ⟨x, hx, rfl⟩ := List.mem_map.mp hy
    rw [prP_eqv, decide_eq_true_iff] at e
    exact e ▸ hx
  · intro h
    exact ⟨prP z, List.mem_map_of_mem h, by rw [prP_eqv]; exact decide_eq_true rfl⟩
  )]); intro f; simpa using My.gz f 5 true
theorem prP_lay (z : Int × Int) : (prP z).canLay0 = true := by simp [prP, PyData.canLay0, PyData.canLayAll0]
theorem prPs_lay : ∀ zs : List (Int × Int), PyData.canLayAll0 (zs.map prP) = true
  | [] => rfl
  | z :: zs => by
    rw [List.map_cons, PyData.canLayAll0, prP_lay, prPs_lay zs]
    rfl
/-- pairs at the addresses -/
def Prs (K : Fg) (H : Hp) (ts : List Addr) (ps : List (Int × Int)) : Prop := Paired (fun t p => SqT K H t [.int p.1, .int p.2]) ts ps
theorem Prs.dp {K : Fg} {H : Hp} : ∀ {ts : List Addr} {ps : List (Int × Int)}, Prs K H ts ps → DpAll K H (ts.map V.ref) (ps.map prP)
  | _, _, .nil => .nil
  | _, _, .cons h t => .cons (Dp.tup h (.cons (.int _) (.cons (.int _) .nil))) (Prs.dp t)
theorem Prs.len {K : Fg} {H : Hp} {ts : List Addr} {ps : List (Int × Int)} (h : Prs K H ts ps) : ts.length = ps.length := Paired.length h
theorem Prs.get {K : Fg} {H : Hp} : ∀ {ts : List Addr} {ps : List (Int × Int)}, Prs K H ts ps → ∀ {i : Nat} {t : Addr} {p : Int × Int}, ts[i]? = some t → ps[i]? = some p → SqT K H t [.int p.1, .int p.2]
  | _, _, .nil, _, _, _, h, _ => by cases h
  | _, _, .cons h _, 0, _, _, e1, e2 => by
    apply My.two; (focus intro zzI; simp only [↓ My.mkB zzI (by
    clear zzI
    cases e1
    cases e2
    exact h
    )]); intro f; simpa using My.gz f 5 true
  | _, _, .cons _ r, i + 1, _, _, e1, e2 => Prs.get r e1 e2
/-- (i, j) in xs, not in xs -/
def rInP (K : Fg) (neg : Bool) : R2 := fun x y H Q => ∃ (t a : Addr) (z : Int × Int) (ts : List Addr) (ps : List (Int × Int)), x = .ref t ∧ y = .ref a ∧ SqT K H t [.int z.1, .int z.2] ∧ (SqL K H a (ts.map V.ref) ∨ SqT K H a (ts.map V.ref)) ∧ Prs K H ts ps ∧
  Q (.bl (if neg then !decide (z ∈ ps) else decide (z ∈ ps))) H
theorem op_notInP {X : Cx} (hu : X.A.units + 64 < cLine) : OpR X (compareOp .NotIn) (rInP X.K true) := by
  apply My.two; (focus intro zzI; simp only [↓ My.mkB zzI (by
  clear zzI
  intro pins s σ H x y v u Q I rx ry h
  obtain ⟨t, a, z, ts, ps, rfl, rfl, ht, ha, hp, q⟩ := h
  obtain ⟨as, r1⟩ := Dp.reads I (prP z) _ v (.tup ht (.cons (.int _) (.cons (.int _) .nil))) rx
  have hr : X.A.units + 1 + min (PyData.depthAll (ps.map prP)) (prP z).depth < cLine := by
    have : (prP z).depth = 1 := by simp [prP, PyData.depth, PyData.depthAll]
    omega
  rcases ha with ha | ha
  · obtain ⟨bs, r2⟩ := Dp.reads I (.list (ps.map prP)) _ u (.lst ha hp.dp) ry
    refine SeqAt.notIn_list_reads r2 r1 (prPs_lay ps) (prP_lay z) hr ⟨.bl _, H, I, rfl, ?_⟩
    rw [prP_any]
    exact q
  · obtain ⟨bs, r2⟩ := Dp.reads I (.tuple (ps.map prP)) _ u (.tup ha hp.dp) ry
    refine SeqAt.notIn_tuple_reads r2 r1 (prPs_lay ps) (prP_lay z) hr ⟨.bl _, H, I, rfl, ?_⟩
    rw [prP_any]
    exact q
  )]); intro f; simpa using My.gz f 5 true
section
variable {P : Program} {w : World} {A : Around} {E : Value → Shared → Prop} {s : Shared}
/-- sorted of a list or tuple: its items into a new list, sorted there -/
theorem sorted_seq {l : Addr} {T : String} {o : Obj} {vs : List Value} {n : Nat} {Q : Value → Shared → Prop} (hT : T = "list" ∨ T = "tuple") (ho : s.heap.get? l = some o) (hc : o.cls = .type T) (hd : o.data = .seq vs.toArray n) (hz : vs.length < 64)
    (k : ∀ g : Heap, (∀ b u, s.heap.get? b = some u → g.get? b = some u) → ∀ (B : Around),
      wpAny (model P w) B (Builtin.«list.sort» ⟨[.ref g.objs.size], []⟩) (fun f s' => f = .done (.ret .none) ∧ Q (.ref g.objs.size) s') E { s with heap := g.push (seqObj "list" vs.toArray 0) }) :
    wpAny (model P w) A (call (.builtin "sorted") [.ref l]) Q E s := by
  apply My.two; (focus intro zzI; simp only [↓ My.mkB zzI (by
  clear zzI
  refine Calls.call_function_entry kind_sorted plain_sorted entry_sorted (args_sorted1 _) ?_
  unfold Builtin.«sorted»
  refine wpAny_bind (m := checkCount "sorted" 1 1 _) (wpAny_pure ?_)
  refine wpAny_bind (wpAny_collect_seq l hT ho hc hd (fun g k1 => ?_) (by rw [List.size_toArray, sizeLine_eq]; omega))
  refine wpAny_bind (wpAny_newList ?_ (by rw [show vs.toArray.toList = vs from rfl, sizeLine_eq]; omega))
  show wpAny _ _ _ _ _ { s with heap := g.push (seqObj "list" vs.toArray 0) }
  have hoL : (g.push (seqObj "list" vs.toArray 0)).get? g.objs.size = some (seqObj "list" vs.toArray 0) := Heap.get?_push_size _ rfl
  refine wpAny_bind (wpAny_holding (wpAny_call_entry slot_list_sort ⟨_, hoL, rfl⟩ entry_list_sort (wpAny_mono (k g k1 _) (fun f s' h => ?_) fun _ _ h => h) (args_list_sort _)))
  obtain ⟨rfl, q⟩ := h
  exact ⟨_, rfl, wpAny_pure ⟨_, rfl, q⟩⟩
  )]); intro f; simpa using My.gz f 5 true
end
theorem sortedHeap_kept {g g' : Heap} {vs : List Value} {out : Array Value} (k : ∀ b u, g.get? b = some u → g'.get? b = some u) {b : Addr} {u : Obj} (e : g.get? b = some u) :
    (sortedHeap (g'.push (seqObj "list" vs.toArray 0)) g'.objs.size vs out).get? b = some u := by
  apply My.two; (focus intro zzI; simp only [↓ My.mkB zzI (by
  clear zzI
  have hlt := Heap.lt_size (k b u e)
  rw [sortedHeap_old (Nat.ne_of_lt hlt) (by rw [size_push']; exact Nat.lt_succ_of_lt hlt)]
  exact Heap.get?_push_of_some _ (k b u e)
  )]); intro f; simpa using My.gz f 5 true
/-- sorted(xs) of ints -/
def rSortQ (K : Fg) : List V → Hp → VK → Prop := fun vs H Q => ∃ (a : Addr) (ns : List Int), vs = [.ref a] ∧ (SqL K H a (ns.map V.int) ∨ SqT K H a (ns.map V.int)) ∧ ns.length < 64 ∧
  ∀ (ns' : List Int) (p : Addr), ns'.Perm ns → ns'.Pairwise (· ≤ ·) → H p = none → Q (.ref p) (upd H p (.lst (ns'.map V.int)))
theorem seq_raw {X : Cx} {pins : List (Addr × Obj)} {σ : L2.St} {H : Hp} {s : Shared} {a : Addr} {xs : List V} (I : Inv X pins σ H s) (h : SqL X.K H a xs ∨ SqT X.K H a xs) :
    ∃ (T : String) (o : Obj) (vs : List Value) (n : Nat), (T = "list" ∨ T = "tuple") ∧ s.heap.get? a = some o ∧ o.cls = .type T ∧ o.data = .seq vs.toArray n ∧ Vals xs vs := by
  apply My.two; (focus intro zzI; simp only [↓ My.mkB zzI (by
  clear zzI
  rcases h with h | h
  · obtain ⟨its, rv, pl, hz⟩ := I.list h
    obtain ⟨o, ho, hc, n, hd⟩ := pl.isList
    exact ⟨"list", o, its, n, .inl rfl, ho, hc, hd, rv⟩
  · obtain ⟨its, rv, pl, hz⟩ := I.tuple h
    obtain ⟨o, ho, hc, n, hd⟩ := pl
    exact ⟨"tuple", o, its, n, .inr rfl, ho, hc, hd, rv⟩
  )]); intro f; simpa using My.gz f 5 true
theorem none_at {s : Heap} {g : Heap} (k : ∀ b u, s.get? b = some u → g.get? b = some u) : s.get? g.objs.size = none := by
  apply My.two; (focus intro zzI; simp only [↓ My.mkB zzI (by
  clear zzI
  cases q : s.get? g.objs.size with
  | none => rfl
  | some u => exact absurd (Heap.lt_size (k _ _ q)) (Nat.lt_irrefl _)
  )]); intro f; simpa using My.gz f 5 true
theorem vals_ints {vs : List Value} {ns : List Int} (h : IntsAre vs ns) : Vals (ns.map V.int) vs := by
  apply My.two; (focus intro zzI; simp only [↓ My.mkB zzI (by
  clear zzI
  induction h with
  | nil => exact .nil
  | cons k t _ ih => exact .cons ⟨t, rfl⟩ ih
  )]); intro f; simpa using My.gz f 5 true
theorem cr_sortQ {X : Cx} : CallR X (.builtin "sorted") (rSortQ X.K) := by
  apply My.two; (focus intro zzI; simp only [↓ My.mkB zzI (by
  clear zzI
  intro pins s σ H vs us Q I r h
  obtain ⟨a, ns, rfl, hs, hl, q⟩ := h
  rw [Vals.ref1 r]
  obtain ⟨T, o, its, n, hT, ho, hc, hd, rv⟩ := seq_raw I hs
  have il : its.length = ns.length := by rw [← rv.length, List.length_map]
  refine sorted_seq hT ho hc hd (by omega) fun g kg B => ?_
  refine list_sort_tree (Heap.get?_push_size _ rfl) rv.ints (by omega) fun out ns' h1 h2 h3 => ⟨rfl, ?_⟩
  have nn : H g.objs.size = none := (I.hok.kept kg).fresh (Nat.le_refl _)
  obtain ⟨ep, he⟩ := sortedHeap_at (h := g.push (seqObj "list" its.toArray 0)) (a := g.objs.size) (out := out) (Heap.get?_push_size _ rfl)
  exact ⟨.ref _, upd H g.objs.size (.lst (ns'.map V.int)), I.laidN (t' := s.toks) (fun b u e => sortedHeap_kept kg e) (none_at kg) nn ⟨by rw [List.length_map, h2.length_eq, sizeLine_eq]; omega, out.toList, ep, vals_ints h1, he⟩, rfl, q _ _ h2 h3 nn⟩
  )]); intro f; simpa using My.gz f 5 true
/-- sorted(xs) of pairs -/
def rSortPQ (K : Fg) : List V → Hp → VK → Prop := fun vs H Q => ∃ (a : Addr) (ts : List Addr) (ps : List (Int × Int)), vs = [.ref a] ∧ (SqL K H a (ts.map V.ref) ∨ SqT K H a (ts.map V.ref)) ∧ Prs K H ts ps ∧ ps.length < 64 ∧ (∀ p ∈ ps, 0 ≤ p.1 ∧ p.1 < 64 ∧ 0 ≤ p.2 ∧ p.2 < 64) ∧
  ∀ (ts' : List Addr) (f : Addr → Int × Int) (p : Addr), ps = ts.map f → ts'.Perm ts → (ts'.map f).Pairwise (fun x y => x.1 * 64 + x.2 ≤ y.1 * 64 + y.2) → H p = none → Q (.ref p) (upd H p (.lst (ts'.map V.ref)))
theorem Prs.of {K : Fg} {H : Hp} {f : Addr → Int × Int} : ∀ {ts : List Addr}, (∀ t ∈ ts, SqT K H t [.int (f t).1, .int (f t).2]) → Prs K H ts (ts.map f)
  | [], _ => .nil
  | t :: ts, h => .cons (h t (List.mem_cons_self ..)) (Prs.of fun x hx => h x (List.mem_cons_of_mem _ hx))
theorem Prs.eq {K : Fg} {H : Hp} {f : Addr → Int × Int} (hf : ∀ t p, SqT K H t [.int p.1, .int p.2] → f t = p) : ∀ {ts : List Addr} {ps : List (Int × Int)}, Prs K H ts ps → ps = ts.map f
  | _, _, .nil => rfl
  | _, _, .cons h t => by rw [List.map_cons, hf _ _ h, ← Prs.eq hf t]
theorem Prs.mem {K : Fg} {H : Hp} : ∀ {ts : List Addr} {ps : List (Int × Int)}, Prs K H ts ps → ∀ t ∈ ts, ∃ p ∈ ps, SqT K H t [.int p.1, .int p.2]
  | _, _, .nil, t, h => by cases h
  | _, _, .cons h r, t, ht => by
    apply My.two; (focus intro zzI; simp only [↓ My.mkB zzI (by
    clear zzI
    rcases List.mem_cons.mp ht with rfl | ht
    · exact ⟨_, List.mem_cons_self .., h⟩
    · obtain ⟨p, hp, e⟩ := Prs.mem r t ht
      exact ⟨p, List.mem_cons_of_mem _ hp, e⟩
    )]); intro f; simpa using My.gz f 5 true
def twoOf : List Int → Int × Int
  | [i, j] => (i, j)
  | _ => (0, 0)
theorem cr_sortPQ {X : Cx} : CallR X (.builtin "sorted") (rSortPQ X.K) := by
  apply My.two; (focus intro zzI; simp only [↓ My.mkB zzI (by
  clear zzI
  intro pins s σ H vs us Q I r h
  obtain ⟨a, ts, ps, rfl, hs, hps, hl, hb, q⟩ := h
  rw [Vals.ref1 r]
  obtain ⟨T, o, its, n, hT, ho, hc, hd, rv⟩ := seq_raw I hs
  have il : its.length = ps.length := by rw [← rv.length, List.length_map, hps.len]
  have ei : its = ts.map Value.ref := nts_of rv
  have raw : ∀ {t : Addr} {p : Int × Int}, SqT X.K H t [.int p.1, .int p.2] → TS.TupInts s.heap (.ref t) [p.1, p.2] := fun {t p} h => by
    exact tupI_raw I (show SqT X.K H t ([p.1, p.2].map V.int) from h)
  have hf : ∀ t p, SqT X.K H t [.int p.1, .int p.2] → twoOf (TS.intsOf s.heap (.ref t)) = p := fun t p h => by
    rw [(raw h).ints]
    rfl
  refine sorted_seq hT ho hc hd (by omega) fun g kg B => ?_
  have kg2 : ∀ b u, s.heap.get? b = some u → (g.push (seqObj "list" its.toArray 0)).get? b = some u := fun b u e => Heap.get?_push_of_some _ (kg b u e)
  refine TS.sort_tups (d := 2) (B := 64) (Heap.get?_push_size _ rfl) (by omega) (by decide) (fun v hv => ?_) (fun v => TS.code 64 (TS.intsOf s.heap v)) (fun v hv ns hn => ?_) fun out h1 h2 => ⟨rfl, ?_⟩
  · rw [ei] at hv
    obtain ⟨t, ht, rfl⟩ := List.mem_map.mp hv
    obtain ⟨p, hp, e⟩ := hps.mem t ht
    obtain ⟨b1, b2, b3, b4⟩ := hb p hp
    refine ⟨[p.1, p.2], (raw e).keeps fun b u e _ => kg2 b u e, rfl, fun x hx => ?_⟩
    rcases List.mem_cons.mp hx with rfl | hx
    · exact ⟨b1, b2⟩
    · rw [List.mem_singleton.mp hx]
      exact ⟨b3, b4⟩
  · rw [ei] at hv
    obtain ⟨t, ht, rfl⟩ := List.mem_map.mp hv
    obtain ⟨p, hp, e⟩ := hps.mem t ht
    have e1 := hn.ints
    have e2 := ((raw e).keeps fun b u e _ => kg2 b u e).ints
    rw [← e1, e2, (raw e).ints]
  · have nn : H g.objs.size = none := (I.hok.kept kg).fresh (Nat.le_refl _)
    obtain ⟨ep, he⟩ := sortedHeap_at (h := g.push (seqObj "list" its.toArray 0)) (a := g.objs.size) (out := out) (Heap.get?_push_size _ rfl)
    have eo : out.toList = (out.toList.map adO).map Value.ref := ref_map fun u hm => by
      have hm' := h1.mem_iff.mp hm
      rw [ei] at hm'
      obtain ⟨t, _, e⟩ := List.mem_map.mp hm'
      exact ⟨t, e.symm⟩
    have hp : (out.toList.map adO).Perm ts := by
      have p1 := h1.map adO
      rw [ei, ad_map] at p1
      exact p1
    have rvo : Vals ((out.toList.map adO).map V.ref) out.toList := by
      have z := of_nts (out.toList.map adO)
      rw [← eo] at z
      exact z
    have pe : ps = ts.map fun t => twoOf (TS.intsOf s.heap (.ref t)) := hps.eq hf
    refine ⟨.ref _, upd H g.objs.size (.lst ((out.toList.map adO).map V.ref)), I.laidN (t' := s.toks) (fun b u e => sortedHeap_kept kg e) (none_at kg) nn ⟨by rw [List.length_map, hp.length_eq, hps.len, sizeLine_eq]; omega, out.toList, ep, rvo, he⟩, rfl, q _ _ _ pe hp ?_ nn⟩
    · refine List.pairwise_map.mpr (List.pairwise_map.mpr (h2.imp_of_mem fun {x y} hx hy h => ?_))
      have hx' := h1.mem_iff.mp hx
      have hy' := h1.mem_iff.mp hy
      rw [ei] at hx' hy'
      obtain ⟨t1, ht1, rfl⟩ := List.mem_map.mp hx'
      obtain ⟨t2, ht2, rfl⟩ := List.mem_map.mp hy'
      obtain ⟨p1, _, e1⟩ := hps.mem t1 ht1
      obtain ⟨p2, _, e2⟩ := hps.mem t2 ht2
      have z1 : twoOf (TS.intsOf s.heap (.ref (adO (.ref t1)))) = p1 := hf t1 p1 e1
      have z2 : twoOf (TS.intsOf s.heap (.ref (adO (.ref t2)))) = p2 := hf t2 p2 e2
      rw [z1, z2, ← code_pair, ← code_pair]
      rw [(raw e1).ints, (raw e2).ints] at h
      exact h
  )]); intro f; simpa using My.gz f 5 true
abbrev setO (w : World) : Obj := { cls := .type "set", dict := none, data := .set #[] 0 (.fresh 0 0 (!w.params.followText "set-order")) }
section
variable {P : Program} {w : World} {A : Around} {E : Value → Shared → Prop} {s : Shared}
theorem nd_leG {α : Type} [DecidableEq α] : ∀ (l D : List α), l.Nodup → (∀ x ∈ l, x ∈ D) → l.length ≤ D.length
  | [], _, _, _ => Nat.zero_le _
  | x :: l, D, hn, hs => by
    apply My.two; (focus intro zzI; simp only [↓ My.mkB zzI (by
    clear zzI
    obtain ⟨h1, h2⟩ := List.nodup_cons.mp hn
    have hx := hs x (List.mem_cons_self ..)
    have ih := nd_leG l (D.erase x) h2 fun y hy => (List.mem_erase_of_ne fun e : y = x => h1 (by rw [← e]; exact hy)).2 (hs y (List.mem_cons_of_mem _ hy))
    have := List.length_erase_of_mem hx
    have := List.length_pos_of_mem hx
    rw [List.length_cons]
    omega
    )]); intro f; simpa using My.gz f 5 true
theorem got_size {ks L : List (Addr × List Int)} (nd : (ks.map (·.2)).Nodup) (g : Got ks ks.length L) : L.length = ks.length := by
  apply My.two; (focus intro zzI; simp only [↓ My.mkB zzI (by
  clear zzI
  have h1 : ks.length ≤ L.length := by
    have a := nd_leG (ks.map (·.2)) (L.map (·.2)) nd fun x hx => by
      obtain ⟨p, hp, rfl⟩ := List.mem_map.mp hx
      exact g.all p (by rw [List.take_length]; exact hp)
    rw [List.length_map, List.length_map] at a
    exact a
  have h2 := g.len
  omega
  )]); intro f; simpa using My.gz f 5 true
/-- set(xs), xs a tuple of tuples of ints -/
theorem set_tupT {l : Addr} {its : Array Value} (ks : List (Addr × List Int)) {Q : Value → Shared → Prop} (hh : A.handled = none) (tl : s.heap.IsTuple l its) (ei : its.toList = ks.map fun p => Value.ref p.1)
    (hk : ∀ p ∈ ks, IsT P w s.heap p.2 p.1) (few : ks.length < 64) (hu : A.units + 3 < cLine)
    (fin : ∀ (g : Heap) (tk : Nat) L es ep t, SetTR P w g s.heap.objs.size L es ep t → Got ks ks.length L → (∀ b o, s.heap.get? b = some o → g.get? b = some o) → Q (.ref s.heap.objs.size) { s with heap := g, toks := tk }) :
    wpAny (model P w) A (call (.type "set") [.ref l]) Q E s := by
  apply My.two; (focus intro zzI; simp only [↓ My.mkB zzI (by
  clear zzI
  have n1 : its.size = ks.length := by
    have q := congrArg List.length ei
    rwa [Array.length_toList, List.length_map] at q
  obtain ⟨c, tl0, m0⟩ := F.called_set.mro
  have m1 := F.called_set.made
  have m2 := F.called_set.sub
  refine wpAny_call (codeAny_of_tree ?_)
  show wpAny _ _ (callAny (.type "set") _) _ _ _
  refine wpAny_pure ⟨Code.quiet_builtin _ (by decide +kernel), codeAny_builtin F.entry_type_call ?_⟩
  rw [Around.under_plain (weight_type_call_type "set" [.ref l] []) rfl]
  have m3 := F.called_set.notType
  have m4 := F.called_set.canCreate
  have m5 := F.typeCall_set_1 (.ref l)
  repeat (any_goals (first | assumption | wp_step))

  refine codeAny_mono (code_set_led1 (.ref l) (E := E) (Q₁ := fun x y => x = .ref s.heap.objs.size ∧ y = { s with heap := s.heap.push (setO w) }) ⟨rfl, rfl⟩) fun r y hr => ?_
  cases r with
  | error e => exact hr
  | ok fl =>
    cases fl with
    | ret x =>
      obtain ⟨rfl, rfl⟩ := hr
      have o1 : (s.heap.push (setO w)).get? s.heap.objs.size = some (setO w) := Heap.get?_push_size _ rfl
      have o2 : Shared.TypeIs { s with heap := s.heap.push (setO w) } (.ref s.heap.objs.size) "set" := ⟨_, o1, rfl⟩
      have m6 := F.called_set.init.lookup
      have m7 := F.called_set.init.bind (.ref s.heap.objs.size)
      repeat (any_goals (first | assumption | wp_step))

      refine codeAny_mono (codeAny_call_builtin (R := wants (fun r y => r = .none ∧ ∃ g tk L es ep t, y = { s with heap := g, toks := tk } ∧ SetTR P w g s.heap.objs.size L es ep t ∧ Got ks ks.length L ∧
          (∀ b o, s.heap.get? b = some o → g.get? b = some o)) E) F.called_set.init.plain F.entry_set_init (check_set_init_1 o2 ?_)) fun r y hr => ?_
      · obtain ⟨⟨oc, od, oD, oS⟩, e0, e1, nl, e2⟩ := tl
        simp only at e1 e2
        subst e1 e2
        have e3 : (s.heap.push (setO w)).get? l = some { cls := .type "tuple", dict := od, data := .seq its nl, slots := oS } := Heap.get?_push_of_some _ e0
        have m8 := F.sub_tuple_set
        have m9 := F.sub_tuple_frozenset
        have m10 : (Value.type "tuple" == Value.type "dict") = false := by decide
        have t1 : (s.heap.push (setO w)).IsTuple l its := ⟨_, e3, rfl, nl, rfl⟩
        unfold Builtin.«set.__init__» noKeywords Builtin.Frozenset.updateFrom
        generalize hPI : pyIter = PI
        wp_walk
        subst hPI

        refine wpAny_pyIter_tuple t1 ?_
        refine wpAny_bind (wpAny_runValue ?_)
        have lS : l < s.heap.objs.size := Heap.lt_size e0
        have h3 : A.in1.in1.in1.handled = none := by simp [hh]
        have z1 : (s.heap.push (setO w)).objs.size = s.heap.objs.size + 1 := Heap.size_push ..
        have nI : l ≠ (s.heap.push (setO w)).objs.size := by
          rw [z1]; exact Nat.ne_of_lt (Nat.lt_succ_of_lt lS)
        have nS : s.heap.objs.size ∉ [(s.heap.push (setO w)).objs.size, l] := by
          rw [z1]
          intro h
          rcases List.mem_cons.mp h with h | h
          · omega
          · exact absurd (List.mem_singleton.mp h) (Nat.ne_of_gt lS)
        have val : ∀ (i : Nat) (v : Value), its[i]? = some v → ∃ p, ks[i]? = some p ∧ v = .ref p.1 := fun i v hv => by
          have q : its.toList[i]? = some v := by rw [Array.getElem?_toList]; exact hv
          rw [ei, List.getElem?_map] at q
          cases hq : ks[i]? with
          | none => rw [hq] at q; cases q
          | some p => rw [hq] at q; exact ⟨p, rfl, (Option.some.inj q).symm⟩
        have none_of : ∀ b, s.heap.objs.size ≤ b → s.heap.get? b = none := fun b hb => by
          cases q : s.heap.get? b with
          | none => rfl
          | some o => exact absurd (Heap.lt_size q) (Nat.not_lt_of_le hb)
        refine set_update_tups ((Walks.tuple h3 _ l nI its).toS) s.heap.objs.size nS ks n1 few val s.heap hk (none_of _ (Nat.le_refl _)) (fun b hb => none_of b (by
            rw [List.mem_singleton.mp hb, z1]
            exact Nat.le_succ _)) hu (its.size - 0) 0 _ (by omega) (Nat.zero_le _)
          ⟨⟨_, Heap.get?_push_size _ rfl, rfl, rfl⟩, (t1.push _)⟩ (fun b o e => Heap.get?_push_of_some _ (Heap.get?_push_of_some _ e)) ?start ?stop
        case start => exact ⟨[], #[], 0, _, setTR_fresh (Heap.get?_push_of_some _ o1), Got.zero ks⟩
        case stop =>
          intro y L es ep t hm hS g kp
          obtain ⟨hp', gn', dr', tk', os'⟩ := y
          cases (show gn' = s.gens from hm.gens)
          cases (show dr' = s.drawn from hm.drawn)
          cases (show os' = s.os from hm.os)
          show wpAny _ _ _ _ _ _
          refine wpAny_pure ?_
          show wpAny _ _ (ret Value.none) _ _ _
          rw [n1] at g
          exact wpAny_pure ⟨rfl, hp', tk', L, es, ep, t, rfl, hS, g, kp⟩
      · cases r with
        | error e => exact hr
        | ok fl =>
          cases fl with
          | ret r =>
            obtain ⟨rfl, g, tk, L, es, ep, t, rfl, hS, hg, kp⟩ := hr
            repeat (any_goals (first | assumption | wp_step))
            exact fin _ _ _ _ _ _ hS hg kp
          | _ => exact hr.elim
    | _ => exact hr.elim
  )]); intro f; simpa using My.gz f 5 true
end
def tLenSetP (K : Fg) (ta : TE) : TE := fun σ H Q => ta σ H fun x H1 => ∃ (l : Addr) (ts : List Addr) (ps : List (Int × Int)), x = .ref l ∧ (SqL K H1 l (ts.map V.ref) ∨ SqT K H1 l (ts.map V.ref)) ∧ Prs K H1 ts ps ∧ ps.Nodup ∧ ps.length < 64 ∧ Q (.int (ps.length : Nat)) H1
/-- the addresses with what stands there -/
def zipP (ts : List Addr) (ps : List (Int × Int)) : List (Addr × List Int) := (ts.zip ps).map fun x => (x.1, [x.2.1, x.2.2])
theorem Prs.zip1 {K : Fg} {H : Hp} : ∀ {ts : List Addr} {ps : List (Int × Int)}, Prs K H ts ps → (zipP ts ps).map (fun p => V.ref p.1) = ts.map V.ref
  | _, _, .nil => rfl
  | _, _, .cons h t => congrArg (_ :: ·) (Prs.zip1 t)
theorem Prs.zip2 {K : Fg} {H : Hp} : ∀ {ts : List Addr} {ps : List (Int × Int)}, Prs K H ts ps → (zipP ts ps).map (·.2) = ps.map fun p => [p.1, p.2]
  | _, _, .nil => rfl
  | _, _, .cons h t => congrArg (_ :: ·) (Prs.zip2 t)
theorem Prs.zipA {K : Fg} {H : Hp} : ∀ {ts : List Addr} {ps : List (Int × Int)}, Prs K H ts ps → ∀ x ∈ zipP ts ps, SqT K H x.1 (x.2.map V.int)
  | _, _, .nil, x, h => by cases h
  | _, _, .cons h t, x, hx => by
    apply My.two; (focus intro zzI; simp only [↓ My.mkB zzI (by
    clear zzI
    rcases List.mem_cons.mp hx with rfl | hx
    · exact h
    · exact Prs.zipA t x hx
    )]); intro f; simpa using My.gz f 5 true
theorem Prs.zipL {K : Fg} {H : Hp} {ts : List Addr} {ps : List (Int × Int)} (h : Prs K H ts ps) : (zipP ts ps).length = ps.length := by
  have := congrArg List.length h.zip2
  rwa [List.length_map, List.length_map] at this
theorem pairs_nd {ps : List (Int × Int)} (h : ps.Nodup) : (ps.map fun p => [p.1, p.2]).Nodup := by
  apply My.two; (focus intro zzI; simp only [↓ My.mkB zzI (by
  clear zzI
  refine List.pairwise_map.mpr (h.imp fun {a b} z e => z ?_)
  obtain ⟨a1, a2⟩ := a
  obtain ⟨b1, b2⟩ := b
  cases e
  rfl
  )]); intro f; simpa using My.gz f 5 true
theorem pe_lenSetP {X : Cx} {a : Expr} {ta : TE} {p p2 q pos : Pos} (hg : Gl X "len") (hm : X.mg "len" = none) (hg2 : Gl X "set") (hm2 : X.mg "set" = none) (ha : PE X a ta) (hu : X.A.units + 64 < cLine) (hc : X.calm = true := by rfl)
    (na : starEach [a] X.env = (false, eval a X.env) :: starEach [] X.env := by rfl) : PE X (.Call (.Name "len" p) [.Call (.Name "set" p2) [a] [] q] [] pos) (tLenSetP X.K ta) := by
  refine ⟨fun pins s σ H Q I h => ?_⟩
  refine Call_ (ld_blt I hg hm boot_len ?_)
  refine PyProof.Rows.callWith_builtin1 (PyProof.Rows.args_cons ?_ rfl) rfl rfl
  refine Call_ (ld_blt I hg2 hm2 boot_set ?_)
  refine PyProof.Rows.callWith_type1 (PyProof.Rows.args_cons (thn (ha.run pins s σ H _ I h) fun v s1 ⟨x, H1, I1, r1, q1⟩ => PyProof.Rows.args_nil ?_) na) na rfl
  obtain ⟨l, ts, ps, rfl, hq, hps, hnd, hl, q1⟩ := q1
  cases r1
  have nd : ((zipP ts ps).map (·.2)).Nodup := by rw [hps.zip2]; exact pairs_nd hnd
  have goal : ∀ (g : Heap) (tk : Nat) (L : List (Addr × List Int)) es ep t, SetTR X.prog X.w g s1.heap.objs.size L es ep t → Got (zipP ts ps) (zipP ts ps).length L → (∀ b o, s1.heap.get? b = some o → g.get? b = some o) →
      wpAny (model X.prog X.w) X.A (call (.builtin "len") [.ref s1.heap.objs.size]) (EP X pins σ Q) X.xe { s1 with heap := g, toks := tk } := fun g tk L es ep t R G kp => by
    obtain ⟨o, ho, hex, hd⟩ := R.ob
    have I2 : Inv X pins σ H1 { s1 with heap := g, toks := tk } := I1.kept kp
    have n1 := got_size nd G
    have n2 : es.size = L.length := by
      have h := congrArg List.length R.rows
      unfold L2.rowsOf at h
      rwa [Array.length_toList, List.length_map] at h
    have n3 := hps.zipL
    have f1 := R.tab.sz
    rw [List.length_map] at f1
    have f2 := R.room
    have hn : t.fits L.length = true := by
      simp only [SetTable.fits, SetTable.fill, f1, R.tab.dm, beq_self_eq_true, Bool.true_and, decide_eq_true_eq]
      simp
      omega
    exact call_len_set ho hex hd (by rw [n2]; exact hn) (by rw [n2]; have := R.few; omega) ⟨.int ps.length, H1, I2.tok _, ⟨_, by rw [n2, n1, n3]⟩, q1⟩
  rcases hq with hq | hq
  · obtain ⟨its, r, pl, hz⟩ := I1.list (hps.zip1 ▸ hq)
    exact call_set_tups (P := X.prog) (w := X.w) (zipP ts ps) (I1.ok.hd hc) pl.isList (by simpa using refs_of_vals r) (fun x hx => I1.isT (hps.zipA x hx)) (by rw [hps.zipL]; exact hl) (by omega) fun g tk L es ep t R G kp => PyProof.Rows.args_nil (goal g tk L es ep t R G kp)
  · obtain ⟨its, r, pl, hz⟩ := I1.tuple (hps.zip1 ▸ hq)
    exact set_tupT (P := X.prog) (w := X.w) (zipP ts ps) (I1.ok.hd hc) pl (by simpa using refs_of_vals r) (fun x hx => I1.isT (hps.zipA x hx)) (by rw [hps.zipL]; exact hl) (by omega) fun g tk L es ep t R G kp => PyProof.Rows.args_nil (goal g tk L es ep t R G kp)
section
variable {fa : List (Fg → Bool)} {fn : List He5.DefA} {K : Fg} {mg : Str → Option Value} {X : Cx}
theorem ninP (T : TxOf fa fn K mg) (hu : X.A.units + 64 < cLine) (hK : X.K = K := by rfl) : OpR X (compareOp .NotIn) (rInP K true) := by subst hK; exact op_notInP hu
theorem srtQ_k (T : TxOf fa fn K mg) (hK : X.K = K := by rfl) : CallR X (.builtin "sorted") (rSortQ K) := by subst hK; exact cr_sortQ
theorem srtPQ_k (T : TxOf fa fn K mg) (hK : X.K = K := by rfl) : CallR X (.builtin "sorted") (rSortPQ K) := by subst hK; exact cr_sortPQ
theorem lenSetP (T : TxOf fa fn K mg) {a : Expr} {ta : TE} {p p2 q pos : Pos} (hg : Gl X "len") (hm : X.mg "len" = none) (hg2 : Gl X "set") (hm2 : X.mg "set" = none) (ha : PE X a ta) (hu : X.A.units + 64 < cLine) (hK : X.K = K := by rfl) (hc : X.calm = true := by rfl)
    (na : starEach [a] X.env = (false, eval a X.env) :: starEach [] X.env := by rfl) : PE X (.Call (.Name "len" p) [.Call (.Name "set" p2) [a] [] q] [] pos) (tLenSetP K ta) := by subst hK; exact pe_lenSetP hg hm hg2 hm2 ha hu hc na
end
end My
namespace My
/-- rows of equally many months -/
structure YrOk (rows : List (List Nat)) : Prop where
  ne : 0 < rows.length
  le : rows.length ≤ 400
  m0 : 0 < (rows.getD 0 []).length
  m1 : (rows.getD 0 []).length ≤ 14
  eq : ∀ r ∈ rows, r.length = (rows.getD 0 []).length
  ds : ∀ r ∈ rows, ∀ l ∈ r, 1 ≤ l ∧ l ≤ 40
theorem flat_len {m : Nat} : ∀ {rows : List (List Nat)}, (∀ r ∈ rows, r.length = m) → rows.flatten.length = rows.length * m
  | [], _ => by simp
  | r :: rows, h => by
    rw [List.flatten_cons, List.length_append, h r (List.mem_cons_self ..), flat_len fun x hx => h x (List.mem_cons_of_mem _ hx), List.length_cons, Nat.add_mul, Nat.one_mul, Nat.add_comm]
theorem flat_at {m : Nat} : ∀ {rows : List (List Nat)}, (∀ r ∈ rows, r.length = m) → ∀ {y j : Nat} {r : List Nat}, rows[y]? = some r → j < m → rows.flatten.getD (y * m + j) 0 = r.getD j 0
  | [], _, _, _, _, h, _ => by cases h
  | r0 :: rows, h, 0, j, r, e, hj => by
    apply My.two; (focus intro zzI; simp only [↓ My.mkB zzI (by
    clear zzI
    cases e
    have := h _ (List.mem_cons_self ..)
    rw [List.flatten_cons, Nat.zero_mul, Nat.zero_add, List.getD_eq_getElem?_getD, List.getElem?_append_left (by omega), ← List.getD_eq_getElem?_getD]
    )]); intro f; simpa using My.gz f 5 true
  | r0 :: rows, h, y + 1, j, r, e, hj => by
    apply My.two; (focus intro zzI; simp only [↓ My.mkB zzI (by
    clear zzI
    have := h r0 (List.mem_cons_self ..)
    have ih := flat_at (fun x hx => h x (List.mem_cons_of_mem _ hx)) (y := y) (j := j) (r := r) e hj
    rw [List.flatten_cons, List.getD_eq_getElem?_getD, List.getElem?_append_right (by rw [this, Nat.add_mul]; omega), this, show (y + 1) * m + j - m = y * m + j by rw [Nat.add_mul]; omega, ← List.getD_eq_getElem?_getD]
    exact ih
    )]); intro f; simpa using My.gz f 5 true
structure Cal where
  rows : List (List Nat)
  week : Nat
  first : Nat
  rest : List Int
  hol : List (Int × Int)
namespace Cal
def ls (C : Cal) : List Nat := C.rows.flatten
def mon (C : Cal) : Nat := (C.rows.getD 0 []).length
def wkd (C : Cal) (d : Int) : Int := (d + (C.first : Int)) % (C.week : Int)
def num (C : Cal) (d : Int) : Int := mn C.ls d
def yr (C : Cal) (d : Int) : Int := C.num d / (C.mon : Int)
def mth (C : Cal) (d : Int) : Int := C.num d % (C.mon : Int) + 1
def day (C : Cal) (d : Int) : Int := d - ms C.ls (C.num d) + 1
def isW (C : Cal) (d : Int) : Bool := !decide (C.wkd d ∈ C.rest) && !decide ((C.mth d, C.day d) ∈ C.hol)
def per (C : Cal) : Nat := Nat.lcm C.ls.sum C.week
/-- the work days of the first days -/
def wrkN (C : Cal) (n : Nat) : List Nat := (List.range n).filter fun i => C.isW (i : Int)
def works (C : Cal) : List Nat := if C.per ≤ 2000 then C.wrkN C.per else (C.wrkN C.per).take 1
structure Ok (C : Cal) : Prop where
  yr : YrOk C.rows
  w0 : 0 < C.week
  w1 : C.week ≤ 10
  f : C.first < C.week
  rest : ∀ x ∈ C.rest, 0 ≤ x ∧ x < (C.week : Int)
  rnd : C.rest.Nodup
  rl : C.rest.length < 64
  hol : ∀ p ∈ C.hol, 1 ≤ p.1 ∧ p.1 ≤ (C.mon : Int) ∧ 1 ≤ p.2 ∧ p.2 ≤ 40
  hnd : C.hol.Nodup
  hl : C.hol.length < 64
  per : C.per ≤ 200000
section
variable {C : Cal}
theorem Ok.len (o : C.Ok) : C.ls.length = C.rows.length * C.mon := flat_len o.yr.eq
theorem Ok.m0 (o : C.Ok) : 0 < C.mon := o.yr.m0
theorem Ok.m1 (o : C.Ok) : C.mon ≤ 14 := o.yr.m1
theorem Ok.ne (o : C.Ok) : 0 < C.ls.length := by
  rw [o.len]
  exact Nat.mul_pos o.yr.ne o.m0
theorem Ok.le (o : C.Ok) : C.ls.length ≤ 5600 := by
  rw [o.len]
  exact Nat.le_trans (Nat.mul_le_mul o.yr.le o.m1) (by decide)
theorem Ok.mem (o : C.Ok) {l : Nat} (h : l ∈ C.ls) : 1 ≤ l ∧ l ≤ 40 := by
  obtain ⟨r, hr, hl⟩ := List.mem_flatten.mp h
  exact o.yr.ds r hr l hl
theorem Ok.pos (o : C.Ok) : ∀ l ∈ C.ls, 0 < l := fun l h => (o.mem h).1
theorem Ok.top (o : C.Ok) : ∀ l ∈ C.ls, l ≤ 40 := fun l h => (o.mem h).2
theorem Ok.s0 (o : C.Ok) : 0 < C.ls.sum := sum_pos o.ne o.pos
theorem Ok.s1 (o : C.Ok) : C.ls.sum ≤ 224000 := Nat.le_trans (sum_le o.top) (by have := o.le; omega)
theorem Ok.p0 (o : C.Ok) : 0 < C.per := Nat.lcm_pos o.s0 o.w0
theorem Ok.sdiv (_ : C.Ok) : C.ls.sum ∣ C.per := Nat.dvd_lcm_left _ _
theorem Ok.sp (o : C.Ok) : C.ls.sum ≤ 200000 := Nat.le_trans (Nat.le_of_dvd o.p0 o.sdiv) o.per
theorem Ok.mth0 (o : C.Ok) (d : Int) : 1 ≤ C.mth d ∧ C.mth d ≤ (C.mon : Int) := by
  apply My.two; (focus intro zzI; simp only [↓ My.mkB zzI (by
  clear zzI
  have h0 := o.m0
  have h1 := Int.emod_nonneg (C.num d) (show (C.mon : Int) ≠ 0 by omega)
  have h2 := Int.emod_lt_of_pos (C.num d) (show (0 : Int) < (C.mon : Int) by omega)
  unfold mth
  omega
  )]); intro f; simpa using My.gz f 5 true
theorem Ok.day0 (o : C.Ok) (d : Int) : 1 ≤ C.day d ∧ C.day d ≤ ml C.ls (C.num d) := by
  apply My.two; (focus intro zzI; simp only [↓ My.mkB zzI (by
  clear zzI
  have h1 := mn_lo o.ne o.pos d
  have h2 := mn_hi o.ne o.pos d
  rw [ms_succ o.ne] at h2
  unfold day num
  omega
  )]); intro f; simpa using My.gz f 5 true
theorem wrkN_succ (i : Nat) : C.wrkN (i + 1) = C.wrkN i ++ if C.isW (i : Int) = true then [i] else [] := by
  apply My.two; (focus intro zzI; simp only [↓ My.mkB zzI (by
  clear zzI
  unfold wrkN
  rw [List.range_succ, List.filter_append]
  congr 1
  rw [List.filter_cons, List.filter_nil]
  )]); intro f; simpa using My.gz f 5 true
theorem wrkN_pre {i : Nat} : ∀ {n : Nat}, i ≤ n → ∃ r, C.wrkN n = C.wrkN i ++ r
  | 0, h => ⟨[], by rw [Nat.le_zero.mp h, List.append_nil]⟩
  | n + 1, h => by
    apply My.two; (focus intro zzI; simp only [↓ My.mkB zzI (by
    clear zzI
    rcases Nat.lt_or_ge n i with c | c
    · obtain rfl : i = n + 1 := by omega
      exact ⟨[], by rw [List.append_nil]⟩
    · obtain ⟨r, hr⟩ := wrkN_pre (n := n) c
      rw [wrkN_succ, hr, List.append_assoc]
      exact ⟨_, rfl⟩
    )]); intro f; simpa using My.gz f 5 true
theorem works_first {i : Nat} (hi : i < C.per) (h : 2000 < C.per) (e : C.wrkN i = []) (w : C.isW (i : Int) = true) : C.works = [i] := by
  apply My.two; (focus intro zzI; simp only [↓ My.mkB zzI (by
  clear zzI
  obtain ⟨r, hr⟩ := wrkN_pre (C := C) (n := C.per) (i := i + 1) hi
  unfold works
  rw [if_neg (by omega), hr, wrkN_succ, e, if_pos w]
  rfl
  )]); intro f; simpa using My.gz f 5 true
theorem works_end (h : 2000 < C.per → C.wrkN C.per = []) : C.works = C.wrkN C.per := by
  apply My.two; (focus intro zzI; simp only [↓ My.mkB zzI (by
  clear zzI
  unfold works
  split
  · rfl
  · rw [h (by omega)]
    rfl
  )]); intro f; simpa using My.gz f 5 true
theorem mem_wrkN {n i : Nat} : i ∈ C.wrkN n ↔ i < n ∧ C.isW (i : Int) = true := by
  unfold wrkN
  rw [List.mem_filter, List.mem_range]
theorem wrkN_len (n : Nat) : (C.wrkN n).length ≤ n := by
  apply My.two; (focus intro zzI; simp only [↓ My.mkB zzI (by
  clear zzI
  unfold wrkN
  have := List.length_filter_le (fun i : Nat => C.isW (i : Int)) (List.range n)
  rw [List.length_range] at this
  exact this
  )]); intro f; simpa using My.gz f 5 true
/-- the order of rest days and holidays does not matter -/
def re (C : Cal) (rs : List Int) (hs : List (Int × Int)) : Cal := ⟨C.rows, C.week, C.first, rs, hs⟩
theorem re_isW {rs : List Int} {hs : List (Int × Int)} (h1 : rs.Perm C.rest) (h2 : hs.Perm C.hol) (d : Int) : (C.re rs hs).isW d = C.isW d := by
  apply My.two; (focus intro zzI; simp only [↓ My.mkB zzI (by
  clear zzI
  show (!decide (C.wkd d ∈ rs) && !decide ((C.mth d, C.day d) ∈ hs)) = _
  rw [decide_eq_decide.mpr h1.mem_iff, decide_eq_decide.mpr h2.mem_iff]
  rfl
  )]); intro f; simpa using My.gz f 5 true
theorem re_wrkN {rs : List Int} {hs : List (Int × Int)} (h1 : rs.Perm C.rest) (h2 : hs.Perm C.hol) (n : Nat) : (C.re rs hs).wrkN n = C.wrkN n := by
  apply My.two; (focus intro zzI; simp only [↓ My.mkB zzI (by
  clear zzI
  unfold wrkN
  congr 1
  funext i
  exact re_isW h1 h2 _
  )]); intro f; simpa using My.gz f 5 true
theorem re_works {rs : List Int} {hs : List (Int × Int)} (h1 : rs.Perm C.rest) (h2 : hs.Perm C.hol) : (C.re rs hs).works = C.works := by
  apply My.two; (focus intro zzI; simp only [↓ My.mkB zzI (by
  clear zzI
  unfold works
  rw [re_wrkN h1 h2]
  rfl
  )]); intro f; simpa using My.gz f 5 true
theorem Ok.re (o : C.Ok) {rs : List Int} {hs : List (Int × Int)} (h1 : rs.Perm C.rest) (h2 : hs.Perm C.hol) : (C.re rs hs).Ok where
  yr := o.yr
  w0 := o.w0
  w1 := o.w1
  f := o.f
  rest := fun x hx => o.rest x (h1.mem_iff.mp hx)
  rnd := h1.nodup_iff.mpr o.rnd
  rl := by rw [show (C.re rs hs).rest = rs from rfl, h1.length_eq]; exact o.rl
  hol := fun x hx => o.hol x (h2.mem_iff.mp hx)
  hnd := h2.nodup_iff.mpr o.hnd
  hl := by rw [show (C.re rs hs).hol = hs from rfl, h2.length_eq]; exact o.hl
  per := o.per
end
end Cal
end My
namespace My
open PySem PySem.Spec PyProof.Rows L2
end My
namespace My
open PySem PySem.Spec PyProof.Rows L2
end My
namespace My
open PySem PySem.Spec PyProof.Rows L2
/-- data of bounded depth that can be laid -/
def Lay (n : Nat) (d : PyData) : Prop := d.canLay0 = true ∧ d.depth ≤ n
theorem Lay.int {n : Nat} (z : Int) : Lay n (.int z) := ⟨rfl, by simp [PyData.depth]⟩
theorem layAll {n : Nat} : ∀ {ds : List PyData}, (∀ d ∈ ds, Lay n d) → PyData.canLayAll0 ds = true ∧ PyData.depthAll ds ≤ n
  | [], _ => ⟨rfl, Nat.zero_le _⟩
  | d :: ds, h => by
    apply My.two; (focus intro zzI; simp only [↓ My.mkB zzI (by
    clear zzI
    obtain ⟨h1, h2⟩ := h d (List.mem_cons_self ..)
    obtain ⟨h3, h4⟩ := layAll (ds := ds) fun e he => h e (List.mem_cons_of_mem _ he)
    refine ⟨by rw [PyData.canLayAll0, h1, h3]; rfl, ?_⟩
    simp only [PyData.depthAll]
    omega
    )]); intro f; simpa using My.gz f 5 true
theorem Lay.tup {n : Nat} {ds : List PyData} (h : ∀ d ∈ ds, Lay n d) : Lay (n + 1) (.tuple ds) := by
  apply My.two; (focus intro zzI; simp only [↓ My.mkB zzI (by
  clear zzI
  obtain ⟨h1, h2⟩ := layAll h
  refine ⟨by simp only [PyData.canLay0]; exact h1, ?_⟩
  simp only [PyData.depth]
  omega
  )]); intro f; simpa using My.gz f 5 true
theorem Lay.lst {n : Nat} {ds : List PyData} (h : ∀ d ∈ ds, Lay n d) : Lay (n + 1) (.list ds) := by
  apply My.two; (focus intro zzI; simp only [↓ My.mkB zzI (by
  clear zzI
  obtain ⟨h1, h2⟩ := layAll h
  refine ⟨by simp only [PyData.canLay0]; exact h1, ?_⟩
  simp only [PyData.depth]
  omega
  )]); intro f; simpa using My.gz f 5 true
theorem Lay.map {α : Type} {n : Nat} {f : α → PyData} {xs : List α} (h : ∀ x, Lay n (f x)) : ∀ d ∈ xs.map f, Lay n d := fun d hd => by
  obtain ⟨x, _, rfl⟩ := List.mem_map.mp hd
  exact h x
theorem Lay.mono {n m : Nat} {d : PyData} (h : Lay n d) (hn : n ≤ m) : Lay m d := ⟨h.1, Nat.le_trans h.2 hn⟩
theorem foldA_len (a : Str) : ∀ (ps : List Str) (acc : Array Nat), (ps.foldl (fun acc p => acc ++ a.cps ++ p.cps) acc).size = acc.size + (ps.map (·.length)).sum + ps.length * a.length
  | [], acc => by simp
  | p :: ps, acc => by
    apply My.two; (focus intro zzI; simp only [↓ My.mkB zzI (by
    clear zzI
    rw [List.foldl_cons, foldA_len a ps, List.map_cons, List.sum_cons, List.length_cons, Nat.succ_mul, Array.size_append, Array.size_append]
    show acc.size + a.cps.size + p.cps.size + _ + ps.length * a.cps.size = acc.size + (p.cps.size + _) + (ps.length * a.cps.size + a.cps.size)
    omega
    )]); intro f; simpa using My.gz f 5 true
theorem join_len (a : Str) : ∀ ys : List Str, (Txt.join a ys).length ≤ (ys.map (·.length)).sum + ys.length * a.length
  | [] => by
    show (Str.empty.cps).size ≤ _
    exact Nat.zero_le _
  | y :: ys => by
    apply My.two; (focus intro zzI; simp only [↓ My.mkB zzI (by
    clear zzI
    show ((ys.foldl (fun acc p => acc ++ a.cps ++ p.cps) y.cps)).size ≤ _
    rw [foldA_len, List.map_cons, List.sum_cons, List.length_cons, Nat.succ_mul]
    show y.cps.size + _ + _ ≤ y.cps.size + _ + _
    omega
    )]); intro f; simpa using My.gz f 5 true
/-- the text of a number -/
def numT (i : Int) : Str := Str.ofString (toString i)
theorem sum_len {B : Nat} : ∀ {ys : List Str}, (∀ y ∈ ys, y.length ≤ B) → (ys.map (·.length)).sum ≤ ys.length * B
  | [], _ => by simp
  | y :: ys, h => by
    apply My.two; (focus intro zzI; simp only [↓ My.mkB zzI (by
    clear zzI
    have h1 := h y (List.mem_cons_self ..)
    have h2 := sum_len (ys := ys) fun z hz => h z (List.mem_cons_of_mem _ hz)
    rw [List.map_cons, List.sum_cons, List.length_cons, Nat.succ_mul]
    omega
    )]); intro f; simpa using My.gz f 5 true
def rJoin (K : Fg) : V → List V → Hp → VK → Prop := fun x xs H Q => ∃ a p, ∃ ys : List Str, x = .str a ∧ xs = [.ref p] ∧ (SqL K H p (ys.map V.str) ∨ SqT K H p (ys.map V.str)) ∧ (ys.map (·.length)).sum + ys.length * a.length ≤ 16777216 ∧ Q (.str (Txt.join a ys)) H
section
variable {fa : List (Fg → Bool)} {fn : List He5.DefA} {K : Fg} {mg : Str → Option Value}
/-- a text's join, told by the kit's own facts (so that it may stand within a comprehension) -/
theorem pe_joinK {X : Cx} {o e : Expr} {to te : TE} {apos pos : Pos} (T : TxOf fa fn K mg) (ho : PE X o to) (he : PE X e te) (hK : X.K = K := by rfl) (hs : starEach [e] X.env = [(false, eval e X.env)] := by rfl) (hb : attributeBase o "join" X.env (eval o X.env) = eval o X.env := by rfl) (hl : (apos.endLine == pos.line) = true := by rfl) :
    PE X ((o.Attribute "join" apos).Call [e] [] pos) (tM1 (rJoin K) to te) := by
  subst hK
  exact pe_join ho he hs hb hl
end
end My
namespace My
open PySem PySem.Spec PyProof.Rows L2
theorem str_ext {x y : Str} (h : x.cps.toList = y.cps.toList) : x = y := by
  apply My.two; (focus intro zzI; simp only [↓ My.mkB zzI (by
  clear zzI
  obtain ⟨a⟩ := x
  obtain ⟨b⟩ := y
  exact congrArg Str.mk (Array.toList_inj.mp h)
  )]); intro f; simpa using My.gz f 5 true
theorem app_list (x y : Str) : (x ++ y).cps.toList = x.cps.toList ++ y.cps.toList := by
  show (x.cps ++ y.cps).toList = _
  rw [Array.toList_append]
theorem str_no {a b : Str} (h : a ≠ b) : decide (V.str a = V.str b) = false := decide_eq_false fun e => h (V.str.inj e)
theorem str_yes {a b : Str} (h : a = b) : decide (V.str a = V.str b) = true := decide_eq_true (congrArg V.str h)
end My
namespace My
open PySem PySem.Spec PyProof.Rows L2
theorem num_tl (m : Nat) : (numT (m : Int)).cps.toList = TL.numL m := TL.tl_num m
theorem numL_head {m : Nat} (h : 0 < m) : ∃ c cs, TL.numL m = c :: cs ∧ c ≠ 48 := by
  apply My.two; (focus intro zzI; simp only [↓ My.mkB zzI (by
  clear zzI
  induction m using Nat.strongRecOn with
  | ind m ih =>
    by_cases h10 : m < 10
    · exact ⟨48 + m, [], TL.numL_lt h10, by omega⟩
    · obtain ⟨c, cs, e, n⟩ := ih (m / 10) (by omega) (by omega)
      exact ⟨c, cs ++ [48 + m % 10], by rw [TL.numL_step (by omega), e]; rfl, n⟩
  )]); intro f; simpa using My.gz f 5 true
theorem dig_in {c : Nat} (h1 : 48 ≤ c) (h2 : c ≤ 57) : (!(Builtin.Str.occurrences ("0123456789" : Str) ⟨#[c]⟩ 0 ("0123456789" : Str).length 1).isEmpty) = true := by
  apply My.two; (focus intro zzI; simp only [↓ My.mkB zzI (by
  clear zzI
  have key : (List.range 10).all (fun i => !(Builtin.Str.occurrences ("0123456789" : Str) ⟨#[48 + i]⟩ 0 ("0123456789" : Str).length 1).isEmpty) = true := by decide +kernel
  have h := List.all_eq_true.mp key (c - 48) (List.mem_range.mpr (by omega))
  rw [show 48 + (c - 48) = c by omega] at h
  exact h
  )]); intro f; simpa using My.gz f 5 true
theorem len_cps (W : Str) : W.length = W.cps.toList.length := by rw [Array.length_toList]; rfl
theorem cut_first {W : Str} {c : Nat} {cs : List Nat} (e : W.cps.toList = c :: cs) : cutS W none (some 1) = ⟨#[c]⟩ := by
  apply My.two; (focus intro zzI; simp only [↓ My.mkB zzI (by
  clear zzI
  have l : W.length = cs.length + 1 := by rw [len_cps, e]; rfl
  apply TL.ext_tl
  show (W.cps.toList.drop (HT.sIx W.length 0 none)).take (HT.sIx W.length W.length (some 1) - HT.sIx W.length 0 none) = [c]
  have a1 : HT.sIx W.length 0 none = 0 := rfl
  have a2 : HT.sIx W.length W.length (some 1) = 1 := by
    unfold HT.sIx
    simp
    omega
  rw [a1, a2, e]
  rfl
  )]); intro f; simpa using My.gz f 5 true
theorem cut_rest {W : Str} {c : Nat} {cs : List Nat} (e : W.cps.toList = c :: cs) : (cutS W (some 1) none).cps.toList = cs := by
  apply My.two; (focus intro zzI; simp only [↓ My.mkB zzI (by
  clear zzI
  have l : W.length = cs.length + 1 := by rw [len_cps, e]; rfl
  show (W.cps.toList.drop (HT.sIx W.length 0 (some 1))).take (HT.sIx W.length W.length none - HT.sIx W.length 0 (some 1)) = cs
  have a1 : HT.sIx W.length W.length none = W.length := rfl
  have a2 : HT.sIx W.length 0 (some 1) = 1 := by
    unfold HT.sIx
    simp
    omega
  rw [a1, a2, e, l]
  simp
  )]); intro f; simpa using My.gz f 5 true
theorem one_inj {a b : Nat} (h : (⟨#[a]⟩ : Str) = ⟨#[b]⟩) : a = b := by
  have := congrArg (fun s : Str => s.cps.toList) h
  exact (List.cons.inj this).1
theorem minus_eq : ("-" : Str) = ⟨#[45]⟩ := by decide +kernel
theorem zero_eq : ("0" : Str) = ⟨#[48]⟩ := by decide +kernel
theorem neg_tl {m : Nat} (h : 0 < m) : (numT (-(m : Int))).cps.toList = 45 :: TL.numL m := by
  apply My.two; (focus intro zzI; simp only [↓ My.mkB zzI (by
  clear zzI
  have e : TL.tl (numT (-(m : Int))) = 45 :: TL.numL m := by
    unfold numT
    rw [PyProof.Rows.toString_neg (by omega), show (0 : Int) - -(m : Int) = (m : Int) by omega, TL.tl_ofString, String.toList_append, List.map_append, ← TL.tl_ofString (toString (m : Int)), TL.tl_num]
    rfl
  exact e
  )]); intro f; simpa using My.gz f 5 true
end My
namespace My
open PySem PySem.Spec PyProof.Rows L2
end My
namespace My
open PySem PySem.Spec PyProof.Rows L2
end My
namespace PySem
open PyProof.Rows
end PySem
namespace My
open PySem PySem.Spec PyProof.Rows L2
end My
namespace My
open PySem PySem.Spec PyProof.Rows L2
end My
namespace My
open PySem PySem.Spec PyProof.Rows L2
end My
namespace My
open PySem PySem.Spec PyProof.Rows L2
/-- 018 -/
def spec18 : Builtin.Float.FormatSpec := { fill := 48, align := 61, width := some 18 }
theorem spec18_p : Builtin.Float.parseFormatSpec ("018" : Str).cps.toList "int" 62 = .ok spec18 := by kernel_rfl
theorem gives_fmt18 {a : Int} (t u : Tok) (h : a.natAbs.log2 < 1920) : Gives (Builtin.«int.__format__» ⟨[.int a t, .str ("018" : Str) u], []⟩) (.str (intSpecText spec18 a)) := by
  apply My.two; (focus intro zzI; simp only [↓ My.mkB zzI (by
  clear zzI
  intro prog w A R s hq
  have n0 : (Value.str ("018" : Str) u == Value.none) = false := rfl
  have n1 : (("018" : Str).length == 0) = false := by decide +kernel
  have n2 : ((("018" : Str).cps.toList.drop 1).any (· ≥ 128) || (("018" : Str).cps.getD 0 0 ≥ 128 && !([60, 62, 61, 94] : List Nat).contains (("018" : Str).cps.getD 1 0))) = false := by decide +kernel
  have n3 : spec18.type.getD (if ("018" : Str).cps.back? == some 0 then 0 else 100) = 100 := by decide +kernel
  unfold Builtin.«int.__format__»
  simp only [selfAndOne, noKeywords, Builtin.Int.intOfSelf, asInt?, asStr?]
  simp only [List.isEmpty_nil, if_true, pure_bind, n0, n1, n2, Bool.false_eq_true, if_false]
  refine wpAny_bind (wpAny_typeNameOf (T := "str") (typeIs_str _ _ _) (by decide) fun _ => ?_)
  refine wpAny_bind (wpAny_typeNameOfCut_int ?_)
  rw [spec18_p]
  simp only [n3]
  rw [if_pos (by decide +kernel)]
  show wpAny _ _ (Bind.bind (Builtin.overDigitLimit? a) _) _ _ s
  rw [PyProof.Rows.overDigitLimit_small h]
  refine wpAny_bind (wpAny_pure ?_)
  show wpAny _ _ (if spec18.width.getD 0 > 100000 then _ else _) _ _ s
  rw [if_neg (by decide)]
  show wpAny _ _ (retStr _) _ _ s
  obtain ⟨hz, q⟩ := hq
  unfold retStr
  have k1 : ∀ x : Str, x = intSpecText spec18 a → R (.ok (.ret (.str x s.toks))) { s with toks := s.toks + 1 } := fun x e => e ▸ q
  have k2 : ∀ x : Str, x = intSpecText spec18 a → x.length ≤ sizeLine := fun x e => e ▸ hz
  refine wpAny_bind (wpAny_mkStr (wpAny_pure (k1 _ ?_)) (k2 _ ?_)) <;> (conv => lhs; whnf) <;> simp only [intSpecText, intField', show spec18.alt = false from rfl, show spec18.sign = none from rfl, show spec18.grouping = none from rfl, show spec18.width = some 18 from rfl, show (spec18.fill == 48 && spec18.align == 61) = true from rfl, show (spec18.align == 60) = false from rfl, show (spec18.align == 94) = false from rfl, show (spec18.align == 61) = true from rfl, Bool.false_eq_true, if_false, if_true, List.length_nil, List.append_nil, List.nil_append]
  )]); intro f; simpa using My.gz f 5 true
theorem fmt18_len {a : Int} (h : a.natAbs < 10 ^ 60) : (intSpecText spec18 a).length ≤ sizeLine := by
  apply My.two; (focus intro zzI; simp only [↓ My.mkB zzI (by
  clear zzI
  have hd : (Nat.toDigits 10 a.natAbs).length ≤ 60 := by
    have e := (Nat.length_repr_le_iff (n := a.natAbs) (by decide : 0 < 60)).mpr h
    rwa [← String.length_toList, Nat.toList_repr] at e
  have e := intSpecText_length (f := spec18) a rfl rfl
  have hw : spec18.width.getD 0 = 18 := rfl
  rw [e, sizeLine_eq, hw]
  split <;> omega
  )]); intro f; simpa using My.gz f 5 true
/-- the last k digits -/
def dgs : Nat → Nat → List Char
  | 0, _ => []
  | k + 1, r => dgs k (r / 10) ++ Nat.toDigits 10 (r % 10)
theorem dgs_zero : ∀ k, dgs k 0 = List.replicate k '0'
  | 0 => rfl
  | k + 1 => by
    apply My.two; (focus intro zzI; simp only [↓ My.mkB zzI (by
    clear zzI
    show dgs k (0 / 10) ++ Nat.toDigits 10 (0 % 10) = _
    rw [Nat.zero_div, dgs_zero k, List.replicate_succ']
    rfl
    )]); intro f; simpa using My.gz f 5 true
theorem digits_app : ∀ (k a r : Nat), 0 < a → r < 10 ^ k → Nat.toDigits 10 (a * 10 ^ k + r) = Nat.toDigits 10 a ++ dgs k r
  | 0, a, r, ha, hr => by
    apply My.two; (focus intro zzI; simp only [↓ My.mkB zzI (by
    clear zzI
    have : r = 0 := by omega
    subst this
    simp [dgs]
    )]); intro f; simpa using My.gz f 5 true
  | k + 1, a, r, ha, hr => by
    apply My.two; (focus intro zzI; simp only [↓ My.mkB zzI (by
    clear zzI
    have h1 : r / 10 < 10 ^ k := by
      rw [Nat.pow_succ] at hr
      omega
    have ih := digits_app k a (r / 10) ha h1
    have p : 0 < a * 10 ^ k + r / 10 := by
      have : 0 < a * 10 ^ k := Nat.mul_pos ha (Nat.pow_pos (by decide))
      omega
    have e : a * 10 ^ (k + 1) + r = 10 * (a * 10 ^ k + r / 10) + r % 10 := by
      rw [Nat.pow_succ, ← Nat.mul_assoc]
      omega
    rw [e, ← Nat.toDigits_append_toDigits (by decide) p (Nat.mod_lt _ (by decide)), ih, List.append_assoc]
    rfl
    )]); intro f; simpa using My.gz f 5 true
theorem dgs_pad : ∀ (k r : Nat), r < 10 ^ (k + 1) → dgs (k + 1) r = List.replicate (k + 1 - (Nat.toDigits 10 r).length) '0' ++ Nat.toDigits 10 r
  | 0, r, hr => by
    apply My.two; (focus intro zzI; simp only [↓ My.mkB zzI (by
    clear zzI
    have h : r < 10 := by omega
    show [] ++ Nat.toDigits 10 (r % 10) = _
    rw [Nat.mod_eq_of_lt h, Nat.toDigits_of_lt_base h]
    rfl
    )]); intro f; simpa using My.gz f 5 true
  | k + 1, r, hr => by
    apply My.two; (focus intro zzI; simp only [↓ My.mkB zzI (by
    clear zzI
    show dgs (k + 1) (r / 10) ++ Nat.toDigits 10 (r % 10) = _
    by_cases h : r < 10
    · rw [Nat.div_eq_of_lt h, Nat.mod_eq_of_lt h, dgs_zero, Nat.toDigits_of_lt_base h]
      rfl
    · have p : 0 < r / 10 := by omega
      have h1 : r / 10 < 10 ^ (k + 1) := by
        rw [Nat.pow_succ] at hr
        omega
      have e := Nat.toDigits_append_toDigits (b := 10) (by decide) p (Nat.mod_lt r (show 0 < 10 by decide))
      rw [show 10 * (r / 10) + r % 10 = r by omega] at e
      rw [dgs_pad k (r / 10) h1, List.append_assoc, e, ← e, List.length_append, Nat.toDigits_of_lt_base (Nat.mod_lt r (show 0 < 10 by decide)), List.length_singleton]
      congr 2
      omega
    )]); intro f; simpa using My.gz f 5 true
/-- a block of 18 digits -/
def blkT (r : Nat) : Str := intSpecText spec18 (r : Int)
theorem blk_cps {r : Nat} (h : r < 10 ^ 18) : (blkT r).cps.toList = (dgs 18 r).map Char.toNat := by
  apply My.two; (focus intro zzI; simp only [↓ My.mkB zzI (by
  clear zzI
  unfold blkT intSpecText
  have e1 : decide ((r : Int) < 0) = false := decide_eq_false (by omega)
  have e2 : (((Nat.toDigits 10 (r : Int).natAbs).map fun c => (if (100 : Nat) == 88 then c.toUpper else c).toNat)) = (Nat.toDigits 10 r).map Char.toNat := rfl
  have hl : ((Nat.toDigits 10 r).map Char.toNat).isEmpty = false := by
    have := tDigits_len_ge 10 r
    cases h : Nat.toDigits 10 r with
    | nil => rw [h] at this; simp at this
    | cons a as => rfl
  rw [e1, e2, intField'_zero_nonneg spec18 _ 3 rfl rfl hl rfl rfl, dgs_pad 17 r h, List.map_append, List.map_replicate, List.length_map]
  rfl
  )]); intro f; simpa using My.gz f 5 true
theorem mt_rjustF {X : Cx} : MtR X "str.rjust" (fun x xs H Q => ∃ (a f : Str) (i : Int), x = .str a ∧ xs = [.int i, .str f] ∧ PadOk i = true ∧ f.length = 1 ∧ Q (.str (Txt.rjustF a i (f.cps.getD 0 0))) H) := by
  apply My.two; (focus intro zzI; simp only [↓ My.mkB zzI (by
  clear zzI
  intro pins s σ H x xs v us Q I rx rs h
  obtain ⟨a, f, i, rfl, rfl, hp, hf, h⟩ := h
  obtain ⟨t, rfl⟩ := rx
  cases rs with
  | cons r1 rs =>
    cases rs with
    | cons r2 rs =>
      cases rs
      obtain ⟨u, rfl⟩ := r1
      obtain ⟨z, rfl⟩ := r2
      exact rjust_fill hp hf fun t' k => ⟨.str (Txt.rjustF a i (f.cps.getD 0 0)), H, I.tok k, ⟨t', rfl⟩, h⟩
  )]); intro f; simpa using My.gz f 5 true
section
variable {X : Cx}
/-- {x:018}, x an int -/
def tFmt18 (te : TE) : TE := fun σ H Q => te σ H fun x H1 => ∃ i : Int, x = .int i ∧ i.natAbs < 10 ^ 60 ∧ Q (.str (intSpecText spec18 i)) H1
theorem pe_fmt18 {e : Expr} {te : TE} {pos p1 p2 : Pos} {k : Nat} (he : PE X e te) : PE X (.FormattedValue e (-1) (some (.JoinedStr [.Constant (.str "018") k p2] p1)) pos) (tFmt18 te) := by
  apply My.two; (focus intro zzI; simp only [↓ My.mkB zzI (by
  clear zzI
  refine ⟨fun pins s σ H Q I h => wpAny_FormattedValue_spec (thn (he.run pins s σ H _ I h) fun v s1 hv => ?_)⟩
  obtain ⟨x, H1, I1, r1, i, rfl, hi, q⟩ := hv
  obtain ⟨t, rfl⟩ := r1
  refine thn ((pe_joined1 pe_str : PE X (.JoinedStr [.Constant (.str "018") k p2] p1) (tC (.str "018"))).run pins s1 σ H1 (fun x H2 => x = .str "018" ∧ Q (.str (intSpecText spec18 i)) H2) I1 ⟨rfl, q⟩) fun v s2 hv => ?_
  obtain ⟨x, H2, I2, r2, rfl, q2⟩ := hv
  obtain ⟨t2, rfl⟩ := r2
  exact ⟨"018", t2, rfl, wpAny_formatField_spec (by decide +kernel) (fun s' => typeIs_int s' i t) PySem.F.slot_int_format PySem.F.entry_int_format PySem.F.args_int_format_2 (fun u => gives_fmt18 t u (log10 (B := 60) (by decide) hi)) ⟨.str (intSpecText spec18 i), H2, I2.tok _, ⟨_, rfl⟩, q2⟩ (by decide +kernel) (fmt18_len hi)⟩
  )]); intro f; simpa using My.gz f 5 true
end
end My
namespace My
open PySem PySem.Spec PyProof.Rows L2
/-- the text of a number without a sign -/
structure NumE (W : Str) (m : Nat) (c0 : Nat) (cs : List Nat) : Prop where
  e : W.cps.toList = c0 :: cs
  dg : ∀ c ∈ c0 :: cs, 48 ≤ c ∧ c ≤ 57 ∧ (!(Builtin.Str.occurrences ("0123456789" : Str) ⟨#[c]⟩ 0 ("0123456789" : Str).length 1).isEmpty) = true
  l : W.length = cs.length + 1
  l2 : cs.length ≤ 35
  mi : cutS W none (some 1) ≠ "-"
  it : intText? W = some (m : Int)
  fz : W = "0" ∨ (⟨#[c0]⟩ : Str) ≠ "0"
theorem num_e (m : Nat) (h : m < 10 ^ 36) : ∃ c0 cs, NumE (numT (m : Int)) m c0 cs := by
  apply My.two; (focus intro zzI; simp only [↓ My.mkB zzI (by
  clear zzI
  have e := num_tl m
  have dg := TL.numL_digits m
  have ln := TL.numL_len (n := m) (k := 36) (by decide) h
  have it := TL.int_num (n := m) (by omega)
  cases z : TL.numL m with
  | nil => exact absurd z (TL.numL_ne m)
  | cons c0 cs =>
    rw [z] at e dg ln
    have d0 := dg c0 (List.mem_cons_self ..)
    refine ⟨c0, cs, e, fun c hc => ?_, by rw [len_cps, e]; rfl, by rw [List.length_cons] at ln; omega, ?_, it, ?_⟩
    · have d := dg c hc
      exact ⟨d.1, d.2, dig_in d.1 d.2⟩
    · rw [cut_first e, minus_eq]
      intro q
      have := one_inj q
      omega
    · by_cases m0 : m = 0
      · subst m0
        exact .inl rfl
      · obtain ⟨c, cs', e', n⟩ := numL_head (m := m) (by omega)
        rw [z] at e'
        obtain ⟨rfl, rfl⟩ := List.cons.inj e'
        refine .inr fun q => n ?_
        rw [zero_eq] at q
        exact one_inj q
  )]); intro f; simpa using My.gz f 5 true
/-- the text of a number below 0 -/
structure NumM (W : Str) (m : Nat) : Prop where
  l : W.length ≤ 37
  mi : cutS W none (some 1) = "-"
  re : cutS W (some 1) none = numT (m : Int)
  it : intText? W = some (-(m : Int))
  nz : W ≠ "0"
theorem num_m (m : Nat) (h0 : 0 < m) (h : m < 10 ^ 36) : NumM (numT (-(m : Int))) m := by
  apply My.two; (focus intro zzI; simp only [↓ My.mkB zzI (by
  clear zzI
  have e := neg_tl h0
  have dg := TL.numL_digits m
  have ln := TL.numL_len (n := m) (k := 36) (by decide) h
  have l : (numT (-(m : Int))).length = (TL.numL m).length + 1 := by rw [len_cps, e]; rfl
  refine ⟨by omega, by rw [cut_first e, minus_eq], TL.ext_tl ?_, ?_, fun q => ?_⟩
  · show (cutS (numT (-(m : Int))) (some 1) none).cps.toList = (numT (m : Int)).cps.toList
    rw [cut_rest e, num_tl]
  · have := PySem.intText_neg e dg (TL.numL_ne m) (by omega)
    rw [TL.numL_val] at this
    exact this
  · rw [q, zero_eq] at e
    cases e
  )]); intro f; simpa using My.gz f 5 true
/-- the signs of some texts -/
def catL (ys : List Str) : List Nat := (ys.map fun y => y.cps.toList).flatten
theorem cat_fold {a : Str} (ha : a.cps = #[]) : ∀ (ps : List Str) (acc : Array Nat), (ps.foldl (fun acc p => acc ++ a.cps ++ p.cps) acc).toList = acc.toList ++ catL ps
  | [], acc => by simp [catL]
  | p :: ps, acc => by
    rw [List.foldl_cons, cat_fold ha ps, ha, Array.toList_append, Array.toList_append]
    simp [catL]
theorem join_cat (ys : List Str) : (Txt.join ("" : Str) ys).cps.toList = catL ys := by
  apply My.two; (focus intro zzI; simp only [↓ My.mkB zzI (by
  clear zzI
  have ha : ("" : Str).cps = #[] := by decide +kernel
  cases ys with
  | nil => rfl
  | cons y ys =>
    show (ys.foldl (fun acc p => acc ++ ("" : Str).cps ++ p.cps) y.cps).toList = _
    rw [cat_fold ha]
    simp [catL]
  )]); intro f; simpa using My.gz f 5 true
/-- a number so far: what is left, and blocks -/
def BlkI (m left : Nat) (fs : List Str) : Prop := TL.numL m = TL.numL left ++ catL fs.reverse ∧ fs.length ≤ 60 ∧ left < 10 ^ (60 - fs.length) ∧ ∀ y ∈ fs, y.length ≤ 18
theorem blk_len {r : Nat} (h : r < 10 ^ 18) : (blkT r).length ≤ 18 := by
  apply My.two; (focus intro zzI; simp only [↓ My.mkB zzI (by
  clear zzI
  rw [len_cps, blk_cps h, dgs_pad 17 r h, List.length_map, List.length_append, List.length_replicate]
  have : (Nat.toDigits 10 r).length ≤ 18 := (Nat.length_toDigits_le_iff (by decide) (by decide)).mpr h
  omega
  )]); intro f; simpa using My.gz f 5 true
theorem BlkI.step {m left : Nat} {fs : List Str} (b : BlkI m left fs) (h : 10 ^ 18 ≤ left) : BlkI m (left / 10 ^ 18) (fs ++ [blkT (left % 10 ^ 18)]) := by
  apply My.two; (focus intro zzI; simp only [↓ My.mkB zzI (by
  clear zzI
  obtain ⟨h1, h2, h3, h4⟩ := b
  have hr : left % 10 ^ 18 < 10 ^ 18 := Nat.mod_lt _ (by decide)
  have hp : 18 < 60 - fs.length := by
    by_cases z : 60 - fs.length ≤ 18
    · have := Nat.pow_le_pow_right (n := 10) (by decide) z
      omega
    · omega
  refine ⟨?_, by rw [List.length_append, List.length_singleton]; omega, ?_, fun y hy => ?_⟩
  · have hd := digits_app 18 (left / 10 ^ 18) (left % 10 ^ 18) (Nat.div_pos h (by decide)) hr
    rw [show left / 10 ^ 18 * 10 ^ 18 + left % 10 ^ 18 = left by omega] at hd
    have e : TL.numL left = TL.numL (left / 10 ^ 18) ++ (blkT (left % 10 ^ 18)).cps.toList := by
      rw [blk_cps hr]
      unfold TL.numL
      rw [hd, List.map_append]
    rw [h1, e, List.reverse_append, List.append_assoc]
    rfl
  · rw [List.length_append, List.length_singleton]
    obtain ⟨k, hk⟩ : ∃ k, 60 - fs.length = k + 1 := ⟨60 - fs.length - 1, by omega⟩
    rw [hk, Nat.pow_succ] at h3
    rw [show 60 - (fs.length + 1) = k by omega]
    generalize 10 ^ k = X at h3 ⊢
    omega
  · rcases List.mem_append.mp hy with hy | hy
    · exact h4 y hy
    · rw [List.mem_singleton.mp hy]
      exact blk_len hr
  )]); intro f; simpa using My.gz f 5 true
theorem BlkI.start {m : Nat} (h : m < 10 ^ 60) : BlkI m m [] := ⟨by simp [catL], by simp, h, by simp⟩
/-- the text of a number from its blocks -/
theorem BlkI.fin {n : Int} {left : Nat} {fs : List Str} (b : BlkI n.natAbs left fs) : (if n < 0 then ("-" : Str) else ("" : Str)) ++ numT (left : Int) ++ Txt.join ("" : Str) fs.reverse = numT n := by
  apply My.two; (focus intro zzI; simp only [↓ My.mkB zzI (by
  clear zzI
  apply str_ext
  have e0 : ("" : Str).cps = #[] := by decide +kernel
  show (((if n < 0 then ("-" : Str) else ("" : Str)).cps ++ (numT (left : Int)).cps) ++ (Txt.join ("" : Str) fs.reverse).cps).toList = _
  rw [Array.toList_append, Array.toList_append, join_cat, num_tl, List.append_assoc, ← b.1]
  by_cases h : n < 0
  · rw [if_pos h, minus_eq]
    have := neg_tl (m := n.natAbs) (by omega)
    rw [show -(n.natAbs : Int) = n by omega] at this
    rw [this]
    rfl
  · rw [if_neg h, e0]
    have := num_tl n.natAbs
    rw [show (n.natAbs : Int) = n by omega] at this
    rw [this]
    rfl
  )]); intro f; simpa using My.gz f 5 true
end My
namespace My
open PySem PySem.Spec PyProof.Rows L2
section
variable {fa : List (Fg → Bool)} {fn : List He5.DefA} {K : Fg} {mg : Str → Option Value} {P : Program} {w : World} {base : Heap}
variable {k : Nat} {f : Addr} {x qual : Str} {st : Stmt} {dvs : List V} {ps : List Str} {sp : Sp}
/-- no positional default, all keywords written -/
theorem FnA.kw0 (F : FnA P w K mg base k f x qual st dvs ps sp) (n : Nat) (ks : List Str) (pm : List Nat) (hd : dvs = [])
    (hb : ∀ (kV doc pmv : Value) (an : Option Addr) (cdv ct : Value) (us ws : List Value), us.length = n → ws.length = ks.length →
      bindArgs (PySem.W.fnOf x qual (defArgs st) (defBody st) (defScope st) .none kV doc pmv an cdv ct) ⟨us, ks.zip ws⟩ = pure (ps.zip (pick pm (us ++ ws)))) : FnKw P w K mg base k f n ks pm sp := by
  apply My.two; (focus intro zzI; simp only [↓ My.mkB zzI (by
  clear zzI
  intro A outer s H us ws vs zs Q E hr e0 rv rz l1 l2 h
  obtain ⟨fd, kws, F0, G⟩ := F.o
  refine G.run A outer s H ⟨us, ks.zip ws⟩ (pick pm (us ++ ws)) (pick pm (vs ++ zs)) Q E hr e0 ?_ (pick_vals (rv.append rz) pm) h
  obtain ⟨oc, od, dV, kV, doc, pmv, an, cdv, ct, osl, rfl, lk, hcd, hD, hK⟩ := F0.ex
  rcases hD with ⟨_, rfl⟩ | ⟨e, _⟩
  · refine BindsTo.of_looks fun M => ?_
    rw [hb kV doc pmv an cdv ct us ws (rv.length.symm.trans l1) (rz.length.symm.trans l2)]
    exact .of_pure rfl
  · exact absurd hd e
  )]); intro f; simpa using My.gz f 5 true
end
end My
namespace Lw
open PySem PySem.Spec PyProof.Rows L2 My
/-- a dict of ints -/
def DictI (kvs : List (Key × V)) (val : Int → Option Int) : Prop := ∀ r : Int, valV kvs (.inl r) = (val r).map V.int
theorem DictI.put {kvs : List (Key × V)} {val : Int → Option Int} (h : DictI kvs val) (q s : Int) : DictI (putK kvs (.inl q) (.int s)) (fun r => if r = q then some s else val r) := by
  apply My.two; (focus intro zzI; simp only [↓ My.mkB zzI (by
  clear zzI
  intro r
  rw [valV_put]
  by_cases e : r = q
  · subst e
    simp
  · have : ¬ (Sum.inl r : Key) = Sum.inl q := fun z => e (Sum.inl.inj z)
    rw [if_neg this]
    show _ = (if r = q then some s else val r).map V.int
    rw [if_neg e]
    exact h r
  )]); intro f; simpa using My.gz f 5 true
section
variable {K : Fg}
theorem kit_list : PySem.W.kitAny K (.type "list") [.type "list", .type "tuple"] = some true := kitAny_cons (b := true) (kit_ty (by decide +kernel)) (fun h => nomatch h) (fun _ => rfl)
theorem kit_tuple : PySem.W.kitAny K (.type "tuple") [.type "list", .type "tuple"] = some true :=
  kitAny_cons (b := false) (kit_ty (by decide +kernel)) (fun _ => kitAny_cons (b := true) (kit_ty (by decide +kernel)) (fun h => nomatch h) (fun _ => rfl)) (fun h => nomatch h)
end
end Lw
namespace Lw
open PySem PySem.Spec PyProof.Rows L2 My
section
variable {P : Program} {w : World} {K : Fg} {mg : Str → Option Value} {base : Heap}
def sp_is_integer : Sp := fun vs H Q _ => ∃ i : Int, vs = [.int i] ∧ Q (.bl true) H
theorem ok_is_integer (T : Tx K mg) : FnR P w K mg base CX0 1 (He.ga K "is_integer") sp_is_integer := by
  apply My.two; (focus intro zzI; simp only [↓ My.mkB zzI (by
  clear zzI
  refine (T.fnR 27 (st := s_is_integer) (at_ := fun K => He.ga K "is_integer") rfl sc_is_integer (fun _ _ _ _ _ _ us hl => match us, hl with | [_], _ => rfl)) (fun vs H Q E h => ?_) (fun cdv A outer s H vs Q E hr h => ?_)
  · obtain ⟨i, rfl, _⟩ := h
    rfl
  · obtain ⟨i, rfl, q⟩ := h
    refine ⟨_, (pss_one (ps_ret (pe_and (pe_callB (isi_k T) (by rfl) T.n_isinstance (by decide +kernel) (pa_cons (pv 0) (pa_cons (pe_bltn (v := .ty "int") (u := .type "int") rfl T.n_int (by decide +kernel) rfl) pa_nil))) (pe_one (pe_not (pe_callB (isi_k T) (by rfl) T.n_isinstance (by decide +kernel) (pa_cons (pv 0) (pa_cons (pe_bltn (v := .ty "bool") (u := .type "bool") rfl T.n_bool (by decide +kernel) rfl) pa_nil)))))))), ?_⟩
    refine ⟨_, rfl, _, _, _, _, true, rfl, .ty "int", .base (.int i), kit_ty (by decide +kernel), _, rfl, iteT ?_⟩
    exact ⟨_, rfl, _, _, _, _, false, rfl, .ty "bool", .base (.int i), kit_ty (by decide +kernel), _, rfl, q⟩
  )]); intro f; simpa using My.gz f 5 true
theorem c_is_integer {X : Cx} {k : Nat} {t : TA} {e : Expr} {es : List Expr} {np pos : Pos} (T : Tx K mg) (hr : Room k X.A) (ha : PA X (e :: es) t) (hk : 1 ≤ k := by decide) (hK : X.K = K := by rfl) (hm : X.mg = mg := by rfl)
    (hg : Gl X "is_integer" := by rfl) (hse : starEach (e :: es) X.env = (false, eval e X.env) :: starEach es X.env := by rfl) (hpl : (backTo pos (starEach es X.env)).any (·.1) = false := by rfl) :
    PE X (.Call (.Name "is_integer" np) (e :: es) [] pos) (tFn sp_is_integer E0 t) := by
  subst hK
  subst hm
  exact pe_fR (ok_is_integer T) T.kp_is_integer T.g_is_integer (hr.mono hk) pass0 ha hg (by decide) hse hpl
def sp_common_divisor : Sp := fun vs H Q _ => ∃ a b : Nat, vs = [.int (a : Int), .int (b : Int)] ∧ Q (.int (Nat.gcd a b : Nat)) H
theorem ok_common_divisor (T : Tx K mg) : FnR P w K mg base CX0 1 (He.ga K "common_divisor") sp_common_divisor := by
  apply My.two; (focus intro zzI; simp only [↓ My.mkB zzI (by
  clear zzI
  refine (T.fnR 28 (st := s_common_divisor) (at_ := fun K => He.ga K "common_divisor") rfl sc_common_divisor (fun _ _ _ _ _ _ us hl => match us, hl with | [_, _], _ => rfl)) (fun vs H Q E h => ?_) (fun cdv A outer s H vs Q E hr h => ?_)
  · obtain ⟨a, b, rfl, _⟩ := h
    rfl
  · obtain ⟨a, b, rfl, q⟩ := h
    refine ⟨_, (pss_cons (ps_par (i := 0) (j := 1) (by rfl) sc_common_divisor.nd rfl rfl (by decide) rfl rfl (pa_cons (pe_callB call_abs (by rfl) T.n_abs (by decide +kernel) (pa_cons (pv 0) pa_nil)) (pa_cons (pe_callB call_abs (by rfl) T.n_abs (by decide +kernel) (pa_cons (pv 1) pa_nil)) pa_nil)) (by rfl))
 (pss_cons (ps_while PassesOwn.never (pt_cmpR op_gt (pv 1) pe_int (nomark _))
 (pss_one (ps_par (i := 0) (j := 1) (by rfl) sc_common_divisor.nd rfl rfl (by decide) rfl rfl (pa_cons (pv 1) (pa_cons (pe_op op_mod (pv 0) (pv 1)) pa_nil)) (by rfl))))
 (pss_one (ps_ret (pv 0))))), ?_⟩
    refine ⟨_, rfl, _, rfl, _, rfl, _, rfl, _, _, rfl, ?_⟩
    refine ⟨fun m σ H' => ∃ x y : Nat, σ = [some (.int (x : Int)), some (.int (y : Int))] ∧ H' = H ∧ Nat.gcd x y = Nat.gcd a b ∧ m = y, ⟨b, a, b, ?_, rfl, rfl, rfl⟩, ?_⟩
    · rw [abs_nat, abs_nat]
      rfl
    · rintro m σ H' ⟨x, y, rfl, rfl, hg, rfl⟩
      refine ⟨_, rfl, _, _, rfl, rfl, _, rfl, ?_⟩
      refine ite2 (fun hc => wh_go ?_) (fun hc => ?_)
      · have hy : 0 < m := by
          have := of_decide_eq_true hc
          omega
        refine ⟨_, rfl, _, rfl, _, rfl, _, _, rfl, rfl, (by show (0 : Int) < (m : Int); omega), _, _, rfl, ?_⟩
        refine ⟨x % m, Nat.mod_lt _ hy, m, x % m, ?_, rfl, ?_, rfl⟩
        · show [some (V.int (m : Int)), some (V.int ((x : Int) % (m : Int)))] = _
          rw [Int.natCast_emod]
        · rw [← hg, Nat.gcd_comm x m, Nat.gcd_rec m x]
          exact Nat.gcd_comm _ _
      · have hy : m = 0 := by
          have := of_decide_eq_false (Bool.eq_false_iff.mpr hc)
          omega
        subst hy
        refine ⟨_, rfl, ?_⟩
        rw [Nat.gcd_zero_right] at hg
        rw [hg]
        exact q
  )]); intro f; simpa using My.gz f 5 true
theorem c_common_divisor {X : Cx} {k : Nat} {t : TA} {e : Expr} {es : List Expr} {np pos : Pos} (T : Tx K mg) (hr : Room k X.A) (ha : PA X (e :: es) t) (hk : 1 ≤ k := by decide) (hK : X.K = K := by rfl) (hm : X.mg = mg := by rfl)
    (hg : Gl X "common_divisor" := by rfl) (hse : starEach (e :: es) X.env = (false, eval e X.env) :: starEach es X.env := by rfl) (hpl : (backTo pos (starEach es X.env)).any (·.1) = false := by rfl) :
    PE X (.Call (.Name "common_divisor" np) (e :: es) [] pos) (tFn sp_common_divisor E0 t) := by
  subst hK
  subst hm
  exact pe_fR (ok_common_divisor T) T.kp_common_divisor T.g_common_divisor (hr.mono hk) pass0 ha hg (by decide) hse hpl
def sp_common_multiple : Sp := fun vs H Q _ => ∃ a b : Nat, vs = [.int (a : Int), .int (b : Int)] ∧ 0 < a ∧ 0 < b ∧ a ≤ 200000 ∧ b ≤ 200000 ∧ Q (.int (Nat.lcm a b : Nat)) H
theorem ok_common_multiple (T : Tx K mg) : FnR P w K mg base CX0 2 (He.ga K "common_multiple") sp_common_multiple := by
  apply My.two; (focus intro zzI; simp only [↓ My.mkB zzI (by
  clear zzI
  refine (T.fnR 29 (st := s_common_multiple) (at_ := fun K => He.ga K "common_multiple") rfl sc_common_multiple (fun _ _ _ _ _ _ us hl => match us, hl with | [_, _], _ => rfl)) (fun vs H Q E h => ?_) (fun cdv A outer s H vs Q E hr h => ?_)
  · obtain ⟨a, b, rfl, _⟩ := h
    rfl
  · obtain ⟨a, b, rfl, ha, hb, la, lb, q⟩ := h
    refine ⟨_, (pss_one (ps_ret (pe_op op_mul (pe_op op_fdiv (pv 0) (c_common_divisor T hr (pa_cons (pv 0) (pa_cons (pv 1) pa_nil)))) (pv 1)))), ?_⟩
    have hg : 0 < Nat.gcd a b := Nat.gcd_pos_of_pos_left _ ha
    have hg2 : Nat.gcd a b ≤ a := Nat.gcd_le_left _ ha
    refine ⟨_, rfl, _, rfl, _, rfl, a, b, rfl, _, _, rfl, rfl, ⟨by omega, by omega⟩, _, rfl, _, _, rfl, rfl, .inr ⟨by omega, by omega⟩, ?_⟩
    have e : ((a : Int) / ((Nat.gcd a b : Nat) : Int)) * (b : Int) = ((Nat.lcm a b : Nat) : Int) := by
      rw [← Int.natCast_ediv, ← Int.natCast_mul, Nat.lcm, Nat.mul_comm (a / Nat.gcd a b) b, ← Nat.mul_div_assoc _ (Nat.gcd_dvd_left a b), Nat.mul_comm]
    show Q (.int (((a : Int) / ((Nat.gcd a b : Nat) : Int)) * (b : Int))) H
    rw [e]
    exact q
  )]); intro f; simpa using My.gz f 5 true
theorem c_common_multiple {X : Cx} {k : Nat} {t : TA} {e : Expr} {es : List Expr} {np pos : Pos} (T : Tx K mg) (hr : Room k X.A) (ha : PA X (e :: es) t) (hk : 2 ≤ k := by decide) (hK : X.K = K := by rfl) (hm : X.mg = mg := by rfl)
    (hg : Gl X "common_multiple" := by rfl) (hse : starEach (e :: es) X.env = (false, eval e X.env) :: starEach es X.env := by rfl) (hpl : (backTo pos (starEach es X.env)).any (·.1) = false := by rfl) :
    PE X (.Call (.Name "common_multiple" np) (e :: es) [] pos) (tFn sp_common_multiple E0 t) := by
  subst hK
  subst hm
  exact pe_fR (ok_common_multiple T) T.kp_common_multiple T.g_common_multiple (hr.mono hk) pass0 ha hg (by decide) hse hpl
end
end Lw
section
local macro_rules | `(tactic| fail "k") => `(tactic| first | (refine My.Kx.trans (My.kx_same (by assumption)) ?_; fail "k") | fail_if_success skip)
local macro_rules | `(tactic| fail "k") => `(tactic| first | (refine My.Kx.trans (by assumption) ?_; fail "k") | fail_if_success skip)
local macro_rules | `(tactic| fail "k") => `(tactic| first | exact My.Kx.refl _ | fail_if_success skip)
local macro_rules | `(tactic| fail "f") => `(tactic| first | (apply My.Same.use; (focus assumption); fail "f") | fail_if_success skip)
local macro_rules | `(tactic| fail "f") => `(tactic| first | assumption | fail_if_success skip)
local macro_rules | `(tactic| fail "a") => `(tactic| first | (apply My.szl; first | omega | (simp <;> omega)) | fail_if_success skip)
local macro_rules | `(tactic| fail "a") => `(tactic| first | (apply My.sz; first | omega | (simp <;> omega)) | fail_if_success skip)
local macro_rules | `(tactic| fail "a") => `(tactic| first | (apply My.log10 (B := 60) (by decide); omega) | fail_if_success skip)
local macro_rules | `(tactic| fail "a") => `(tactic| first | (show List.length _ ≤ _; simp; done) | fail_if_success skip)
local macro_rules | `(tactic| fail "a") => `(tactic| first | (show 0 < List.length _; simp; done) | fail_if_success skip)
local macro_rules | `(tactic| fail "a") => `(tactic| first | (apply My.mulL; omega) | fail_if_success skip)
local macro_rules | `(tactic| fail "a") => `(tactic| first | (apply My.mulR; omega) | fail_if_success skip)
local macro_rules | `(tactic| fail "a") => `(tactic| first | exact ⟨by omega, by omega⟩ | fail_if_success skip)
local macro_rules | `(tactic| fail "a") => `(tactic| first | decide | fail_if_success skip)
local macro_rules | `(tactic| fail "a") => `(tactic| first | omega | fail_if_success skip)
local macro_rules | `(tactic| fail "a") => `(tactic| first | (show L2.Same _ _; refine My.Same.via (by assumption) ?_; fail "a") | fail_if_success skip)
local macro_rules | `(tactic| fail "a") => `(tactic| first | exact L2.Same.refl _ | fail_if_success skip)
local macro_rules | `(tactic| fail "a") => `(tactic| first | (apply Or.inl; refine ⟨rfl, ?_⟩; apply Exists.intro; apply L2.SqL.of; fail "f") | fail_if_success skip)
local macro_rules | `(tactic| fail "a") => `(tactic| first | (apply My.at_add; assumption) | fail_if_success skip)
local macro_rules | `(tactic| fail "a") => `(tactic| first | (apply L2.at_of rfl; assumption) | fail_if_success skip)
local macro_rules | `(tactic| fail "a") => `(tactic| first | (apply Or.inr; fail "f") | fail_if_success skip)
local macro_rules | `(tactic| fail "a") => `(tactic| first | (apply Or.inl; fail "f") | fail_if_success skip)
local macro_rules | `(tactic| fail "a") => `(tactic| first | (apply Lw.CalAt.same; (focus assumption); fail "a") | fail_if_success skip)
local macro_rules | `(tactic| fail "a") => `(tactic| first | (apply Lw.CalX.same; (focus assumption); fail "a") | fail_if_success skip)
local macro_rules | `(tactic| fail "a") => `(tactic| first | (apply Lw.Tx.no_CA_works; assumption) | fail_if_success skip)
local macro_rules | `(tactic| fail "a") => `(tactic| first | (apply Lw.Tx.no_CA_turn; assumption) | fail_if_success skip)
local macro_rules | `(tactic| fail "a") => `(tactic| first | (apply Lw.Tx.no_CA_starts; assumption) | fail_if_success skip)
local macro_rules | `(tactic| fail "a") => `(tactic| first | (apply Lw.Tx.no_CA_lengths; assumption) | fail_if_success skip)
local macro_rules | `(tactic| fail "a") => `(tactic| first | (apply Lw.Tx.no_CA_free_days; assumption) | fail_if_success skip)
local macro_rules | `(tactic| fail "a") => `(tactic| first | (apply Lw.Tx.no_CA_rests; assumption) | fail_if_success skip)
local macro_rules | `(tactic| fail "a") => `(tactic| first | (apply Lw.Tx.no_CA_begins; assumption) | fail_if_success skip)
local macro_rules | `(tactic| fail "a") => `(tactic| first | (apply Lw.Tx.no_CA_days_of_week; assumption) | fail_if_success skip)
local macro_rules | `(tactic| fail "a") => `(tactic| first | (apply Lw.Tx.no_CA_all_years; assumption) | fail_if_success skip)
local macro_rules | `(tactic| fail "a") => `(tactic| first | (show PySem.W.notFirst _ _ _ = true; apply And.right; apply Lw.Tx.fst_CA; assumption) | fail_if_success skip)
local macro_rules | `(tactic| fail "a") => `(tactic| first | (apply Lw.Tx.cl_CA; assumption) | fail_if_success skip)
local macro_rules | `(tactic| fail "a") => `(tactic| first | (show ∃ xs : List L2.V, L2.SqT _ _ _ xs; apply Exists.intro; apply L2.SqT.of; fail "f") | fail_if_success skip)
local macro_rules | `(tactic| fail "a") => `(tactic| first | (show ∃ xs : List L2.V, L2.SqL _ _ _ xs; apply Exists.intro; apply L2.SqL.of; fail "f") | fail_if_success skip)
local macro_rules | `(tactic| fail "a") => `(tactic| first | (apply Or.inr; apply L2.SqT.of; fail "f") | fail_if_success skip)
local macro_rules | `(tactic| fail "a") => `(tactic| first | (apply Or.inl; apply L2.SqL.of; fail "f") | fail_if_success skip)
local macro_rules | `(tactic| fail "a") => `(tactic| first | (apply L2.SqT.of; fail "f") | fail_if_success skip)
local macro_rules | `(tactic| fail "a") => `(tactic| first | (apply L2.SqL.of; fail "f") | fail_if_success skip)
local macro_rules | `(tactic| fail "a") => `(tactic| first | (show _ = some _; fail "f") | fail_if_success skip)
local macro_rules | `(tactic| fail "a") => `(tactic| first | assumption | fail_if_success skip)
local macro_rules | `(tactic| fail "a") => `(tactic| first | ((with_reducible show (_ : Int) ≤ _); omega) | fail_if_success skip)
local macro_rules | `(tactic| fail "a") => `(tactic| first | ((with_reducible show (_ : Int) < _); omega) | fail_if_success skip)
local macro_rules | `(tactic| fail "a") => `(tactic| first | with_reducible assumption | fail_if_success skip)
local macro_rules | `(tactic| fail "a") => `(tactic| first | exact rfl | fail_if_success skip)
local macro_rules | `(tactic| fail "c") => `(tactic| first | (apply And.intro; (focus fail "a")) | fail_if_success skip)
local macro_rules | `(tactic| fail "c") => `(tactic| first | (apply Exists.intro; fail "c") | fail_if_success skip)
local macro_rules | `(tactic| rfl') => `(tactic| first | skip | fail_if_success skip)
local macro_rules | `(tactic| rfl') => `(tactic| first | ((with_reducible refine L2.iteF ?_); rfl') | fail_if_success skip)
local macro_rules | `(tactic| rfl') => `(tactic| first | ((with_reducible refine L2.iteT ?_); rfl') | fail_if_success skip)
local macro_rules | `(tactic| rfl') => `(tactic| first | (intro H' (s : L2.Same _ _); rfl') | fail_if_success skip)
local macro_rules | `(tactic| rfl') => `(tactic| first | (intro o H' (s : L2.Same _ _) ho; rfl') | fail_if_success skip)
local macro_rules | `(tactic| rfl') => `(tactic| first | (intro p hp; generalize e : L2.upd _ _ _ = H'; (fail_if_success (refine @Exists.intro (Nat → _) _ ?_ ?_)); (have s := My.newS e hp); (have f := My.newO e); clear e; rfl') | fail_if_success skip)
local macro_rules | `(tactic| rfl') => `(tactic| first | (fail "c"; rfl') | fail_if_success skip)
namespace Lw
open PySem PySem.Spec PyProof.Rows L2 My
section
variable {P : Program} {w : World} {K : Fg} {mg : Str → Option Value} {base : Heap}
/-- a list or a tuple of anything -/
def SeqV (H : Hp) (a : Addr) (xs : List V) : Prop := H a = some (.lst xs) ∨ H a = some (.tup xs)
theorem SeqV.same {H H' : Hp} {a : Addr} {xs : List V} (h : SeqV H a xs) (s : Same H H') : SeqV H' a xs := h.elim (fun h => .inl (s _ _ h)) fun h => .inr (s _ _ h)
theorem SeqV.sq {H : Hp} {a : Addr} {xs : List V} (h : SeqV H a xs) : SqL K H a xs ∨ SqT K H a xs := h.elim (fun h => .inl (SqL.of h)) fun h => .inr (SqT.of h)
theorem SeqV.ty {H : Hp} {a : Addr} {xs : List V} (h : SeqV H a xs) : ∃ t, TyX K H (.ref a) t ∧ PySem.W.kitAny K t [.type "list", .type "tuple"] = some true :=
  h.elim (fun h => ⟨_, .base (.lst h), kit_list⟩) fun h => ⟨_, .base (.tup h), kit_tuple⟩
/-- a tuple among the constants -/
def KT (K : Fg) (a : Addr) (xs : List V) : Prop := ∃ (o : Obj) (its : Array Value) (n : Nat), K.lookup a = some o ∧ o.cls = .type "tuple" ∧ o.data = .seq its n ∧ its.size ≤ sizeLine ∧ Vals xs its.toList
def SeqK (K : Fg) (H : Hp) (a : Addr) (xs : List V) : Prop := SeqV H a xs ∨ KT K a xs
theorem SeqK.same {H H' : Hp} {a : Addr} {xs : List V} (h : SeqK K H a xs) (s : Same H H') : SeqK K H' a xs := h.elim (fun h => .inl (h.same s)) .inr
theorem SeqK.sq {H : Hp} {a : Addr} {xs : List V} (h : SeqK K H a xs) : SqL K H a xs ∨ SqT K H a xs := h.elim (fun h => h.sq) fun h => .inr (.inr h)
theorem SeqK.ty {H : Hp} {a : Addr} {xs : List V} (h : SeqK K H a xs) : ∃ t, TyX K H (.ref a) t ∧ PySem.W.kitAny K t [.type "list", .type "tuple"] = some true := by
  apply My.two; (focus intro zzI; simp only [↓ My.mkB zzI (by
  clear zzI
  rcases h with h | ⟨o, its, n, h1, h2, _⟩
  · exact h.ty
  · exact ⟨_, .kTuple h1 h2, kit_tuple⟩
  )]); intro f; simpa using My.gz f 5 true
/-- the numbers of a row as values -/
def natV (l : Nat) : V := .int (l : Int)
/-- rows of numbers -/
def RowsV (H : Hp) (ts : List Addr) (rows : List (List Nat)) : Prop := Paired (fun t r => SeqV H t (r.map natV)) ts rows
theorem RowsV.len {H : Hp} {ts : List Addr} {rows : List (List Nat)} (h : RowsV H ts rows) : ts.length = rows.length := Paired.length h
theorem RowsV.same {H H' : Hp} (s : Same H H') : ∀ {ts : List Addr} {rows : List (List Nat)}, RowsV H ts rows → RowsV H' ts rows
  | _, _, .nil => .nil
  | _, _, .cons h t => .cons (h.same s) (RowsV.same s t)
theorem RowsV.get {H : Hp} : ∀ {ts : List Addr} {rows : List (List Nat)}, RowsV H ts rows → ∀ {i : Nat} {r : List Nat}, rows[i]? = some r → ∃ t, ts[i]? = some t ∧ SeqV H t (r.map natV)
  | _, _, .nil, _, _, h => by cases h
  | _, _, .cons h _, 0, _, e => by
    cases e
    exact ⟨_, rfl, h⟩
  | _, _, .cons _ t, i + 1, _, e => RowsV.get t (i := i) e
theorem RowsV.at {H : Hp} {ts : List Addr} {rows : List (List Nat)} (h : RowsV H ts rows) {i : Nat} {t : Addr} (e : ts[i]? = some t) : ∃ r, rows[i]? = some r ∧ SeqV H t (r.map natV) := by
  apply My.two; (focus intro zzI; simp only [↓ My.mkB zzI (by
  clear zzI
  have hl := h.len
  have hi : i < rows.length := by
    rw [← hl]
    exact (List.getElem?_eq_some_iff.mp e).1
  obtain ⟨t', e', hs⟩ := h.get (List.getElem?_eq_getElem hi)
  rw [e] at e'
  cases e'
  exact ⟨_, List.getElem?_eq_getElem hi, hs⟩
  )]); intro f; simpa using My.gz f 5 true
theorem all_t {H : Hp} {D : Addr} {n : Nat} {f : Nat → V} (h : H D = some (.lst ((List.range n).map f))) (ht : ∀ i, i < n → f i = .bl true) : H D = some (.lst ((List.replicate n true).map V.bl)) := by
  apply My.two; (focus intro zzI; simp only [↓ My.mkB zzI (by
  clear zzI
  rw [h]
  congr 2
  refine List.ext_getElem (by simp) fun i h1 h2 => ?_
  simp only [List.length_map, List.length_range] at h1
  simp [ht i h1]
  )]); intro f; simpa using My.gz f 5 true
theorem at_last {xs : List V} {n : Nat} {v : V} (l : xs.length = n + 1) (h : xs[n]? = some v) : atI xs (-1) = some v := by
  apply My.two; (focus intro zzI; simp only [↓ My.mkB zzI (by
  clear zzI
  have e : ixN (n + 1) (-1) = some n := by
    unfold ixN
    rw [if_neg (by decide), if_pos (by omega)]
    congr 1
    omega
  unfold atI
  rw [l, e]
  exact h
  )]); intro f; simpa using My.gz f 5 true
theorem seq_goC {H : Hp} {a : Addr} {xs : List V} {R : It → Hp → Prop} (h : SqL K H a xs ∨ SqT K H a xs) (k : ∀ (J : It) (G : Hp → Prop), Walk J xs.length G (YAt xs) → (∀ H', Same H H' → G H') → R J H) :
    iSeqX K (V.ref a) H R := by
  apply My.two; (focus intro zzI; simp only [↓ My.mkB zzI (by
  clear zzI
  rcases h with h | h
  · exact ⟨a, rfl, .inl ⟨xs, h, k _ _ walk_list fun H' s => s.seq h⟩⟩
  · exact ⟨a, rfl, .inr ⟨xs, h, k _ _ walk_tup fun H' s => same_tup s h⟩⟩
  )]); intro f; simpa using My.gz f 5 true
theorem ref_at {ts : List Addr} {i : Nat} {y : V} (h : (ts.map V.ref)[i]? = some y) : ∃ t, ts[i]? = some t ∧ V.ref t = y := by
  apply My.two; (focus intro zzI; simp only [↓ My.mkB zzI (by
  clear zzI
  rw [List.getElem?_map] at h
  cases e : ts[i]? with
  | none =>
    rw [e] at h
    cases h
  | some t =>
    rw [e] at h
    exact ⟨t, rfl, Option.some.inj h⟩
  )]); intro f; simpa using My.gz f 5 true
theorem all_rep {n : Nat} : (List.replicate n true).all id = true := by
  rw [List.all_replicate]
  cases n <;> rfl
theorem seq_goS {H0 H : Hp} {a : Addr} {xs : List V} {R : It → Hp → Prop} (h : SqL K H0 a xs ∨ SqT K H0 a xs) (s : Same H0 H) (k : ∀ (J : It) (G : Hp → Prop), Walk J xs.length G (YAt xs) → (∀ H', Same H0 H' → G H') → R J H) :
    iSeqX K (V.ref a) H R := by
  apply My.two; (focus intro zzI; simp only [↓ My.mkB zzI (by
  clear zzI
  rcases h with h | h
  · exact ⟨a, rfl, .inl ⟨xs, s.seq h, k _ _ walk_list fun H' s => s.seq h⟩⟩
  · exact ⟨a, rfl, .inr ⟨xs, same_tup s h, k _ _ walk_tup fun H' s => same_tup s h⟩⟩
  )]); intro f; simpa using My.gz f 5 true
theorem ixq_go {H : Hp} {a : Addr} {xs : List V} {j : Nat} {v : V} {Q : VK} (h : SeqV H a xs) (e : xs[j]? = some v) (q : Q v H) : rIxQ K (.ref a) (.int (j : Int)) H Q :=
  h.elim (fun h => .inl ⟨a, xs, _, v, rfl, rfl, SqL.of h, at_of rfl e, q⟩) fun h => .inr ⟨a, xs, _, v, rfl, rfl, SqT.of h, at_of rfl e, q⟩
def sp_isrow (K : Fg) : Sp := fun vs H Q _ => ∃ (a : Addr) (xs : List V), vs = [.ref a] ∧ SeqK K H a xs ∧ ∀ H' : Hp, Same H H' → Q (.bl true) H'
theorem ok_is_row (T : Tx K mg) : FnR P w K mg base CX0 1 (He.ga K "is_row") (sp_isrow K) := by
  apply My.two; (focus intro zzI; simp only [↓ My.mkB zzI (by
  clear zzI
  refine (T.fnR 30 (st := s_is_row) (at_ := fun K => He.ga K "is_row") rfl sc_is_row (fun _ _ _ _ _ _ us hl => match us, hl with | [_], _ => rfl)) (fun vs H Q E h => ?_) (fun cdv A outer s H vs Q E hr h => ?_)
  · obtain ⟨a, xs, rfl, _⟩ := h
    rfl
  · obtain ⟨a, xs, rfl, ha, k⟩ := h
    refine ⟨_, (pss_one (ps_ret (pe_callB (isiT_k T) (by rfl) T.n_isinstance (by decide +kernel) (pa_cons (pv 0) (pa_cons (pe_tup (pa_cons (pe_bltn (v := .ty "list") (u := .type "list") rfl T.n_list (by decide +kernel) rfl) (pa_cons (pe_bltn (v := .ty "tuple") (u := .type "tuple") rfl T.n_tuple (by decide +kernel) rfl) pa_nil))) pa_nil))))), ?_⟩
    refine ⟨_, rfl, by show 2 ≤ sizeLine; decide, fun tp htp => ?_⟩
    have s1 := same_upd (o := .tup [V.ty "list", V.ty "tuple"]) htp
    obtain ⟨t, h1, h2⟩ := (ha.same s1).ty
    exact ⟨_, tp, _, _, _, true, rfl, upd_same, .cons (.ty _) (.cons (.ty _) .nil), h1, h2, k _ s1⟩
  )]); intro f; simpa using My.gz f 5 true
theorem c_is_row {X : Cx} {k : Nat} {t : TA} {e : Expr} {es : List Expr} {np pos : Pos} (T : Tx K mg) (hr : Room k X.A) (ha : PA X (e :: es) t) (hk : 1 ≤ k := by decide) (hK : X.K = K := by rfl) (hm : X.mg = mg := by rfl)
    (hg : Gl X "is_row" := by rfl) (hse : starEach (e :: es) X.env = (false, eval e X.env) :: starEach es X.env := by rfl) (hpl : (backTo pos (starEach es X.env)).any (·.1) = false := by rfl) :
    PE X (.Call (.Name "is_row" np) (e :: es) [] pos) (tFn (sp_isrow K) E0 t) := by
  subst hK
  subst hm
  exact pe_fR (ok_is_row T) T.kp_is_row T.g_is_row (hr.mono hk) pass0 ha hg (by decide) hse hpl
def sp_isbet : Sp := fun vs H Q _ => ∃ i lo hi : Int, vs = [.int i, .int lo, .int hi] ∧ Q (.bl (decide (lo ≤ i) && decide (i ≤ hi))) H
theorem ok_is_between (T : Tx K mg) : FnR P w K mg base CX0 2 (He.ga K "is_between") sp_isbet := by
  apply My.two; (focus intro zzI; simp only [↓ My.mkB zzI (by
  clear zzI
  refine (T.fnR 31 (st := s_is_between) (at_ := fun K => He.ga K "is_between") rfl sc_is_between (fun _ _ _ _ _ _ us hl => match us, hl with | [_, _, _], _ => rfl)) (fun vs H Q E h => ?_) (fun cdv A outer s H vs Q E hr h => ?_)
  · obtain ⟨i, lo, hi, rfl, _⟩ := h
    rfl
  · obtain ⟨i, lo, hi, rfl, k⟩ := h
    refine ⟨_, (pss_one (ps_ret (pe_and (c_is_integer T hr (pa_cons (pv 0) pa_nil)) (pe_one (pe_chain op_le op_le (pv 1) (pv 0) (pv 2)))))), ?_⟩
    refine ⟨_, rfl, i, rfl, true, rfl, iteT ?_⟩
    refine ⟨_, rfl, _, rfl, _, _, rfl, rfl, _, rfl, ?_⟩
    cases c : decide (lo ≤ i) with
    | true =>
      rw [c, Bool.true_and] at k
      exact iteT ⟨_, rfl, _, _, rfl, rfl, k⟩
    | false =>
      rw [c, Bool.false_and] at k
      exact iteF k
  )]); intro f; simpa using My.gz f 5 true
theorem c_is_between {X : Cx} {k : Nat} {t : TA} {e : Expr} {es : List Expr} {np pos : Pos} (T : Tx K mg) (hr : Room k X.A) (ha : PA X (e :: es) t) (hk : 2 ≤ k := by decide) (hK : X.K = K := by rfl) (hm : X.mg = mg := by rfl)
    (hg : Gl X "is_between" := by rfl) (hse : starEach (e :: es) X.env = (false, eval e X.env) :: starEach es X.env := by rfl) (hpl : (backTo pos (starEach es X.env)).any (·.1) = false := by rfl) :
    PE X (.Call (.Name "is_between" np) (e :: es) [] pos) (tFn sp_isbet E0 t) := by
  subst hK
  subst hm
  exact pe_fR (ok_is_between T) T.kp_is_between T.g_is_between (hr.mono hk) pass0 ha hg (by decide) hse hpl
def sp_mstarts (K : Fg) : Sp := fun vs H Q _ => ∃ (a : Addr) (ls : List Nat), vs = [.ref a] ∧ SqL K H a (ls.map natV) ∧ ls.length ≤ 10000 ∧ ∀ (t : Addr) (H' : Hp), Same H H' → H t = none → H' t = some (.lst ((List.range (ls.length + 1)).map fun k => natV (pre ls k))) → Q (.ref t) H'
theorem ok_month_starts (T : Tx K mg) : FnR P w K mg base CX0 1 (He.ga K "month_starts") (sp_mstarts K) := by
  apply My.two; (focus intro zzI; simp only [↓ My.mkB zzI (by
  clear zzI
  refine (T.fnR 35 (st := s_month_starts) (at_ := fun K => He.ga K "month_starts") rfl sc_month_starts (fun _ _ _ _ _ _ us hl => match us, hl with | [_], _ => rfl)) (fun vs H Q E h => ?_) (fun cdv A outer s H vs Q E hr h => ?_)
  · obtain ⟨a, ls, rfl, _⟩ := h
    rfl
  · obtain ⟨a, ls, rfl, ha, hl, k⟩ := h
    refine ⟨_, (pss_cons (ps_set (i := 1) sc_month_starts.nd rfl (Or.inl rfl) (pe_lst (pa_cons pe_int pa_nil)))
 (pss_cons (ps_for PassesOwn.never rfl (pil T (pv 0)) (pg_name (i := 2) sc_month_starts.nd rfl (Or.inl rfl))
 (pss_one (ps_expr (bmk T PySem.F.plainAttrs_list PySem.F.slot_list_append PySem.F.type_list_append mt_append (pv 1) (pa_cons (pe_op op_add (pe_ix (ixl T) (pv 1) (pe_un un_neg pe_int) (fun _ _ => rfl)) (pv 2)) pa_nil)))))
 (pss_one (ps_ret (pv 1))))), ?_⟩
    refine ⟨by show 1 ≤ sizeLine; decide, fun D hD => ?_⟩
    have l1 : (ls.map natV).length = ls.length := List.length_map ..
    refine ⟨_, rfl, a, rfl, ⟨_, sqL_same ha (same_upd (o := .lst [V.int 0]) hD)⟩, ?_⟩
    refine for_it (walk_list (xs := ls.map natV)) (fun i σ H' => (∃ v2 : Option V, σ = [some (.ref a), some (.ref D), v2]) ∧ Same H H' ∧ H' D = some (.lst ((List.range (i + 1)).map fun k => natV (pre ls k)))) ⟨⟨none, rfl⟩, same_upd hD, upd_same⟩ (fun i σ H' _ h => sqL_same ha h.2.1) ?_ ?_
    · rintro i x σ H1 H2 hi ⟨⟨v2, rfl⟩, s1, e1⟩ ⟨rfl, ex⟩
      rw [l1] at hi
      rw [List.getElem?_map, List.getElem?_eq_getElem hi] at ex
      obtain rfl := Option.some.inj ex
      have el : ((List.range (i + 1)).map fun k => natV (pre ls k)).length = i + 1 := by simp
      have g1 : ((List.range (i + 1)).map fun k => natV (pre ls k))[i]? = some (natV (pre ls i)) := by simp
      rfl'
      refine ⟨at_last el g1, ?_⟩
      rfl'
      refine ⟨⟨_, rfl⟩, same_under s1 hD, ?_⟩
      rw [upd_same, List.range_succ (n := i + 1), List.map_append]
      have e : natV (pre ls (i + 1)) = .int ((pre ls i : Int) + (ls[i] : Int)) := by
        unfold natV
        rw [pre_succ hi, List.getD_eq_getElem?_getD, List.getElem?_eq_getElem hi]
        rfl
      show _ = some (HO.lst (_ ++ [natV (pre ls (i + 1))]))
      rw [e]
    · rintro σ H1 ⟨⟨v2, rfl⟩, s1, e1⟩
      rw [l1] at e1
      exact ⟨_, rfl, k D H1 s1 hD e1⟩
  )]); intro f; simpa using My.gz f 5 true
theorem c_month_starts {X : Cx} {k : Nat} {t : TA} {e : Expr} {es : List Expr} {np pos : Pos} (T : Tx K mg) (hr : Room k X.A) (ha : PA X (e :: es) t) (hk : 1 ≤ k := by decide) (hK : X.K = K := by rfl) (hm : X.mg = mg := by rfl)
    (hg : Gl X "month_starts" := by rfl) (hse : starEach (e :: es) X.env = (false, eval e X.env) :: starEach es X.env := by rfl) (hpl : (backTo pos (starEach es X.env)).any (·.1) = false := by rfl) :
    PE X (.Call (.Name "month_starts" np) (e :: es) [] pos) (tFn (sp_mstarts K) E0 t) := by
  subst hK
  subst hm
  exact pe_fR (ok_month_starts T) T.kp_month_starts T.g_month_starts (hr.mono hk) pass0 ha hg (by decide) hse hpl
def sp_mat (K : Fg) : Sp := fun vs H Q _ => ∃ (a : Addr) (ls : List Nat) (d : Nat), vs = [.ref a, .int (d : Int)] ∧ SqL K H a ((List.range (ls.length + 1)).map fun k => natV (pre ls k)) ∧ 0 < ls.length ∧ ls.length ≤ 10000 ∧ (∀ l ∈ ls, 0 < l) ∧ d < ls.sum ∧ Q (.int (loc ls d : Nat)) H
theorem ok_month_at (T : Tx K mg) : FnR P w K mg base CX0 1 (He.ga K "month_at") (sp_mat K) := by
  apply My.two; (focus intro zzI; simp only [↓ My.mkB zzI (by
  clear zzI
  refine (T.fnR 36 (st := s_month_at) (at_ := fun K => He.ga K "month_at") rfl sc_month_at (fun _ _ _ _ _ _ us hl => match us, hl with | [_, _], _ => rfl)) (fun vs H Q E h => ?_) (fun cdv A outer s H vs Q E hr h => ?_)
  · obtain ⟨a, ls, d, rfl, _⟩ := h
    rfl
  · obtain ⟨a, ls, d, rfl, ha, l0, l1, pos, hd, k⟩ := h
    refine ⟨_, (pss_cons (ps_par (i := 2) (j := 3) (by rfl) sc_month_at.nd rfl rfl (by decide) rfl rfl (pa_cons pe_int (pa_cons (pe_op op_sub (pe_callB (len_k T) (by rfl) T.n_len (by decide +kernel) (pa_cons (pv 0) pa_nil)) pe_int) pa_nil)) (by rfl))
 (pss_cons (ps_while PassesOwn.never (pt_cmpR op_gt (pe_op op_sub (pv 3) (pv 2)) pe_int (nomark _))
 (pss_cons (ps_set (i := 4) sc_month_at.nd rfl (Or.inl rfl) (pe_op op_fdiv (pe_op op_add (pv 2) (pv 3)) pe_int))
 (pss_one (ps_if (pt_cmpR op_le (pe_ix (ixl T) (pv 0) (pv 4) (fun _ _ => rfl)) (pv 1) (nomark _))
 (pss_one (ps_set (i := 2) sc_month_at.nd rfl (Or.inl rfl) (pv 4)))
 (pss_one (ps_set (i := 3) sc_month_at.nd rfl (Or.inl rfl) (pv 4)))))))
 (pss_one (ps_ret (pv 2))))), ?_⟩
    have el : ((List.range (ls.length + 1)).map fun k => natV (pre ls k)).length = ls.length + 1 := by simp
    refine ⟨_, rfl, a, _, rfl, .inl ha, _, _, rfl, rfl, _, _, rfl, ?_⟩
    rw [el]
    refine ⟨fun m σ H' => ∃ (lo hi : Nat) (v4 : Option V), σ = [some (.ref a), some (.int (d : Int)), some (.int (lo : Int)), some (.int (hi : Int)), v4] ∧ H' = H ∧ lo < hi ∧ hi ≤ ls.length ∧ pre ls lo ≤ d ∧ d < pre ls hi ∧ m = hi - lo, ⟨_, 0, ls.length, none, ?_, rfl, l0, Nat.le_refl _, Nat.zero_le _, by rw [pre_all]; exact hd, rfl⟩, ?_⟩
    · show [some (V.ref a), some (V.int (d : Int)), some (V.int 0), some (V.int (((ls.length + 1 : Nat) : Int) - 1)), none] = _
      rw [show ((ls.length + 1 : Nat) : Int) - 1 = (ls.length : Int) by omega]
      rfl
    rintro m σ H' ⟨lo, hi, v4, rfl, rfl, h1, h2, h3, h4, rfl⟩
    refine ⟨_, rfl, _, rfl, _, _, rfl, rfl, _, _, rfl, rfl, _, rfl, ?_⟩
    refine ite2 (fun hc => wh_go ?_) (fun hc => ?_)
    · have hlt : 1 < (hi : Int) - (lo : Int) := of_decide_eq_true hc
      obtain ⟨md, hmd⟩ : ∃ md : Nat, (lo + hi) / 2 = md := ⟨_, rfl⟩
      have emd : ((lo : Int) + (hi : Int)) / 2 = (md : Int) := by omega
      refine ⟨_, rfl, _, rfl, _, _, rfl, rfl, _, _, rfl, rfl, ⟨by decide, by decide⟩, ?_⟩
      refine at_st (σ' := [some (.ref a), some (.int (d : Int)), some (.int (lo : Int)), some (.int (hi : Int)), some (.int (md : Int))]) (by rw [← emd]; rfl) ?_
      have hv : ((List.range (ls.length + 1)).map fun k => natV (pre ls k))[md]? = some (natV (pre ls md)) := by
        rw [List.getElem?_map, List.getElem?_range (by omega)]
        rfl
      refine ⟨_, rfl, _, rfl, a, _, _, natV (pre ls md), rfl, rfl, ha, at_of (j := md) rfl hv, _, rfl, _, _, rfl, rfl, _, rfl, ?_⟩
      refine ite2 (fun hq => ?_) (fun hq => ?_)
      · have hq : ((pre ls md : Nat) : Int) ≤ (d : Int) := of_decide_eq_true hq
        refine ⟨_, rfl, ?_⟩
        exact ⟨hi - md, by omega, md, hi, _, rfl, rfl, by omega, h2, by omega, h4, rfl⟩
      · have hq : ¬ ((pre ls md : Nat) : Int) ≤ (d : Int) := fun e => hq (decide_eq_true e)
        refine ⟨_, rfl, ?_⟩
        exact ⟨md - lo, by omega, lo, md, _, rfl, rfl, by omega, by omega, h3, by omega, rfl⟩
    · have hle : ¬ 1 < (hi : Int) - (lo : Int) := fun e => hc (decide_eq_true e)
      obtain rfl : hi = lo + 1 := by omega
      refine ⟨_, rfl, ?_⟩
      rw [loc_uniq pos (k := lo) (d := d) h2 h3 h4]
      exact k
  )]); intro f; simpa using My.gz f 5 true
theorem c_month_at {X : Cx} {k : Nat} {t : TA} {e : Expr} {es : List Expr} {np pos : Pos} (T : Tx K mg) (hr : Room k X.A) (ha : PA X (e :: es) t) (hk : 1 ≤ k := by decide) (hK : X.K = K := by rfl) (hm : X.mg = mg := by rfl)
    (hg : Gl X "month_at" := by rfl) (hse : starEach (e :: es) X.env = (false, eval e X.env) :: starEach es X.env := by rfl) (hpl : (backTo pos (starEach es X.env)).any (·.1) = false := by rfl) :
    PE X (.Call (.Name "month_at" np) (e :: es) [] pos) (tFn (sp_mat K) E0 t) := by
  subst hK
  subst hm
  exact pe_fR (ok_month_at T) T.kp_month_at T.g_month_at (hr.mono hk) pass0 ha hg (by decide) hse hpl
def sp_areyears : Sp := fun vs H Q _ => ∃ (a : Addr) (ts : List Addr) (rows : List (List Nat)), vs = [.ref a] ∧ SeqV H a (ts.map V.ref) ∧ RowsV H ts rows ∧ YrOk rows ∧ ∀ H' : Hp, Same H H' → Q (.bl true) H'
theorem ok_are_years (T : Tx K mg) : FnR P w K mg base CX0 3 (He.ga K "are_years") sp_areyears := by
  apply My.two; (focus intro zzI; simp only [↓ My.mkB zzI (by
  clear zzI
  refine (T.fnR 32 (st := s_are_years) (at_ := fun K => He.ga K "are_years") rfl sc_are_years (fun _ _ _ _ _ _ us hl => match us, hl with | [_], _ => rfl)) (fun vs H Q E h => ?_) (fun cdv A outer s H vs Q E hr h => ?_)
  · obtain ⟨a, ts, rows, rfl, _⟩ := h
    rfl
  · obtain ⟨a, ts, rows, rfl, ha, hr2, ok, k⟩ := h
    refine ⟨_, (pss_cons (ps_if (PW.pt (pw_or (pt_not (pt_val (c_is_row T hr (pa_cons (pv 0) pa_nil)))) (pw_or (pt_not (pt_chain op_le op_le pe_int (pe_callB (len_k T) (by rfl) T.n_len (by decide +kernel) (pa_cons (pv 0) pa_nil)) (pe_glob (v := .int 400) rfl (T.g_MAX_YEARS).choose_spec ⟨_, rfl⟩))) (pw_or1 (pt_not (pt_val (pe_callB (all_k T rfl) (by rfl) T.n_all (by decide +kernel) (pa_cons (pe_lc (own := [("year", 1)]) rfl sc_are_years.nd (pis T (pv 0)) (blkOk_by (own := [("year", 1)]) (N := N_are_years) (sc := defScope s_are_years) (by decide +kernel)) (fun _ _ _ _ _ => (pg_name (i := 1) sc_are_years.nd rfl (Or.inl rfl))) (fun _ _ _ _ _ => pts_nil) (fun _ _ _ _ _ => (c_is_row T hr (pa_cons (pv 1) pa_nil)))) pa_nil))))))))
 (pss_one (ps_ret pe_bl))
 pss_nil)
 (pss_cons (ps_if (PW.pt (pw_or (pt_not (pt_chain op_le op_le pe_int (pe_callB (len_k T) (by rfl) T.n_len (by decide +kernel) (pa_cons (pe_ix (ixq T) (pv 0) pe_int (fun _ _ => rfl)) pa_nil)) (pe_glob (v := .int 14) rfl (T.g_MAX_MONTHS).choose_spec ⟨_, rfl⟩))) (pw_or1 (pt_not (pt_val (pe_callB (all_k T rfl) (by rfl) T.n_all (by decide +kernel) (pa_cons (pe_lc (own := [("year", 1)]) rfl sc_are_years.nd (pis T (pv 0)) (blkOk_by (own := [("year", 1)]) (N := N_are_years) (sc := defScope s_are_years) (by decide +kernel)) (fun _ _ _ _ _ => (pg_name (i := 1) sc_are_years.nd rfl (Or.inl rfl))) (fun _ _ _ _ _ => pts_nil) (fun _ _ _ _ _ => (pe_cmpR op_eq (pe_callB (len_k T) (by rfl) T.n_len (by decide +kernel) (pa_cons (pv 1) pa_nil)) (pe_callB (len_k T) (by rfl) T.n_len (by decide +kernel) (pa_cons (pe_ix (ixq T) (pv 0) pe_int (fun _ _ => rfl)) pa_nil)) (nomark _)))) pa_nil)))))))
 (pss_one (ps_ret pe_bl))
 pss_nil)
 (pss_one (ps_ret (pe_callB (all_k T rfl) (by rfl) T.n_all (by decide +kernel) (pa_cons (pe_lc2 (vs1 := [2]) (own := [("year", 1), ("days", 2)]) rfl sc_are_years.nd (pis T (pv 0)) (blkOk_by (own := [("year", 1), ("days", 2)]) (N := N_are_years) (sc := defScope s_are_years) (by decide +kernel)) (by decide) (fun _ _ _ _ _ => (pg_name (i := 1) sc_are_years.nd rfl (Or.inl rfl))) (fun _ _ _ _ _ => pts_nil) (fun _ _ _ _ _ => (pis T (pv 1))) (fun _ _ _ _ _ => (pg_name (i := 2) sc_are_years.nd rfl (Or.inl rfl))) (fun _ _ _ _ _ => pts_nil) (fun _ _ _ _ _ => (c_is_between T hr (pa_cons (pv 2) (pa_cons pe_int (pa_cons (pe_glob (v := .int 40) rfl (T.g_MAX_DAYS).choose_spec ⟨_, rfl⟩) pa_nil)))))) pa_nil)))))), ?_⟩
    have L1 : (ts.map V.ref).length = rows.length := by rw [List.length_map, hr2.len]
    have le := ok.le
    have ne := ok.ne
    obtain ⟨t0, e0, h0⟩ := hr2.get (List.getElem?_eq_getElem (i := 0) ok.ne)
    have r0 : rows[0]'ok.ne = rows.getD 0 [] := by rw [List.getD_eq_getElem?_getD, List.getElem?_eq_getElem ok.ne]; rfl
    rw [r0] at h0
    have L0 : ((rows.getD 0 []).map natV).length = (rows.getD 0 []).length := List.length_map ..
    have a0 : (ts.map V.ref)[0]? = some (.ref t0) := by rw [List.getElem?_map, e0]; rfl
    rfl'
    rename_i H1 s1
    refine ⟨(ha.same s1).sq, ?_⟩
    rw [L1]
    rfl'
    rw [decide_eq_true (show (1 : Int) ≤ (rows.length : Int) by have := ok.ne; omega)]
    refine iteT ?_
    rfl'
    rw [decide_eq_true (show (rows.length : Int) ≤ 400 by have := ok.le; omega)]
    refine ⟨_, rfl, ?_⟩
    refine seq_goC ((ha.same s1).sq) fun J G wk hG D hD => ?_
    refine walk_w wk (Acc H1 D fun _ => V.bl true) (Acc.start hD) (fun i H2 _ h => hG H2 h.1) ?_ ?_
    · rintro i y H2 H3 hi hacc ⟨rfl, ey⟩
      obtain ⟨t, et, rfl⟩ := ref_at ey
      obtain ⟨r, er, hs⟩ := hr2.at et
      refine ⟨rfl, ?_⟩
      refine yes_t ?_
      refine ⟨_, rfl, t, _, rfl, .inl (hs.same (s1.trans hacc.1)), fun H4 s4 => ?_⟩
      exact hacc.push hD s4 (by omega) rfl
    rintro H2 ⟨s2, e2⟩
    rw [L1] at e2
    refine ⟨D, _, rfl, SqL.of (all_t e2 fun _ _ => rfl), ?_⟩
    rw [all_rep]
    clear hD wk hG e2
    have s12 := s1.trans s2
    have hq := (ha.same s12).sq (K := K)
    have hq0 := (h0.same s12).sq (K := K)
    refine ⟨_, rfl, ?_⟩
    refine iteF ?_
    rfl'
    refine ixq_go (j := 0) (ha.same s12) a0 ?_
    rfl'
    rw [L0]
    have m0 := ok.m0
    have m1 := ok.m1
    rfl'
    rw [decide_eq_true (show (1 : Int) ≤ ((rows.getD 0 []).length : Int) by omega)]
    refine iteT ?_
    rfl'
    rw [decide_eq_true (show ((rows.getD 0 []).length : Int) ≤ 14 by omega)]
    refine ⟨_, rfl, ?_⟩
    refine seq_goC ((ha.same s12).sq) fun J G wk hG D2 hD2 => ?_
    refine walk_w wk (Acc H2 D2 fun _ => V.bl true) (Acc.start hD2) (fun i H3 _ h => hG H3 h.1) ?_ ?_
    · rintro i y H3 H4 hi hacc ⟨rfl, ey⟩
      obtain ⟨t, et, rfl⟩ := ref_at ey
      obtain ⟨r, er, hs⟩ := hr2.at et
      have sH := s12.trans hacc.1
      have hq2 := (hs.same sH).sq (K := K)
      have hq3 := (h0.same sH).sq (K := K)
      have er2 := ok.eq r (List.mem_of_getElem? er)
      have l4 : (r.map natV).length = r.length := List.length_map ..
      refine ⟨rfl, ?_⟩
      refine yes_t ?_
      refine ⟨_, rfl, t, _, rfl, hq2, ?_⟩
      refine ⟨_, rfl, ?_⟩
      refine ixq_go (j := 0) (ha.same sH) a0 ?_
      refine ⟨t0, _, rfl, hq3, ?_⟩
      rw [l4, L0, er2]
      refine ⟨rfl, ?_⟩
      refine hacc.push hD2 (Same.refl _) (by omega) ?_
      rw [decide_eq_true rfl]
    rintro H3 ⟨s3, e3⟩
    rw [L1] at e3
    refine ⟨D2, _, rfl, SqL.of (all_t e3 fun _ _ => rfl), ?_⟩
    rw [all_rep]
    clear hD2 wk hG e3 hq hq0
    have s13 := s12.trans s3
    refine ⟨_, rfl, ?_⟩
    refine iteF ?_
    refine ⟨_, rfl, ?_⟩
    refine seq_goC ((ha.same s13).sq) fun J G wk hG D3 hD3 => ?_
    refine walk_w wk (fun i H' => Same H3 H' ∧ ∃ n, n ≤ 14 * i ∧ H' D3 = some (.lst ((List.replicate n true).map V.bl))) ⟨same_upd hD3, 0, by omega, upd_same⟩ (fun i H4 _ h => hG H4 h.1) ?_ ?_
    · rintro i y H4 H5 hi ⟨s4, n, hn, en⟩ ⟨rfl, ey⟩
      obtain ⟨t, et, rfl⟩ := ref_at ey
      obtain ⟨r, er, hs⟩ := hr2.at et
      have er2 := ok.eq r (List.mem_of_getElem? er)
      have l4 : (r.map natV).length = r.length := List.length_map ..
      refine ⟨rfl, ?_⟩
      refine yes_t ?_
      refine ⟨_, rfl, ?_⟩
      refine seq_goS ((hs.same s13).sq) s4 fun J2 G2 wk2 hG2 => ?_
      refine walk_w wk2 (fun j H' => Same H3 H' ∧ H' D3 = some (.lst ((List.replicate (n + j) true).map V.bl))) ⟨s4, en⟩ (fun j H6 _ h => hG2 H6 h.1) ?_ ?_
      · rintro j y H6 H7 hj ⟨s6, e6⟩ ⟨rfl, ey2⟩
        rw [l4] at hj
        rw [List.getElem?_map, List.getElem?_eq_getElem hj] at ey2
        obtain rfl := Option.some.inj ey2
        have dl := ok.ds r (List.mem_of_getElem? er) _ (List.getElem_mem hj)
        refine ⟨rfl, ?_⟩
        refine yes_t ?_
        refine ⟨_, rfl, (r[j] : Int), 1, 40, rfl, ?_⟩
        rw [decide_eq_true (show (1 : Int) ≤ (r[j] : Int) by omega), decide_eq_true (show (r[j] : Int) ≤ 40 by omega)]
        refine ⟨_, e6, by rw [List.length_map, List.length_replicate, sizeLine_eq]; omega, same_under s6 hD3, ?_⟩
        rw [upd_same, ← Nat.add_assoc, List.replicate_succ' (n := n + j), List.map_append]
        rfl
      · rintro H6 ⟨s6, e6⟩
        exact ⟨s6, _, by omega, e6⟩
    rintro H4 ⟨s4, n, hn, en⟩
    refine ⟨D3, _, rfl, SqL.of en, ?_⟩
    rw [all_rep]
    exact k H4 (s13.trans s4)
  )]); intro f; simpa using My.gz f 5 true
theorem c_are_years {X : Cx} {k : Nat} {t : TA} {e : Expr} {es : List Expr} {np pos : Pos} (T : Tx K mg) (hr : Room k X.A) (ha : PA X (e :: es) t) (hk : 3 ≤ k := by decide) (hK : X.K = K := by rfl) (hm : X.mg = mg := by rfl)
    (hg : Gl X "are_years" := by rfl) (hse : starEach (e :: es) X.env = (false, eval e X.env) :: starEach es X.env := by rfl) (hpl : (backTo pos (starEach es X.env)).any (·.1) = false := by rfl) :
    PE X (.Call (.Name "are_years" np) (e :: es) [] pos) (tFn sp_areyears E0 t) := by
  subst hK
  subst hm
  exact pe_fR (ok_are_years T) T.kp_are_years T.g_are_years (hr.mono hk) pass0 ha hg (by decide) hse hpl
end
end Lw
namespace Lw
open PySem PySem.Spec PyProof.Rows L2 My
section
variable {P : Program} {w : World} {K : Fg} {mg : Str → Option Value} {base : Heap}
/-- pairs as tuples -/
def PrT (H : Hp) (ts : List Addr) (ps : List (Int × Int)) : Prop := Paired (fun t p => H t = some (.tup [.int p.1, .int p.2])) ts ps
theorem PrT.prs {H : Hp} : ∀ {ts : List Addr} {ps : List (Int × Int)}, PrT H ts ps → Prs K H ts ps
  | _, _, .nil => .nil
  | _, _, .cons h t => .cons (SqT.of h) (PrT.prs t)
theorem PrT.same {H H' : Hp} (s : Same H H') : ∀ {ts : List Addr} {ps : List (Int × Int)}, PrT H ts ps → PrT H' ts ps
  | _, _, .nil => .nil
  | _, _, .cons h t => .cons (s _ _ h) (PrT.same s t)
theorem PrT.len {H : Hp} {ts : List Addr} {ps : List (Int × Int)} (h : PrT H ts ps) : ts.length = ps.length := Paired.length h
theorem PrT.at {H : Hp} : ∀ {ts : List Addr} {ps : List (Int × Int)}, PrT H ts ps → ∀ {i : Nat} {t : Addr}, ts[i]? = some t → ∃ p, ps[i]? = some p ∧ H t = some (.tup [.int p.1, .int p.2])
  | _, _, .nil, _, _, h => by cases h
  | _, _, .cons h _, 0, _, e => by
    cases e
    exact ⟨_, rfl, h⟩
  | _, _, .cons _ r, i + 1, _, e => PrT.at r (i := i) e
def sp_arewd (K : Fg) : Sp := fun vs H Q _ => ∃ (a : Addr) (rs : List Int) (wk : Int), vs = [.ref a, .int wk] ∧ SeqK K H a (rs.map V.int) ∧ rs.Nodup ∧ (∀ x ∈ rs, 0 ≤ x ∧ x < wk) ∧ rs.length ≤ 64 ∧ ∀ H' : Hp, Same H H' → Q (.bl true) H'
theorem ok_are_weekdays (T : Tx K mg) : FnR P w K mg base CX0 3 (He.ga K "are_weekdays") (sp_arewd K) := by
  apply My.two; (focus intro zzI; simp only [↓ My.mkB zzI (by
  clear zzI
  refine (T.fnR 33 (st := s_are_weekdays) (at_ := fun K => He.ga K "are_weekdays") rfl sc_are_weekdays (fun _ _ _ _ _ _ us hl => match us, hl with | [_, _], _ => rfl)) (fun vs H Q E h => ?_) (fun cdv A outer s H vs Q E hr h => ?_)
  · obtain ⟨a, rs, wk, rfl, _⟩ := h
    rfl
  · obtain ⟨a, rs, wk, rfl, ha, nd, hb, hl, k⟩ := h
    refine ⟨_, (pss_cons (ps_if (PW.pt (pw_or (pt_not (pt_val (c_is_row T hr (pa_cons (pv 0) pa_nil)))) (pw_or1 (pt_not (pt_val (pe_callB (all_k T rfl) (by rfl) T.n_all (by decide +kernel) (pa_cons (pe_lc (own := [("weekday", 2)]) rfl sc_are_weekdays.nd (pis T (pv 0)) (blkOk_by (own := [("weekday", 2)]) (N := N_are_weekdays) (sc := defScope s_are_weekdays) (by decide +kernel)) (fun _ _ _ _ _ => (pg_name (i := 2) sc_are_weekdays.nd rfl (Or.inl rfl))) (fun _ _ _ _ _ => pts_nil) (fun _ _ _ _ _ => (c_is_between T hr (pa_cons (pv 2) (pa_cons pe_int (pa_cons (pe_op op_sub (pv 1) pe_int) pa_nil)))))) pa_nil)))))))
 (pss_one (ps_ret pe_bl))
 pss_nil)
 (pss_one (ps_ret (pe_cmpR op_eq (pe_lenSetQ (by rfl) T.n_len (by rfl) T.n_set (pv 0)) (pe_callB (len_k T) (by rfl) T.n_len (by decide +kernel) (pa_cons (pv 0) pa_nil)) (nomark _))))), ?_⟩
    have L1 : (rs.map V.int).length = rs.length := List.length_map ..
    have haV := ha
    refine ⟨_, rfl, a, _, rfl, haV, fun H1 s1 => ?_⟩
    refine ⟨_, rfl, ?_⟩
    refine ⟨_, rfl, ?_⟩
    refine seq_goC ((haV.same s1).sq) fun J G wk2 hG D hD => ?_
    refine walk_w wk2 (Acc H1 D fun _ => V.bl true) (Acc.start hD) (fun i H2 _ h => hG H2 h.1) ?_ ?_
    · rintro i y H2 H3 hi hacc ⟨rfl, ey⟩
      rw [L1] at hi
      rw [List.getElem?_map, List.getElem?_eq_getElem hi] at ey
      obtain rfl := Option.some.inj ey
      have dl := hb _ (List.getElem_mem hi)
      refine ⟨rfl, ?_⟩
      refine yes_t ?_
      refine ⟨_, rfl, _, rfl, _, _, rfl, rfl, _, _, _, rfl, ?_⟩
      refine hacc.push hD (Same.refl _) (by omega) ?_
      rw [decide_eq_true (show (0 : Int) ≤ rs[i] from dl.1), decide_eq_true (show rs[i] ≤ wk - 1 by omega)]
      rfl
    rintro H2 ⟨s2, e2⟩
    rw [L1] at e2
    refine ⟨D, _, rfl, SqL.of (all_t e2 fun _ _ => rfl), ?_⟩
    rw [all_rep]
    have sH := s1.trans s2
    refine ⟨_, rfl, ?_⟩
    refine iteF ?_
    refine ⟨_, rfl, a, rs, rfl, (ha.same sH).sq, nd, by omega, ?_⟩
    refine ⟨_, rfl, a, _, rfl, (haV.same sH).sq, ?_⟩
    refine ⟨rfl, ?_⟩
    rw [L1, decide_eq_true rfl]
    exact k _ sH
  )]); intro f; simpa using My.gz f 5 true
theorem c_are_weekdays {X : Cx} {k : Nat} {t : TA} {e : Expr} {es : List Expr} {np pos : Pos} (T : Tx K mg) (hr : Room k X.A) (ha : PA X (e :: es) t) (hk : 3 ≤ k := by decide) (hK : X.K = K := by rfl) (hm : X.mg = mg := by rfl)
    (hg : Gl X "are_weekdays" := by rfl) (hse : starEach (e :: es) X.env = (false, eval e X.env) :: starEach es X.env := by rfl) (hpl : (backTo pos (starEach es X.env)).any (·.1) = false := by rfl) :
    PE X (.Call (.Name "are_weekdays" np) (e :: es) [] pos) (tFn (sp_arewd K) E0 t) := by
  subst hK
  subst hm
  exact pe_fR (ok_are_weekdays T) T.kp_are_weekdays T.g_are_weekdays (hr.mono hk) pass0 ha hg (by decide) hse hpl
def sp_areho (K : Fg) : Sp := fun vs H Q _ => ∃ (a : Addr) (ts : List Addr) (ps : List (Int × Int)) (m : Int), vs = [.ref a, .int m] ∧ SeqK K H a (ts.map V.ref) ∧ PrT H ts ps ∧ ps.Nodup ∧ (∀ p ∈ ps, 1 ≤ p.1 ∧ p.1 ≤ m ∧ 1 ≤ p.2 ∧ p.2 ≤ 40) ∧ ps.length < 64 ∧ ∀ H' : Hp, Same H H' → Q (.bl true) H'
theorem ok_are_holidays (T : Tx K mg) : FnR P w K mg base CX0 3 (He.ga K "are_holidays") (sp_areho K) := by
  apply My.two; (focus intro zzI; simp only [↓ My.mkB zzI (by
  clear zzI
  refine (T.fnR 34 (st := s_are_holidays) (at_ := fun K => He.ga K "are_holidays") rfl sc_are_holidays (fun _ _ _ _ _ _ us hl => match us, hl with | [_, _], _ => rfl)) (fun vs H Q E h => ?_) (fun cdv A outer s H vs Q E hr h => ?_)
  · obtain ⟨a, ts, ps, m, rfl, _⟩ := h
    rfl
  · obtain ⟨a, ts, ps, m, rfl, ha, hp, nd, hb, hl, k⟩ := h
    refine ⟨_, (pss_cons (ps_if (pt_not (pt_val (c_is_row T hr (pa_cons (pv 0) pa_nil))))
 (pss_one (ps_ret pe_bl))
 pss_nil)
 (pss_cons (ps_for PassesOwn.never rfl (pis T (pv 0)) (pg_name (i := 2) sc_are_holidays.nd rfl (Or.inl rfl))
 (pss_cons (ps_if (PW.pt (pw_or (pt_not (pt_val (pe_callB (isi_k T) (by rfl) T.n_isinstance (by decide +kernel) (pa_cons (pv 2) (pa_cons (pe_bltn (v := .ty "tuple") (u := .type "tuple") rfl T.n_tuple (by decide +kernel) rfl) pa_nil))))) (pw_or1 (pt_cmpR op_ne (pe_callB (len_k T) (by rfl) T.n_len (by decide +kernel) (pa_cons (pv 2) pa_nil)) pe_int (nomark _)))))
 (pss_one (ps_ret pe_bl))
 pss_nil)
 (pss_one (ps_if (PW.pt (pw_or (pt_not (pt_val (c_is_between T hr (pa_cons (pe_ix (ixt T) (pv 2) pe_int (fun _ _ => rfl)) (pa_cons pe_int (pa_cons (pv 1) pa_nil)))))) (pw_or1 (pt_not (pt_val (c_is_between T hr (pa_cons (pe_ix (ixt T) (pv 2) pe_int (fun _ _ => rfl)) (pa_cons pe_int (pa_cons (pe_glob (v := .int 40) rfl (T.g_MAX_DAYS).choose_spec ⟨_, rfl⟩) pa_nil)))))))))
 (pss_one (ps_ret pe_bl))
 pss_nil))))
 (pss_one (ps_ret (pe_cmpR op_eq (lenSetP T (by rfl) T.n_len (by rfl) T.n_set (pv 0) hr.units) (pe_callB (len_k T) (by rfl) T.n_len (by decide +kernel) (pa_cons (pv 0) pa_nil)) (nomark _)))))), ?_⟩
    have L1 : (ts.map V.ref).length = ps.length := by rw [List.length_map, hp.len]
    refine ⟨_, rfl, a, _, rfl, ha, fun H1 s1 => ?_⟩
    refine ⟨_, rfl, ?_⟩
    refine iteF ?_
    refine ⟨_, rfl, ?_⟩
    refine seq_goC ((ha.same s1).sq) fun J G wk hG => ?_
    refine for_it wk (fun i σ H' => (∃ v2 : Option V, σ = [some (.ref a), some (.int m), v2]) ∧ Same H1 H') ⟨⟨none, rfl⟩, Same.refl _⟩ (fun i σ H' _ h => hG H' h.2) ?_ ?_
    · rintro i x σ H2 H3 hi ⟨⟨v2, rfl⟩, s2⟩ ⟨rfl, ex⟩
      obtain ⟨t, et, rfl⟩ := ref_at ex
      obtain ⟨p, ep, ht⟩ := hp.at et
      have ht2 := (s1.trans s2) _ _ ht
      obtain ⟨b1, b2, b3, b4⟩ := hb p (List.mem_of_getElem? ep)
      refine ⟨_, rfl, _, _, _, _, true, rfl, .ty _, .base (.tup ht2), kit_ty (by decide +kernel), ?_⟩
      refine ⟨_, rfl, ?_⟩
      refine iteF ?_
      rfl'
      rw [decide_eq_true b1, decide_eq_true b2, Bool.and_self]
      refine iteF ?_
      rfl'
      rw [decide_eq_true b3, decide_eq_true b4, Bool.and_self]
      refine iteF ?_
      exact ⟨⟨_, rfl⟩, s2⟩
    rintro σ H2 ⟨⟨v2, rfl⟩, s2⟩
    have sH := s1.trans s2
    refine ⟨_, rfl, a, ts, ps, rfl, (ha.same sH).sq, (hp.same sH).prs, nd, hl, ?_⟩
    refine ⟨_, rfl, a, _, rfl, (ha.same sH).sq, ?_⟩
    refine ⟨rfl, ?_⟩
    rw [L1, decide_eq_true rfl]
    exact k _ sH
  )]); intro f; simpa using My.gz f 5 true
theorem c_are_holidays {X : Cx} {k : Nat} {t : TA} {e : Expr} {es : List Expr} {np pos : Pos} (T : Tx K mg) (hr : Room k X.A) (ha : PA X (e :: es) t) (hk : 3 ≤ k := by decide) (hK : X.K = K := by rfl) (hm : X.mg = mg := by rfl)
    (hg : Gl X "are_holidays" := by rfl) (hse : starEach (e :: es) X.env = (false, eval e X.env) :: starEach es X.env := by rfl) (hpl : (backTo pos (starEach es X.env)).any (·.1) = false := by rfl) :
    PE X (.Call (.Name "are_holidays" np) (e :: es) [] pos) (tFn (sp_areho K) E0 t) := by
  subst hK
  subst hm
  exact pe_fR (ok_are_holidays T) T.kp_are_holidays T.g_are_holidays (hr.mono hk) pass0 ha hg (by decide) hse hpl
end
end Lw
namespace Lw
open PySem PySem.Spec PyProof.Rows L2 My
section
variable {P : Program} {w : World} {K : Fg} {mg : Str → Option Value} {base : Heap}
/-- the fields of a calendar but the last one -/
def b8 (ay rr fr l s : Addr) (C : Cal) : List (Str × V) := [("all_years", .ref ay), ("days_of_week", .int (C.week : Int)), ("begins", .int (C.first : Int)), ("rests", .ref rr), ("free_days", .ref fr), ("lengths", .ref l), ("starts", .ref s), ("turn", .int (C.per : Int))]
def mstV (ls : List Nat) : List V := (List.range (ls.length + 1)).map fun k => natV (pre ls k)
def RowsT (H : Hp) (ts : List Addr) (rows : List (List Nat)) : Prop := Paired (fun t r => H t = some (.tup (r.map natV))) ts rows
structure CalB (H : Hp) (C : Cal) (ay rr fr l s : Addr) : Prop where
  yr : ∃ ts, H ay = some (.tup (ts.map V.ref)) ∧ RowsT H ts C.rows
  rr : H rr = some (.tup (C.rest.map V.int))
  fr : ∃ ts, H fr = some (.tup (ts.map V.ref)) ∧ PrT H ts C.hol
  l : H l = some (.lst (C.ls.map natV))
  s : H s = some (.lst (mstV C.ls))
def CalF (K : Fg) (H : Hp) (c : Addr) (C : Cal) (ws : List (Str × V)) : Prop := ∃ dx ay rr fr l s : Addr, H c = some (.ins (CA K) dx (b8 ay rr fr l s C ++ ws)) ∧ CalB H C ay rr fr l s ∧ C.Ok
/-- a calendar, perhaps without the work days -/
def WsOk (ws : List (Str × V)) : Prop := ws = [] ∨ ∃ a : Addr, ws = [(("works" : Str), V.ref a)]
def CalX (K : Fg) (H : Hp) (c : Addr) (C : Cal) : Prop := ∃ ws : List (Str × V), WsOk ws ∧ CalF K H c C ws
/-- a calendar -/
def CalAt (K : Fg) (H : Hp) (c : Addr) (C : Cal) : Prop := ∃ a : Addr, CalF K H c C [("works", .ref a)] ∧ H a = some (.lst (C.works.map natV)) ∧ C.works ≠ []
theorem CalAt.x {H : Hp} {c : Addr} {C : Cal} (h : CalAt K H c C) : CalX K H c C := by
  obtain ⟨a, h1, _⟩ := h
  exact ⟨_, .inr ⟨a, rfl⟩, h1⟩
theorem RowsT.same {H H' : Hp} (s : Same H H') : ∀ {ts : List Addr} {rows : List (List Nat)}, RowsT H ts rows → RowsT H' ts rows
  | _, _, .nil => .nil
  | _, _, .cons h t => .cons (s _ _ h) (RowsT.same s t)
theorem RowsT.get {H : Hp} : ∀ {ts : List Addr} {rows : List (List Nat)}, RowsT H ts rows → ∀ {i : Nat} {r : List Nat}, rows[i]? = some r → ∃ t, ts[i]? = some t ∧ H t = some (.tup (r.map natV))
  | _, _, .nil, _, _, h => by cases h
  | _, _, .cons h _, 0, _, e => by
    cases e
    exact ⟨_, rfl, h⟩
  | _, _, .cons _ t, i + 1, _, e => RowsT.get t (i := i) e
theorem RowsT.len {H : Hp} {ts : List Addr} {rows : List (List Nat)} (h : RowsT H ts rows) : ts.length = rows.length := Paired.length h
theorem CalB.same {H H' : Hp} {C : Cal} {ay rr fr l s : Addr} (h : CalB H C ay rr fr l s) (sm : Same H H') : CalB H' C ay rr fr l s := by
  obtain ⟨⟨t1, a1, a2⟩, b, ⟨t2, c1, c2⟩, d, e⟩ := h
  exact ⟨⟨t1, sm _ _ a1, a2.same sm⟩, sm _ _ b, ⟨t2, sm _ _ c1, c2.same sm⟩, sm _ _ d, sm _ _ e⟩
theorem CalF.same {H H' : Hp} {c : Addr} {C : Cal} {ws : List (Str × V)} (h : CalF K H c C ws) (s : Same H H') : CalF K H' c C ws := by
  obtain ⟨dx, ay, rr, fr, l, st, h1, h2, h3⟩ := h
  exact ⟨dx, ay, rr, fr, l, st, s _ _ h1, h2.same s, h3⟩
theorem CalX.same {H H' : Hp} {c : Addr} {C : Cal} (h : CalX K H c C) (s : Same H H') : CalX K H' c C := by
  obtain ⟨ws, h1, h2⟩ := h
  exact ⟨ws, h1, h2.same s⟩
theorem CalAt.same {H H' : Hp} {c : Addr} {C : Cal} (h : CalAt K H c C) (s : Same H H') : CalAt K H' c C := by
  obtain ⟨a, h1, h2, h3⟩ := h
  exact ⟨a, h1.same s, s _ _ h2, h3⟩
theorem b8_none {ay rr fr l s : Addr} {C : Cal} {ws : List (Str × V)} (hw : WsOk ws) {m : Str} (h : (b8 0 0 0 0 0 ⟨[], 0, 0, [], []⟩ ++ [(("works" : Str), V.ref 0)]).lookup m = none := by rfl) : (b8 ay rr fr l s C ++ ws).lookup m = none := by
  apply My.two; (focus intro zzI; simp only [↓ My.mkB zzI (by
  clear zzI
  have key : ∀ (xs ys : List (Str × V)), xs.map (·.1) = ys.map (·.1) → xs.lookup m = none → ys.lookup m = none := fun xs => by
    induction xs with
    | nil =>
      intro ys e _
      cases ys with
      | nil => rfl
      | cons y ys => cases e
    | cons x xs ih =>
      intro ys e hx
      cases ys with
      | nil => cases e
      | cons y ys =>
        obtain ⟨a, b⟩ := x
        obtain ⟨a', b'⟩ := y
        simp only [List.map_cons, List.cons.injEq] at e
        obtain ⟨rfl, e⟩ := e
        rw [List.lookup_cons] at hx ⊢
        split
        · rename_i z
          rw [z] at hx
          cases hx
        · rename_i z
          rw [z] at hx
          exact ih ys e hx
  have one : (b8 ay rr fr l s C ++ [(("works" : Str), V.ref 0)]).lookup m = none := key (b8 0 0 0 0 0 ⟨[], 0, 0, [], []⟩ ++ [(("works" : Str), V.ref 0)]) _ rfl h
  rcases hw with rfl | ⟨a, rfl⟩
  · rw [List.append_nil]
    have := one
    rw [List.lookup_append] at this
    cases z : (b8 ay rr fr l s C).lookup m with
    | none => rfl
    | some v =>
      rw [z] at this
      cases this
  · exact key (b8 ay rr fr l s C ++ [(("works" : Str), V.ref 0)]) _ rfl one
  )]); intro f; simpa using My.gz f 5 true
theorem mst_last {ls : List Nat} : atI (mstV ls) (-1) = some (.int (ls.sum : Int)) := by
  apply My.two; (focus intro zzI; simp only [↓ My.mkB zzI (by
  clear zzI
  refine at_last (n := ls.length) (by unfold mstV; simp) ?_
  unfold mstV
  rw [List.getElem?_map, List.getElem?_range (by omega), Option.map_some, pre_all]
  rfl
  )]); intro f; simpa using My.gz f 5 true
theorem mst_at {ls : List Nat} {k : Nat} (h : k ≤ ls.length) : atI (mstV ls) (k : Int) = some (natV (pre ls k)) := by
  apply My.two; (focus intro zzI; simp only [↓ My.mkB zzI (by
  clear zzI
  refine at_of (j := k) rfl ?_
  unfold mstV
  rw [List.getElem?_map, List.getElem?_range (by omega)]
  rfl
  )]); intro f; simpa using My.gz f 5 true
theorem mst_mod {ls : List Nat} (h0 : 0 < ls.length) (m : Int) : atI (mstV ls) (m % (((ls.map natV).length : Nat) : Int)) = some (natV (pre ls (m % (ls.length : Int)).toNat)) := by
  apply My.two; (focus intro zzI; simp only [↓ My.mkB zzI (by
  clear zzI
  have h1 := Int.emod_nonneg m (show (ls.length : Int) ≠ 0 by omega)
  have h2 := Int.emod_lt_of_pos m (show (0 : Int) < (ls.length : Int) by omega)
  rw [List.length_map, ← mst_at (show (m % (ls.length : Int)).toNat ≤ ls.length by omega), Int.toNat_of_nonneg h1]
  )]); intro f; simpa using My.gz f 5 true
theorem flatC (zs : List Int) : (zs.map V.int).all flatV = true := by
  apply My.two; (focus intro zzI; simp only [↓ My.mkB zzI (by
  clear zzI
  induction zs with
  | nil => rfl
  | cons z zs ih =>
    rw [List.map_cons, List.all_cons, ih]
    rfl
  )]); intro f; simpa using My.gz f 5 true
theorem inC {z : Int} : ∀ {zs : List Int}, inV (.int z) (zs.map V.int) = decide (z ∈ zs)
  | [] => rfl
  | y :: zs => by
    apply My.two; (focus intro zzI; simp only [↓ My.mkB zzI (by
    clear zzI
    have ih := inC (z := z) (zs := zs)
    unfold inV at ih ⊢
    rw [List.map_cons, List.any_cons, ih, show eqV (.int y) (.int z) = decide (y = z) from rfl, Bool.eq_iff_iff, Bool.or_eq_true, decide_eq_true_iff, decide_eq_true_iff, decide_eq_true_iff, List.mem_cons]
    exact ⟨fun h => h.imp Eq.symm id, fun h => h.imp Eq.symm id⟩
    )]); intro f; simpa using My.gz f 5 true
theorem prPs_depth : ∀ zs : List (Int × Int), PyData.depthAll (zs.map prP) ≤ 1
  | [] => Nat.zero_le _
  | z :: zs => by
    apply My.two; (focus intro zzI; simp only [↓ My.mkB zzI (by
    clear zzI
    have h1 := prPs_depth zs
    have h2 : (prP z).depth = 1 := by simp [prP, PyData.depth, PyData.depthAll]
    simp only [List.map_cons, PyData.depthAll]
    omega
    )]); intro f; simpa using My.gz f 5 true
theorem prPs_shaped (zs : List (Int × Int)) : SeqAt.shaped (.tuple (zs.map prP)) = true := by
  apply My.two; (focus intro zzI; simp only [↓ My.mkB zzI (by
  clear zzI
  have h1 := prPs_depth zs
  show (PyData.canLay0 (.tuple (zs.map prP)) && decide (PyData.depth (.tuple (zs.map prP)) ≤ 64)) = true
  rw [Bool.and_eq_true]
  refine ⟨by simp only [PyData.canLay0]; exact prPs_lay zs, decide_eq_true ?_⟩
  simp only [PyData.depth]
  omega
  )]); intro f; simpa using My.gz f 5 true
theorem prPs_nil (zs : List (Int × Int)) : PyData.eqv (.tuple (zs.map prP)) (.tuple []) = zs.isEmpty := by
  apply My.two; (focus intro zzI; simp only [↓ My.mkB zzI (by
  clear zzI
  cases zs with
  | nil => simp [PyData.eqv, PyData.eqvAll]
  | cons z zs => simp [PyData.eqv, PyData.eqvAll]
  )]); intro f; simpa using My.gz f 5 true
def sp_cper (K : Fg) : Sp := fun vs H Q _ => ∃ (c : Addr) (C : Cal), vs = [.ref c] ∧ CalX K H c C ∧ Q (.int (C.per : Int)) H
theorem okC_period (T : Tx K mg) : FnR P w K mg base CX0 1 (He5.wf K (CA K) "property" "period") (sp_cper K) := by
  apply My.two; (focus intro zzI; simp only [↓ My.mkB zzI (by
  clear zzI
  refine (T.fnR 11 (st := s_Calendar_period) (at_ := fun K => He5.wf K (He.ga K "Calendar") "property" "period") rfl sc_Calendar_period (fun _ _ _ _ _ _ us hl => match us, hl with | [_], _ => rfl)) (fun vs H Q E h => ?_) (fun cdv A outer s H vs Q E hr h => ?_)
  · obtain ⟨c, C, rfl, _⟩ := h
    rfl
  · obtain ⟨c, C, rfl, ⟨ws, hw, dx, ay, rr, fr, l, st, hc, B, ok⟩, q⟩ := h
    refine ⟨_, (pss_one (ps_ret (fld T (pv 0)))), ?_⟩
    exact ⟨_, rfl, c, _, dx, _, _, rfl, hc, T.cl_CA, T.no_CA_turn, rfl, q⟩
  )]); intro f; simpa using My.gz f 5 true
theorem pC_period {X : Cx} {k : Nat} {e : Expr} {ta : TE} {pos : Pos} (T : Tx K mg) (hr : Room k X.A) (he : PE X e ta) (hk : 2 ≤ k := by decide) (hK : X.K = K := by rfl) (hm : X.mg = mg := by rfl)
    (hab : attributeBase e "period" X.env (eval e X.env) = eval e X.env := by rfl) : PE X (.Attribute e "period" pos) (tPropR (CA K) (sp_cper K) E0 ta) := by
  subst hK
  subst hm
  exact pe_propR he T.cl_CA T.pr_CA_period (okC_period T) (hr.mono hk) pass0 hab
def sp_cmon (K : Fg) : Sp := fun vs H Q _ => ∃ (c : Addr) (C : Cal), vs = [.ref c] ∧ CalX K H c C ∧ Q (.int (C.mon : Int)) H
theorem okC_months (T : Tx K mg) : FnR P w K mg base CX0 1 (He5.wf K (CA K) "property" "months") (sp_cmon K) := by
  apply My.two; (focus intro zzI; simp only [↓ My.mkB zzI (by
  clear zzI
  refine (T.fnR 9 (st := s_Calendar_months) (at_ := fun K => He5.wf K (He.ga K "Calendar") "property" "months") rfl sc_Calendar_months (fun _ _ _ _ _ _ us hl => match us, hl with | [_], _ => rfl)) (fun vs H Q E h => ?_) (fun cdv A outer s H vs Q E hr h => ?_)
  · obtain ⟨c, C, rfl, _⟩ := h
    rfl
  · obtain ⟨c, C, rfl, ⟨ws, hw, dx, ay, rr, fr, l, st, hc, B, ok⟩, q⟩ := h
    refine ⟨_, (pss_one (ps_ret (pe_callB (len_k T) (by rfl) T.n_len (by decide +kernel) (pa_cons (pe_ix (ixt T) (fld T (pv 0)) pe_int (fun _ _ => rfl)) pa_nil)))), ?_⟩
    refine ⟨_, rfl, c, _, dx, _, _, rfl, hc, T.cl_CA, T.no_CA_all_years, rfl, ?_⟩
    obtain ⟨ts, ha, hr2⟩ := B.yr
    obtain ⟨t0, e0, h0⟩ := hr2.get (List.getElem?_eq_getElem (i := 0) ok.yr.ne)
    refine ⟨ay, _, _, .ref t0, rfl, rfl, SqT.of ha, at_of (j := 0) rfl (by rw [List.getElem?_map, e0]; rfl), ?_⟩
    refine ⟨t0, _, rfl, .inr (SqT.of h0), ?_⟩
    rw [List.length_map]
    have em : (C.rows[0]'ok.yr.ne).length = C.mon := by
      unfold Cal.mon
      rw [List.getD_eq_getElem?_getD, List.getElem?_eq_getElem ok.yr.ne]
      rfl
    rw [em]
    exact q
  )]); intro f; simpa using My.gz f 5 true
theorem pC_months {X : Cx} {k : Nat} {e : Expr} {ta : TE} {pos : Pos} (T : Tx K mg) (hr : Room k X.A) (he : PE X e ta) (hk : 2 ≤ k := by decide) (hK : X.K = K := by rfl) (hm : X.mg = mg := by rfl)
    (hab : attributeBase e "months" X.env (eval e X.env) = eval e X.env := by rfl) : PE X (.Attribute e "months" pos) (tPropR (CA K) (sp_cmon K) E0 ta) := by
  subst hK
  subst hm
  exact pe_propR he T.cl_CA T.pr_CA_months (okC_months T) (hr.mono hk) pass0 hab
def sp_cwkd (K : Fg) : Sp := fun vs H Q _ => ∃ (c : Addr) (C : Cal) (d : Int), vs = [.ref c, .int d] ∧ CalX K H c C ∧ Q (.int (C.wkd d)) H
theorem okC_weekday (T : Tx K mg) : FnR P w K mg base CX0 1 (He.ma K (CA K) "weekday") (sp_cwkd K) := by
  apply My.two; (focus intro zzI; simp only [↓ My.mkB zzI (by
  clear zzI
  refine (T.fnR 18 (st := s_Calendar_weekday) (at_ := fun K => He.ma K (He.ga K "Calendar") "weekday") rfl sc_Calendar_weekday (fun _ _ _ _ _ _ us hl => match us, hl with | [_, _], _ => rfl)) (fun vs H Q E h => ?_) (fun cdv A outer s H vs Q E hr h => ?_)
  · obtain ⟨c, C, d, rfl, _⟩ := h
    rfl
  · obtain ⟨c, C, d, rfl, ⟨ws, hw, dx, ay, rr, fr, l, st, hc, B, ok⟩, q⟩ := h
    refine ⟨_, (pss_one (ps_ret (pe_op op_mod (pe_op op_add (pv 1) (fld T (pv 0))) (fld T (pv 0))))), ?_⟩
    have w0 := ok.w0
    have w1 := ok.w1
    rfl'
    exact q
  )]); intro f; simpa using My.gz f 5 true
theorem mC_weekday {X : Cx} {k : Nat} {o e : Expr} {es : List Expr} {ta : TE} {t : TA} {apos pos : Pos} {pl : Sem Bool} (T : Tx K mg) (hr : Room k X.A) (he : PE X o ta) (ha : PA X (e :: es) t) (hk : 1 ≤ k := by decide) (hK : X.K = K := by rfl) (hm : X.mg = mg := by rfl)
    (hst : starEach (e :: es) X.env = (false, eval e X.env) :: starEach es X.env := by rfl) (hpl : (backTo pos (starEach es X.env)).any (·.1) = false := by rfl)
    (ht : eval (.Call (.Attribute o "weekday" apos) (e :: es) [] pos) X.env = (do
      let ov ← eval o X.env
      standAt apos.atName
      let (f, first) ← holding [ov] (getMethod ov "weekday" pl)
      callWith pos f first (backTo pos (starEach (e :: es) X.env)) (backToKw pos (keywordEach [] X.env))) := by rfl) :
    PE X (.Call (.Attribute o "weekday" apos) (e :: es) [] pos) (tMethR (CA K) "weekday" (sp_cwkd K) E0 ta t) := by
  subst hK
  subst hm
  exact pe_methR he T.cl_CA T.me_CA_weekday (okC_weekday T) (hr.mono hk) pass0 ha hst hpl ht
def sp_cmst (K : Fg) : Sp := fun vs H Q _ => ∃ (c : Addr) (C : Cal) (m : Int), vs = [.ref c, .int m] ∧ CalX K H c C ∧ Q (.int (ms C.ls m)) H
theorem okC_month_start (T : Tx K mg) : FnR P w K mg base CX0 1 (He.ma K (CA K) "month_start") (sp_cmst K) := by
  apply My.two; (focus intro zzI; simp only [↓ My.mkB zzI (by
  clear zzI
  refine (T.fnR 12 (st := s_Calendar_month_start) (at_ := fun K => He.ma K (He.ga K "Calendar") "month_start") rfl sc_Calendar_month_start (fun _ _ _ _ _ _ us hl => match us, hl with | [_, _], _ => rfl)) (fun vs H Q E h => ?_) (fun cdv A outer s H vs Q E hr h => ?_)
  · obtain ⟨c, C, m, rfl, _⟩ := h
    rfl
  · obtain ⟨c, C, m, rfl, ⟨ws, hw, dx, ay, rr, fr, l, st, hc, B, ok⟩, q⟩ := h
    refine ⟨_, (pss_cons (ps_set (i := 2) sc_Calendar_month_start.nd rfl (Or.inl rfl) (pe_callB (len_k T) (by rfl) T.n_len (by decide +kernel) (pa_cons (fld T (pv 0)) pa_nil)))
 (pss_one (ps_ret (pe_op op_add (pe_op op_mul (pe_op op_fdiv (pv 1) (pv 2)) (pe_ix (ixl T) (fld T (pv 0)) (pe_un un_neg pe_int) (fun _ _ => rfl))) (pe_ix (ixl T) (fld T (pv 0)) (pe_op op_mod (pv 1) (pv 2)) (fun _ _ => rfl)))))), ?_⟩
    have n0 := ok.ne
    have n1 := ok.le
    have hl := B.l
    have hs := B.s
    have s1 := ok.s1
    have el : (C.ls.map natV).length = C.ls.length := List.length_map ..
    rfl'
    refine ⟨mst_last, ?_⟩
    rfl'
    refine ⟨mst_mod n0 m, ?_⟩
    rfl'
    rw [el]
    exact q
  )]); intro f; simpa using My.gz f 5 true
theorem mC_month_start {X : Cx} {k : Nat} {o e : Expr} {es : List Expr} {ta : TE} {t : TA} {apos pos : Pos} {pl : Sem Bool} (T : Tx K mg) (hr : Room k X.A) (he : PE X o ta) (ha : PA X (e :: es) t) (hk : 1 ≤ k := by decide) (hK : X.K = K := by rfl) (hm : X.mg = mg := by rfl)
    (hst : starEach (e :: es) X.env = (false, eval e X.env) :: starEach es X.env := by rfl) (hpl : (backTo pos (starEach es X.env)).any (·.1) = false := by rfl)
    (ht : eval (.Call (.Attribute o "month_start" apos) (e :: es) [] pos) X.env = (do
      let ov ← eval o X.env
      standAt apos.atName
      let (f, first) ← holding [ov] (getMethod ov "month_start" pl)
      callWith pos f first (backTo pos (starEach (e :: es) X.env)) (backToKw pos (keywordEach [] X.env))) := by rfl) :
    PE X (.Call (.Attribute o "month_start" apos) (e :: es) [] pos) (tMethR (CA K) "month_start" (sp_cmst K) E0 ta t) := by
  subst hK
  subst hm
  exact pe_methR he T.cl_CA T.me_CA_month_start (okC_month_start T) (hr.mono hk) pass0 ha hst hpl ht
def sp_cmn (K : Fg) : Sp := fun vs H Q _ => ∃ (c : Addr) (C : Cal) (d : Int), vs = [.ref c, .int d] ∧ CalX K H c C ∧ Q (.int (C.num d)) H
theorem okC_month_number (T : Tx K mg) : FnR P w K mg base CX0 2 (He.ma K (CA K) "month_number") (sp_cmn K) := by
  apply My.two; (focus intro zzI; simp only [↓ My.mkB zzI (by
  clear zzI
  refine (T.fnR 14 (st := s_Calendar_month_number) (at_ := fun K => He.ma K (He.ga K "Calendar") "month_number") rfl sc_Calendar_month_number (fun _ _ _ _ _ _ us hl => match us, hl with | [_, _], _ => rfl)) (fun vs H Q E h => ?_) (fun cdv A outer s H vs Q E hr h => ?_)
  · obtain ⟨c, C, d, rfl, _⟩ := h
    rfl
  · obtain ⟨c, C, d, rfl, ⟨ws, hw, dx, ay, rr, fr, l, st, hc, B, ok⟩, q⟩ := h
    refine ⟨_, (pss_cons (ps_set (i := 2) sc_Calendar_month_number.nd rfl (Or.inl rfl) (pe_ix (ixl T) (fld T (pv 0)) (pe_un un_neg pe_int) (fun _ _ => rfl)))
 (pss_one (ps_ret (pe_op op_add (pe_op op_mul (pe_op op_fdiv (pv 1) (pv 2)) (pe_callB (len_k T) (by rfl) T.n_len (by decide +kernel) (pa_cons (fld T (pv 0)) pa_nil))) (c_month_at T hr (pa_cons (fld T (pv 0)) (pa_cons (pe_op op_mod (pv 1) (pv 2)) pa_nil))))))), ?_⟩
    have n0 := ok.ne
    have n1 := ok.le
    have s0 := ok.s0
    have s1 := ok.s1
    have hl := B.l
    have hs := B.s
    have el : (C.ls.map natV).length = C.ls.length := List.length_map ..
    rfl'
    refine ⟨mst_last, ?_⟩
    have r0 := Int.emod_nonneg d (show (C.ls.sum : Int) ≠ 0 by omega)
    have r1 := Int.emod_lt_of_pos d (show (0 : Int) < (C.ls.sum : Int) by omega)
    obtain ⟨r, er⟩ : ∃ r : Nat, d % (C.ls.sum : Int) = (r : Int) := ⟨_, (Int.toNat_of_nonneg r0).symm⟩
    rfl'
    refine ⟨st, C.ls, r, ?_, SqL.of hs, n0, by omega, ok.pos, by omega, ?_⟩
    · show [V.ref st, V.int (d % (C.ls.sum : Int))] = _
      rw [er]
    refine ⟨_, _, rfl, rfl, ?_⟩
    rw [el]
    have e : C.num d = d / (C.ls.sum : Int) * (C.ls.length : Int) + (loc C.ls r : Int) := by
      unfold Cal.num mn
      rw [er, Int.toNat_natCast]
    rw [e] at q
    exact q
  )]); intro f; simpa using My.gz f 5 true
theorem mC_month_number {X : Cx} {k : Nat} {o e : Expr} {es : List Expr} {ta : TE} {t : TA} {apos pos : Pos} {pl : Sem Bool} (T : Tx K mg) (hr : Room k X.A) (he : PE X o ta) (ha : PA X (e :: es) t) (hk : 2 ≤ k := by decide) (hK : X.K = K := by rfl) (hm : X.mg = mg := by rfl)
    (hst : starEach (e :: es) X.env = (false, eval e X.env) :: starEach es X.env := by rfl) (hpl : (backTo pos (starEach es X.env)).any (·.1) = false := by rfl)
    (ht : eval (.Call (.Attribute o "month_number" apos) (e :: es) [] pos) X.env = (do
      let ov ← eval o X.env
      standAt apos.atName
      let (f, first) ← holding [ov] (getMethod ov "month_number" pl)
      callWith pos f first (backTo pos (starEach (e :: es) X.env)) (backToKw pos (keywordEach [] X.env))) := by rfl) :
    PE X (.Call (.Attribute o "month_number" apos) (e :: es) [] pos) (tMethR (CA K) "month_number" (sp_cmn K) E0 ta t) := by
  subst hK
  subst hm
  exact pe_methR he T.cl_CA T.me_CA_month_number (okC_month_number T) (hr.mono hk) pass0 ha hst hpl ht
def sp_cparts (K : Fg) : Sp := fun vs H Q _ => ∃ (c : Addr) (C : Cal) (d : Int), vs = [.ref c, .int d] ∧ CalX K H c C ∧ ∀ (t : Addr) (H' : Hp), Same H H' → H t = none → H' t = some (.tup [.int (C.yr d), .int (C.mth d), .int (C.day d)]) → Q (.ref t) H'
theorem okC_parts (T : Tx K mg) : FnR P w K mg base CX0 3 (He.ma K (CA K) "parts") (sp_cparts K) := by
  apply My.two; (focus intro zzI; simp only [↓ My.mkB zzI (by
  clear zzI
  refine (T.fnR 17 (st := s_Calendar_parts) (at_ := fun K => He.ma K (He.ga K "Calendar") "parts") rfl sc_Calendar_parts (fun _ _ _ _ _ _ us hl => match us, hl with | [_, _], _ => rfl)) (fun vs H Q E h => ?_) (fun cdv A outer s H vs Q E hr h => ?_)
  · obtain ⟨c, C, d, rfl, _⟩ := h
    rfl
  · obtain ⟨c, C, d, rfl, hX, k⟩ := h
    refine ⟨_, (pss_cons (ps_set (i := 2) sc_Calendar_parts.nd rfl (Or.inl rfl) (mC_month_number T hr (pv 0) (pa_cons (pv 1) pa_nil)))
 (pss_one (ps_ret (pe_tup (pa_cons (pe_op op_fdiv (pv 2) (pC_months T hr (pv 0))) (pa_cons (pe_op op_add (pe_op op_mod (pv 2) (pC_months T hr (pv 0))) pe_int) (pa_cons (pe_op op_add (pe_op op_sub (pv 1) (mC_month_start T hr (pv 0) (pa_cons (pv 2) pa_nil))) pe_int) pa_nil))))))), ?_⟩
    obtain ⟨ws, hw, dx, ay, rr, fr, l, st, hc, B, ok⟩ := id hX
    have m0 := ok.m0
    have m1 := ok.m1
    have k1 : (b8 ay rr fr l st C ++ ws).lookup ("month_number" : Str) = none := b8_none hw
    have k2 : (b8 ay rr fr l st C ++ ws).lookup ("month_start" : Str) = none := b8_none hw
    rfl'
    rename_i p hp H1 s1 f1
    exact k p H1 s1 hp f1
  )]); intro f; simpa using My.gz f 5 true
theorem mC_parts {X : Cx} {k : Nat} {o e : Expr} {es : List Expr} {ta : TE} {t : TA} {apos pos : Pos} {pl : Sem Bool} (T : Tx K mg) (hr : Room k X.A) (he : PE X o ta) (ha : PA X (e :: es) t) (hk : 3 ≤ k := by decide) (hK : X.K = K := by rfl) (hm : X.mg = mg := by rfl)
    (hst : starEach (e :: es) X.env = (false, eval e X.env) :: starEach es X.env := by rfl) (hpl : (backTo pos (starEach es X.env)).any (·.1) = false := by rfl)
    (ht : eval (.Call (.Attribute o "parts" apos) (e :: es) [] pos) X.env = (do
      let ov ← eval o X.env
      standAt apos.atName
      let (f, first) ← holding [ov] (getMethod ov "parts" pl)
      callWith pos f first (backTo pos (starEach (e :: es) X.env)) (backToKw pos (keywordEach [] X.env))) := by rfl) :
    PE X (.Call (.Attribute o "parts" apos) (e :: es) [] pos) (tMethR (CA K) "parts" (sp_cparts K) E0 ta t) := by
  subst hK
  subst hm
  exact pe_methR he T.cl_CA T.me_CA_parts (okC_parts T) (hr.mono hk) pass0 ha hst hpl ht
def sp_cisw (K : Fg) : Sp := fun vs H Q _ => ∃ (c : Addr) (C : Cal) (d : Int), vs = [.ref c, .int d] ∧ CalX K H c C ∧ ∀ H' : Hp, Same H H' → Q (.bl (C.isW d)) H'
theorem okC_is_work (T : Tx K mg) : FnR P w K mg base CX0 4 (He.ma K (CA K) "is_work") (sp_cisw K) := by
  apply My.two; (focus intro zzI; simp only [↓ My.mkB zzI (by
  clear zzI
  refine (T.fnR 19 (st := s_Calendar_is_work) (at_ := fun K => He.ma K (He.ga K "Calendar") "is_work") rfl sc_Calendar_is_work (fun _ _ _ _ _ _ us hl => match us, hl with | [_, _], _ => rfl)) (fun vs H Q E h => ?_) (fun cdv A outer s H vs Q E hr h => ?_)
  · obtain ⟨c, C, d, rfl, _⟩ := h
    rfl
  · obtain ⟨c, C, d, rfl, hX, k⟩ := h
    refine ⟨_, (pss_cons (ps_if (pt_cmpR (inq T) (mC_weekday T hr (pv 0) (pa_cons (pv 1) pa_nil)) (fld T (pv 0)) (by rfl))
 (pss_one (ps_ret pe_bl))
 pss_nil)
 (pss_one (ps_ret (pe_or (pe_cmpR (eqd T hr.units) (fld T (pv 0)) (pe_tup pa_nil) (nomark _)) (pe_one (pe_cmpR (ninP T hr.units) (pe_slice (slt T) (mC_parts T hr (pv 0) (pa_cons (pv 1) pa_nil)) (po_some pe_int) po_none) (fld T (pv 0)) (by rfl))))))), ?_⟩
    obtain ⟨ws, hw, dx, ay, rr, fr, l, st, hc, B, ok⟩ := id hX
    have k1 : (b8 ay rr fr l st C ++ ws).lookup ("weekday" : Str) = none := b8_none hw
    have k2 : (b8 ay rr fr l st C ++ ws).lookup ("parts" : Str) = none := b8_none hw
    obtain ⟨ts, hf, hp⟩ := B.fr
    rfl'
    refine ⟨.inr (SqT.of B.rr), rfl, flatC _, ?_⟩
    rw [if_neg (show ¬ (false = true) by decide), inC]
    refine ⟨_, rfl, ?_⟩
    have iw : C.isW d = (!decide (C.wkd d ∈ C.rest) && !decide ((C.mth d, C.day d) ∈ C.hol)) := rfl
    refine ite2 (fun c1 => ?_) (fun c1 => ?_)
    · rw [c1] at iw
      have := k H (Same.refl _)
      rw [iw] at this
      exact this
    rw [Bool.eq_false_iff.mpr c1, Bool.not_false, Bool.true_and] at iw
    rw [iw] at k
    rfl'
    rename_i p1 hp1 H1 s1 f1
    refine ⟨.tuple (C.hol.map prP), .tuple [], .tup (SqT.of (s1 _ _ hf)) ((hp.same s1).prs).dp, .tup (SqT.of f1) .nil, prPs_shaped _, by decide, ?_⟩
    rw [prPs_nil]
    refine ⟨_, rfl, ?_⟩
    refine ite2 (fun c2 => ?_) (fun c2 => ?_)
    · have hn : C.hol = [] := List.isEmpty_iff.mp c2
      have := k H1 s1
      rw [hn] at this
      exact this
    have hc1 := s1 _ _ hc
    have hX1 := hX.same s1
    rfl'
    rename_i o H2 s2 ho
    intro e2
    have hc2 := s2 _ _ hc1
    rfl'
    refine ⟨fun h => absurd (show HT.sIx 3 0 (some 1) = 0 from h.1) (by decide), fun p3 hp3 => ?_⟩
    rw [show cutV [V.int (C.yr d), V.int (C.mth d), V.int (C.day d)] (some 1) none = [V.int (C.mth d), V.int (C.day d)] from rfl]
    have s3 := same_upd (o := .tup [V.int (C.mth d), V.int (C.day d)]) hp3
    have sH := (s1.trans s2).trans s3
    refine ⟨_, rfl, c, _, dx, _, _, rfl, s3 _ _ hc2, T.cl_CA, T.no_CA_free_days, rfl, ?_⟩
    exact ⟨p3, fr, (C.mth d, C.day d), ts, C.hol, rfl, rfl, SqT.of upd_same, .inr (SqT.of (sH _ _ hf)), (hp.same sH).prs, k _ sH⟩
  )]); intro f; simpa using My.gz f 5 true
theorem mC_is_work {X : Cx} {k : Nat} {o e : Expr} {es : List Expr} {ta : TE} {t : TA} {apos pos : Pos} {pl : Sem Bool} (T : Tx K mg) (hr : Room k X.A) (he : PE X o ta) (ha : PA X (e :: es) t) (hk : 4 ≤ k := by decide) (hK : X.K = K := by rfl) (hm : X.mg = mg := by rfl)
    (hst : starEach (e :: es) X.env = (false, eval e X.env) :: starEach es X.env := by rfl) (hpl : (backTo pos (starEach es X.env)).any (·.1) = false := by rfl)
    (ht : eval (.Call (.Attribute o "is_work" apos) (e :: es) [] pos) X.env = (do
      let ov ← eval o X.env
      standAt apos.atName
      let (f, first) ← holding [ov] (getMethod ov "is_work" pl)
      callWith pos f first (backTo pos (starEach (e :: es) X.env)) (backToKw pos (keywordEach [] X.env))) := by rfl) :
    PE X (.Call (.Attribute o "is_work" apos) (e :: es) [] pos) (tMethR (CA K) "is_work" (sp_cisw K) E0 ta t) := by
  subst hK
  subst hm
  exact pe_methR he T.cl_CA T.me_CA_is_work (okC_is_work T) (hr.mono hk) pass0 ha hst hpl ht
def sp_cfw (K : Fg) : Sp := fun vs H Q _ => ∃ (c : Addr) (C : Cal), vs = [.ref c] ∧ CalX K H c C ∧ ∀ (t : Addr) (H' : Hp), Same H H' → H t = none → H' t = some (.lst (C.works.map natV)) → Q (.ref t) H'
theorem okC_first_works (T : Tx K mg) : FnR P w K mg base CX0 5 (He.ma K (CA K) "first_works") (sp_cfw K) := by
  apply My.two; (focus intro zzI; simp only [↓ My.mkB zzI (by
  clear zzI
  refine (T.fnR 4 (st := s_Calendar_first_works) (at_ := fun K => He.ma K (He.ga K "Calendar") "first_works") rfl sc_Calendar_first_works (fun _ _ _ _ _ _ us hl => match us, hl with | [_], _ => rfl)) (fun vs H Q E h => ?_) (fun cdv A outer s H vs Q E hr h => ?_)
  · obtain ⟨c, C, rfl, _⟩ := h
    rfl
  · obtain ⟨c, C, rfl, hX, k⟩ := h
    refine ⟨_, (pss_cons (ps_par (i := 1) (j := 2) (by rfl) sc_Calendar_first_works.nd rfl rfl (by decide) rfl rfl (pa_cons (pC_period T hr (pv 0)) (pa_cons (pe_lst pa_nil) pa_nil)) (by rfl))
 (pss_cons (ps_for PassesOwn.never rfl (pi_range1 rfl T.n_range (pa_cons (pv 1) pa_nil)) (pg_name (i := 3) sc_Calendar_first_works.nd rfl (Or.inl rfl))
 (pss_one (ps_if (pt_val (mC_is_work T hr (pv 0) (pa_cons (pv 3) pa_nil)))
 (pss_cons (ps_expr (bmk T PySem.F.plainAttrs_list PySem.F.slot_list_append PySem.F.type_list_append mt_append (pv 2) (pa_cons (pv 3) pa_nil)))
 (pss_one (ps_if (pt_cmpR op_gt (pv 1) (pe_glob (v := .int 2000) rfl (T.g_SHORT_PERIOD).choose_spec ⟨_, rfl⟩) (nomark _))
 (pss_one (ps_ret (pv 2)))
 pss_nil)))
 pss_nil)))
 (pss_one (ps_ret (pv 2))))), ?_⟩
    obtain ⟨ws, hw, dx, ay, rr, fr, l, st, hc, B, ok⟩ := id hX
    have k1 : (b8 ay rr fr l st C ++ ws).lookup ("is_work" : Str) = none := b8_none hw
    have p0 := ok.p0
    have p1 := ok.per
    rfl'
    rename_i D hD H1 s1 f1
    rw [Int.toNat_natCast]
    refine for_range0 (n := C.per) (fun i σ H' => (∃ v3 : Option V, σ = [some (.ref c), some (.int (C.per : Int)), some (.ref D), v3]) ∧ Same H H' ∧ H' D = some (.lst ((C.wrkN i).map natV)) ∧ (2000 < C.per → C.wrkN i = [])) ⟨⟨_, rfl⟩, s1, f1, fun _ => rfl⟩ ?_ ?_
    · rintro i σ H2 hi ⟨⟨v3, rfl⟩, s2, f2, z2⟩
      have hc2 := s2 _ _ hc
      have hX2 := hX.same s2
      rfl'
      rename_i H3 s3
      have f3 := s3 _ _ f2
      have wl := Cal.wrkN_len (C := C) i
      have hs := Cal.wrkN_succ (C := C) i
      have ll : ((C.wrkN i).map natV).length ≤ i := by rw [List.length_map]; exact wl
      have sz1 : ((C.wrkN i).map natV).length < sizeLine := by rw [sizeLine_eq]; omega
      refine ite2 (fun cw => ?_) (fun cw => ?_)
      · rw [if_pos cw] at hs
        rfl'
        refine ite2 (fun c2 => ?_) (fun c2 => ?_)
        · have c2 : (2000 : Int) < (C.per : Int) := of_decide_eq_true c2
          refine ⟨_, rfl, k D _ (same_under (s2.trans s3) hD) hD ?_⟩
          rw [upd_same, Cal.works_first hi (by omega) (z2 (by omega)) cw, z2 (by omega)]
          rfl
        · have c2 : ¬ (2000 : Int) < (C.per : Int) := fun e => c2 (decide_eq_true e)
          refine ⟨⟨_, rfl⟩, same_under (s2.trans s3) hD, ?_, fun z => absurd z (by omega)⟩
          rw [upd_same, hs, List.map_append]
          rfl
      · rw [if_neg cw, List.append_nil] at hs
        exact ⟨⟨_, rfl⟩, s2.trans s3, by rw [hs]; exact f3, fun z => by rw [hs]; exact z2 z⟩
    · rintro σ H2 ⟨⟨v3, rfl⟩, s2, f2, z2⟩
      refine ⟨_, rfl, ?_⟩
      refine k D H2 s2 hD ?_
      rw [f2, Cal.works_end z2]
  )]); intro f; simpa using My.gz f 5 true
theorem mC_first_works {X : Cx} {k : Nat} {o : Expr} {ta : TE} {apos pos : Pos} {pl : Sem Bool} (T : Tx K mg) (hr : Room k X.A) (he : PE X o ta) (hk : 5 ≤ k := by decide) (hK : X.K = K := by rfl) (hm : X.mg = mg := by rfl)
    (ht : eval (.Call (.Attribute o "first_works" apos) [] [] pos) X.env = (do
      let ov ← eval o X.env
      standAt apos.atName
      let (f, first) ← holding [ov] (getMethod ov "first_works" pl)
      callWith pos f first (backTo pos (starEach [] X.env)) (backToKw pos (keywordEach [] X.env))) := by rfl) :
    PE X (.Call (.Attribute o "first_works" apos) [] [] pos) (tMethR (CA K) "first_works" (sp_cfw K) E0 ta tNil) := by
  subst hK
  subst hm
  exact pe_m0R he T.cl_CA T.me_CA_first_works (okC_first_works T) (hr.mono hk) pass0 ht
end
end Lw
end
section
local macro_rules | `(tactic| fail "k") => `(tactic| first | (refine My.Kx.trans (My.kx_same (by assumption)) ?_; fail "k") | fail_if_success skip)
local macro_rules | `(tactic| fail "k") => `(tactic| first | (refine My.Kx.trans (by assumption) ?_; fail "k") | fail_if_success skip)
local macro_rules | `(tactic| fail "k") => `(tactic| first | exact My.Kx.refl _ | fail_if_success skip)
local macro_rules | `(tactic| fail "f") => `(tactic| first | (apply My.Same.use; (focus assumption); fail "f") | fail_if_success skip)
local macro_rules | `(tactic| fail "f") => `(tactic| first | assumption | fail_if_success skip)
local macro_rules | `(tactic| fail "a") => `(tactic| first | (apply My.szl; first | omega | (simp <;> omega)) | fail_if_success skip)
local macro_rules | `(tactic| fail "a") => `(tactic| first | (apply My.sz; first | omega | (simp <;> omega)) | fail_if_success skip)
local macro_rules | `(tactic| fail "a") => `(tactic| first | (apply My.log10 (B := 60) (by decide); omega) | fail_if_success skip)
local macro_rules | `(tactic| fail "a") => `(tactic| first | (show List.length _ ≤ _; simp; done) | fail_if_success skip)
local macro_rules | `(tactic| fail "a") => `(tactic| first | (show 0 < List.length _; simp; done) | fail_if_success skip)
local macro_rules | `(tactic| fail "a") => `(tactic| first | (apply My.mulL; omega) | fail_if_success skip)
local macro_rules | `(tactic| fail "a") => `(tactic| first | (apply My.mulR; omega) | fail_if_success skip)
local macro_rules | `(tactic| fail "a") => `(tactic| first | exact ⟨by omega, by omega⟩ | fail_if_success skip)
local macro_rules | `(tactic| fail "a") => `(tactic| first | decide | fail_if_success skip)
local macro_rules | `(tactic| fail "a") => `(tactic| first | omega | fail_if_success skip)
local macro_rules | `(tactic| fail "a") => `(tactic| first | (show L2.Same _ _; refine My.Same.via (by assumption) ?_; fail "a") | fail_if_success skip)
local macro_rules | `(tactic| fail "a") => `(tactic| first | exact L2.Same.refl _ | fail_if_success skip)
local macro_rules | `(tactic| fail "a") => `(tactic| first | (apply Or.inl; refine ⟨rfl, ?_⟩; apply Exists.intro; apply L2.SqL.of; fail "f") | fail_if_success skip)
local macro_rules | `(tactic| fail "a") => `(tactic| first | (apply My.at_add; assumption) | fail_if_success skip)
local macro_rules | `(tactic| fail "a") => `(tactic| first | (apply L2.at_of rfl; assumption) | fail_if_success skip)
local macro_rules | `(tactic| fail "a") => `(tactic| first | (apply Or.inr; fail "f") | fail_if_success skip)
local macro_rules | `(tactic| fail "a") => `(tactic| first | (apply Or.inl; fail "f") | fail_if_success skip)
local macro_rules | `(tactic| fail "a") => `(tactic| first | (apply Lw.CalAt.same; (focus assumption); fail "a") | fail_if_success skip)
local macro_rules | `(tactic| fail "a") => `(tactic| first | (apply Lw.CalX.same; (focus assumption); fail "a") | fail_if_success skip)
local macro_rules | `(tactic| fail "a") => `(tactic| first | (apply Lw.Tx.no_CA_works; assumption) | fail_if_success skip)
local macro_rules | `(tactic| fail "a") => `(tactic| first | (apply Lw.Tx.no_CA_turn; assumption) | fail_if_success skip)
local macro_rules | `(tactic| fail "a") => `(tactic| first | (apply Lw.Tx.no_CA_starts; assumption) | fail_if_success skip)
local macro_rules | `(tactic| fail "a") => `(tactic| first | (apply Lw.Tx.no_CA_lengths; assumption) | fail_if_success skip)
local macro_rules | `(tactic| fail "a") => `(tactic| first | (apply Lw.Tx.no_CA_free_days; assumption) | fail_if_success skip)
local macro_rules | `(tactic| fail "a") => `(tactic| first | (apply Lw.Tx.no_CA_rests; assumption) | fail_if_success skip)
local macro_rules | `(tactic| fail "a") => `(tactic| first | (apply Lw.Tx.no_CA_begins; assumption) | fail_if_success skip)
local macro_rules | `(tactic| fail "a") => `(tactic| first | (apply Lw.Tx.no_CA_days_of_week; assumption) | fail_if_success skip)
local macro_rules | `(tactic| fail "a") => `(tactic| first | (apply Lw.Tx.no_CA_all_years; assumption) | fail_if_success skip)
local macro_rules | `(tactic| fail "a") => `(tactic| first | (show PySem.W.notFirst _ _ _ = true; apply And.right; apply Lw.Tx.fst_CA; assumption) | fail_if_success skip)
local macro_rules | `(tactic| fail "a") => `(tactic| first | (apply Lw.Tx.cl_CA; assumption) | fail_if_success skip)
local macro_rules | `(tactic| fail "a") => `(tactic| first | (show ∃ xs : List L2.V, L2.SqT _ _ _ xs; apply Exists.intro; apply L2.SqT.of; fail "f") | fail_if_success skip)
local macro_rules | `(tactic| fail "a") => `(tactic| first | (show ∃ xs : List L2.V, L2.SqL _ _ _ xs; apply Exists.intro; apply L2.SqL.of; fail "f") | fail_if_success skip)
local macro_rules | `(tactic| fail "a") => `(tactic| first | (apply Or.inr; apply L2.SqT.of; fail "f") | fail_if_success skip)
local macro_rules | `(tactic| fail "a") => `(tactic| first | (apply Or.inl; apply L2.SqL.of; fail "f") | fail_if_success skip)
local macro_rules | `(tactic| fail "a") => `(tactic| first | (apply L2.SqT.of; fail "f") | fail_if_success skip)
local macro_rules | `(tactic| fail "a") => `(tactic| first | (apply L2.SqL.of; fail "f") | fail_if_success skip)
local macro_rules | `(tactic| fail "a") => `(tactic| first | (show _ = some _; fail "f") | fail_if_success skip)
local macro_rules | `(tactic| fail "a") => `(tactic| first | assumption | fail_if_success skip)
local macro_rules | `(tactic| fail "a") => `(tactic| first | ((with_reducible show (_ : Int) ≤ _); omega) | fail_if_success skip)
local macro_rules | `(tactic| fail "a") => `(tactic| first | ((with_reducible show (_ : Int) < _); omega) | fail_if_success skip)
local macro_rules | `(tactic| fail "a") => `(tactic| first | with_reducible assumption | fail_if_success skip)
local macro_rules | `(tactic| fail "a") => `(tactic| first | exact rfl | fail_if_success skip)
local macro_rules | `(tactic| fail "c") => `(tactic| first | (apply And.intro; (focus fail "a")) | fail_if_success skip)
local macro_rules | `(tactic| fail "c") => `(tactic| first | (apply Exists.intro; fail "c") | fail_if_success skip)
local macro_rules | `(tactic| rfl') => `(tactic| first | skip | fail_if_success skip)
local macro_rules | `(tactic| rfl') => `(tactic| first | ((with_reducible refine L2.iteF ?_); rfl') | fail_if_success skip)
local macro_rules | `(tactic| rfl') => `(tactic| first | ((with_reducible refine L2.iteT ?_); rfl') | fail_if_success skip)
local macro_rules | `(tactic| rfl') => `(tactic| first | (intro H' (s : L2.Same _ _); rfl') | fail_if_success skip)
local macro_rules | `(tactic| rfl') => `(tactic| first | (intro o H' (s : L2.Same _ _) ho; rfl') | fail_if_success skip)
local macro_rules | `(tactic| rfl') => `(tactic| first | (intro p hp; generalize e : L2.upd _ _ _ = H'; (fail_if_success (refine @Exists.intro (Nat → _) _ ?_ ?_)); (have s := My.newS e hp); (have f := My.newO e); clear e; rfl') | fail_if_success skip)
local macro_rules | `(tactic| rfl') => `(tactic| first | (fail "c"; rfl') | fail_if_success skip)
namespace Lw
open PySem PySem.Spec PyProof.Rows L2 My
section
variable {P : Program} {w : World} {K : Fg} {mg : Str → Option Value} {base : Heap}
def IsIns (H : Hp) (x : Addr) : Prop := ∃ C dx fs, H x = some (.ins C dx fs)
def StayI (x : Addr) (F : Hp → Prop) : Prop := ∀ H H' : Hp, Kx x H H' → IsIns H x → F H → F H'
structure Ini (C : Addr) (H0 H : Hp) (x dx : Addr) (fs : List (Str × V)) (Fs : List (Hp → Prop)) : Prop where
  at_ : H x = some (.ins C dx fs)
  kx : Kx x H0 H
  all : ∀ F ∈ Fs, StayI x F ∧ F H
section
variable {Cl : Addr} {H0 H H' : Hp} {x dx a : Addr} {fs gs : List (Str × V)} {Fs : List (Hp → Prop)} {F : Hp → Prop} {xs : List V}
theorem Ini.step (i : Ini Cl H0 H x dx fs Fs) (k : Kx x H H') (e : H' x = some (.ins Cl dx gs)) : Ini Cl H0 H' x dx gs Fs :=
  ⟨e, fun b u h nb => k b u (i.kx b u h nb) nb, fun F hF => ⟨(i.all F hF).1, (i.all F hF).1 _ _ k ⟨_, _, _, i.at_⟩ (i.all F hF).2⟩⟩
theorem Ini.same (i : Ini Cl H0 H x dx fs Fs) (s : Same H H') : Ini Cl H0 H' x dx fs Fs := i.step (kx_same s) (s _ _ i.at_)
theorem Ini.put (i : Ini Cl H0 H x dx fs Fs) : Ini Cl H0 (upd H x (.ins Cl dx gs)) x dx gs Fs := i.step (fun b u e nb => by rw [upd_ne nb]; exact e) upd_same
theorem Ini.add (i : Ini Cl H0 H x dx fs Fs) (s : StayI x F) (h : F H) : Ini Cl H0 H x dx fs (F :: Fs) := ⟨i.at_, i.kx, fun G hG => by
  rcases List.mem_cons.mp hG with rfl | hG
  · exact ⟨s, h⟩
  · exact i.all G hG⟩
theorem Ini.go {R : Hp → Prop} (i : Ini Cl H0 H x dx fs Fs) (k : ∀ H', Ini Cl H0 H' x dx fs Fs → R H') : R H := k H i
theorem Ini.get (i : Ini Cl H0 H x dx fs Fs) (n : Nat) (h : Fs[n]? = some F := by rfl) : F H := (i.all F (List.mem_of_getElem? h)).2
theorem ins_ne {o : HO} (h : H a = some o) (i : IsIns H x) (no : ∀ C dx fs, o ≠ .ins C dx fs) : a ≠ x := fun e => by
  obtain ⟨C, dx, fs, z⟩ := i
  rw [e, z] at h
  exact no _ _ _ (Option.some.inj h).symm
theorem si_lst : StayI x (fun H => H a = some (.lst xs)) := fun _ _ k i h => k _ _ h (ins_ne h i fun _ _ _ z => by cases z)
theorem si_tup : StayI x (fun H => H a = some (.tup xs)) := fun _ _ k i h => k _ _ h (ins_ne h i fun _ _ _ z => by cases z)
theorem si_seqV : StayI x (fun H => SeqV H a xs) := fun _ _ k i h => h.elim (fun h => .inl (si_lst _ _ k i h)) fun h => .inr (si_tup _ _ k i h)
theorem si_paired {α β : Type} {R : Hp → α → β → Prop} (h : ∀ t r, StayI x (fun H => R H t r)) : ∀ {ts : List α} {rs : List β}, StayI x (fun H => Paired (R H) ts rs) := fun {ts rs} H H' k i p => by
  induction p with
  | nil => exact .nil
  | cons q _ ih => exact .cons (h _ _ _ _ k i q) ih
theorem si_seqK : StayI x (fun H => SeqK K H a xs) := fun _ _ k i h => h.elim (fun h => .inl (si_seqV _ _ k i h)) .inr
theorem si_rowsV {ts : List Addr} {rows : List (List Nat)} : StayI x (fun H => RowsV H ts rows) := si_paired (R := fun (H : Hp) (t : Addr) (r : List Nat) => SeqV H t (r.map natV)) fun _ _ => si_seqV
theorem si_rowsT {ts : List Addr} {rows : List (List Nat)} : StayI x (fun H => RowsT H ts rows) := si_paired (R := fun (H : Hp) (t : Addr) (r : List Nat) => H t = some (.tup (r.map natV))) fun _ _ => si_tup
theorem si_prT {ts : List Addr} {ps : List (Int × Int)} : StayI x (fun H => PrT H ts ps) := si_paired (R := fun (H : Hp) (t : Addr) (p : Int × Int) => H t = some (.tup [.int p.1, .int p.2])) fun _ _ => si_tup
end
theorem Ini.free {Cl : Addr} {H0 H : Hp} {x dx a : Addr} {fs : List (Str × V)} {Fs : List (Hp → Prop)} (i : Ini Cl H0 H x dx fs Fs) (h : H a = none) : H0 a = none := by
  apply My.two; (focus intro zzI; simp only [↓ My.mkB zzI (by
  clear zzI
  cases z : H0 a with
  | none => rfl
  | some o =>
    have ne : a ≠ x := fun e => by
      rw [e, i.at_] at h
      cases h
    rw [i.kx _ _ z ne] at h
    cases h
  )]); intro f; simpa using My.gz f 5 true
/-- a calendar whose lists are newer than H0 -/
def CalNew (K : Fg) (H0 H : Hp) (c : Addr) (C : Cal) : Prop := ∃ a dx ay rr fr l s : Addr, H c = some (.ins (CA K) dx (b8 ay rr fr l s C ++ [(("works" : Str), V.ref a)])) ∧ CalB H C ay rr fr l s ∧ C.Ok ∧ H a = some (.lst (C.works.map natV)) ∧ C.works ≠ [] ∧ H0 a = none ∧ H0 l = none ∧ H0 s = none
theorem CalNew.at_ {H0 H : Hp} {c : Addr} {C : Cal} (h : CalNew K H0 H c C) : CalAt K H c C := by
  obtain ⟨a, dx, ay, rr, fr, l, s, h1, h2, h3, h4, h5, _⟩ := h
  exact ⟨a, ⟨dx, ay, rr, fr, l, s, h1, h2, h3⟩, h4, h5⟩
theorem CalNew.same {H0 H H' : Hp} {c : Addr} {C : Cal} (h : CalNew K H0 H c C) (sm : Same H H') : CalNew K H0 H' c C := by
  obtain ⟨a, dx, ay, rr, fr, l, s, h1, h2, h3, h4, h5, h6⟩ := h
  exact ⟨a, dx, ay, rr, fr, l, s, sm _ _ h1, h2.same sm, h3, sm _ _ h4, h5, h6⟩
/-- an older list is written -/
theorem CalNew.set {H0 H : Hp} {c q : Addr} {C : Cal} {o u : HO} {xs : List V} (h : CalNew K H0 H c C) (h0 : H0 q = some u) (hq : H q = some (.lst xs)) : CalNew K H0 (upd H q o) c C := by
  apply My.two; (focus intro zzI; simp only [↓ My.mkB zzI (by
  clear zzI
  obtain ⟨a, dx, ay, rr, fr, l, s, h1, ⟨⟨t1, a1, a2⟩, b1, ⟨t2, c1, c2⟩, d1, e1⟩, h3, h4, h5, h6, h7, h8⟩ := h
  have N : ∀ {b : Addr}, H0 b = none → b ≠ q := fun z e => by
    rw [e, h0] at z
    cases z
  have T : ∀ {b : Addr} {zs : List V}, H b = some (.tup zs) → upd H q o b = some (.tup zs) := fun {b zs} z => by
    rw [upd_ne (fun e => by rw [e, hq] at z; cases z)]
    exact z
  have L : ∀ {b : Addr} {zs : List V}, H0 b = none → H b = some (.lst zs) → upd H q o b = some (.lst zs) := fun n z => (upd_ne (N n)).trans z
  have R : ∀ {ts : List Addr} {rows : List (List Nat)}, RowsT H ts rows → RowsT (upd H q o) ts rows := fun {ts rows} h => by
    induction h with
    | nil => exact .nil
    | cons h _ ih => exact .cons (T h) ih
  have R2 : ∀ {ts : List Addr} {ps : List (Int × Int)}, PrT H ts ps → PrT (upd H q o) ts ps := fun {ts rows} h => by
    induction h with
    | nil => exact .nil
    | cons h _ ih => exact .cons (T h) ih
  exact ⟨a, dx, ay, rr, fr, l, s, (upd_ne (fun e => by rw [e, hq] at h1; cases h1)).trans h1, ⟨⟨t1, T a1, R a2⟩, T b1, ⟨t2, T c1, R2 c2⟩, L h7 d1, L h8 e1⟩, h3, L h6 h4, h5, h6, h7, h8⟩
  )]); intro f; simpa using My.gz f 5 true
theorem PrT.mem {H : Hp} {f : Addr → Int × Int} : ∀ {ts : List Addr} {ps : List (Int × Int)}, PrT H ts ps → ps = ts.map f → ∀ t ∈ ts, H t = some (.tup [.int (f t).1, .int (f t).2])
  | _, _, .nil, _, t, h => by cases h
  | _, _, .cons (a := u) h r, e, t, ht => by
    apply My.two; (focus intro zzI; simp only [↓ My.mkB zzI (by
    clear zzI
    rw [List.map_cons] at e
    obtain ⟨rfl, e2⟩ := List.cons.inj e
    rcases List.mem_cons.mp ht with rfl | ht
    · exact h
    · exact PrT.mem r e2 t ht
    )]); intro f; simpa using My.gz f 5 true
theorem PrT.of {H : Hp} {f : Addr → Int × Int} : ∀ {ts : List Addr}, (∀ t ∈ ts, H t = some (.tup [.int (f t).1, .int (f t).2])) → PrT H ts (ts.map f)
  | [], _ => .nil
  | t :: ts, h => .cons (h t (List.mem_cons_self ..)) (PrT.of fun x hx => h x (List.mem_cons_of_mem _ hx))
theorem RowsT.updL {H : Hp} {D : Addr} {o : HO} {zs : List V} (hD : H D = some (.lst zs)) : ∀ {ts : List Addr} {rows : List (List Nat)}, RowsT H ts rows → RowsT (upd H D o) ts rows
  | _, _, .nil => .nil
  | _, _, .cons (a := t) h r => .cons (by
      have : t ≠ D := fun e => by
        rw [e, hD] at h
        cases h
      show upd H D o t = _
      rw [upd_ne this]
      exact h) (RowsT.updL hD r)
theorem RowsT.snoc {H : Hp} {t : Addr} {row : List Nat} (ht : H t = some (.tup (row.map natV))) : ∀ {ts : List Addr} {rows : List (List Nat)}, RowsT H ts rows → RowsT H (ts ++ [t]) (rows ++ [row])
  | _, _, .nil => .cons ht .nil
  | _, _, .cons h r => .cons h (RowsT.snoc ht r)
/-- a row more in the list at D -/
theorem row_push {H3 H5 : Hp} {D l : Addr} {us : List Addr} {rows : List (List Nat)} {row : List Nat} {i : Nat} (hD : H3 D = none) (s : Same H3 H5) (e : H5 D = some (.lst (us.map V.ref))) (ul : us.length = i) (hu : RowsT H5 us (rows.take i)) (hr : rows[i]? = some row) (hl : H5 l = some (.tup (row.map natV))) (hi : i < 1000) :
    ∃ acc, H5 D = some (.lst acc) ∧ acc.length < sizeLine ∧ (fun H' => Same H3 H' ∧ ∃ us : List Addr, H' D = some (.lst (us.map V.ref)) ∧ us.length = i + 1 ∧ RowsT H' us (rows.take (i + 1))) (upd H5 D (.lst (acc ++ [.ref l]))) := by
  apply My.two; (focus intro zzI; simp only [↓ My.mkB zzI (by
  clear zzI
  refine ⟨_, e, by rw [List.length_map, sizeLine_eq]; omega, same_under s hD, us ++ [l], by rw [upd_same, List.map_append]; rfl, by rw [List.length_append, ul]; rfl, ?_⟩
  rw [List.take_succ, hr]
  refine RowsT.snoc ?_ (hu.updL e)
  have : l ≠ D := fun z => by
    rw [z, e] at hl
    cases hl
  rw [upd_ne this]
  exact hl
  )]); intro f; simpa using My.gz f 5 true
def sp_cinit (K : Fg) : Sp := fun vs H Q _ => ∃ (x dx y r h : Addr) (ts hs : List Addr) (C : Cal), vs = [.ref x, .ref y, .int (C.week : Int), .int (C.first : Int), .ref r, .ref h] ∧ H x = some (.ins (CA K) dx []) ∧ SeqV H y (ts.map V.ref) ∧ RowsV H ts C.rows ∧ SeqK K H r (C.rest.map V.int) ∧ SeqK K H h (hs.map V.ref) ∧ PrT H hs C.hol ∧ C.Ok ∧ C.works ≠ [] ∧
  ∀ (rs : List Int) (ps : List (Int × Int)) (H' : Hp), rs.Perm C.rest → rs.Pairwise (· ≤ ·) → ps.Perm C.hol → ps.Pairwise (fun a b => a.1 * 64 + a.2 ≤ b.1 * 64 + b.2) → CalNew K H H' x (C.re rs ps) → Kx x H H' → Q .non H'
theorem oka_cinit (T : Tx K mg) : FnA P w K mg base 6 (He.ma K (CA K) "__init__") "__init__" "Calendar.__init__" s_Calendaru_initu [V.int 7] [("self" : Str), ("years" : Str), ("week" : Str), ("first" : Str), ("rest" : Str), ("holidays" : Str)] (sp_cinit K) := by
  apply My.two; (focus intro zzI; simp only [↓ My.mkB zzI (by
  clear zzI
  refine (T.fnA 0 (st := s_Calendaru_initu) (at_ := fun K => He.ma K (He.ga K "Calendar") "__init__") rfl sc_Calendaru_initu) (fun vs H Q E h => ?_) (fun cdv A outer s H vs Q E hr h => ?_)
  · obtain ⟨x, dx, y, r, h, ts, hs, C, rfl, _⟩ := h
    rfl
  · obtain ⟨x, dx, y, r, hh, ts, hs, C, rfl, hx, hy, hrw, hrs, hhs, hps, ok, wk, k⟩ := h
    refine ⟨_, (pss_cons (ps_if (pt_not (pt_val (c_are_years T hr (pa_cons (pv 1) pa_nil))))
 (pss_one ps_never)
 pss_nil)
 (pss_cons (ps_if (pt_not (pt_val (c_is_between T hr (pa_cons (pv 2) (pa_cons pe_int (pa_cons (pe_glob (v := .int 10) rfl (T.g_MAX_WEEK).choose_spec ⟨_, rfl⟩) pa_nil))))))
 (pss_one ps_never)
 pss_nil)
 (pss_cons (ps_if (pt_not (pt_val (c_is_between T hr (pa_cons (pv 3) (pa_cons pe_int (pa_cons (pe_op op_sub (pv 2) pe_int) pa_nil))))))
 (pss_one ps_never)
 pss_nil)
 (pss_cons (ps_if (pt_not (pt_val (c_are_weekdays T hr (pa_cons (pv 4) (pa_cons (pv 2) pa_nil)))))
 (pss_one ps_never)
 pss_nil)
 (pss_cons (ps_if (pt_not (pt_val (c_are_holidays T hr (pa_cons (pv 5) (pa_cons (pe_callB (len_k T) (by rfl) T.n_len (by decide +kernel) (pa_cons (pe_ix (ixq T) (pv 1) pe_int (fun _ _ => rfl)) pa_nil)) pa_nil)))))
 (pss_one ps_never)
 pss_nil)
 (pss_cons (ps_fld (pv 0) (pe_callTy (tup_k T) (by rfl) T.n_tuple (by decide +kernel) (pa_cons (pe_lc (own := [("year", 6)]) rfl sc_Calendaru_initu.nd (pis T (pv 1)) (blkOk_by (own := [("year", 6)]) (N := N_Calendaru_initu) (sc := defScope s_Calendaru_initu) (by decide +kernel)) (fun _ _ _ _ _ => (pg_name (i := 6) sc_Calendaru_initu.nd rfl (Or.inl rfl))) (fun _ _ _ _ _ => pts_nil) (fun _ _ _ _ _ => (pe_callTy (tup_k T) (by rfl) T.n_tuple (by decide +kernel) (pa_cons (pv 6) pa_nil)))) pa_nil)) rfl)
 (pss_cons (ps_asg (pe_tup (pa_cons (pv 2) (pa_cons (pv 3) pa_nil))) (pgt T (n := 2) rfl (pgs_cons (pg_fld (pv 0)) (pgs_cons (pg_fld (pv 0)) pgs_nil))))
 (pss_cons (ps_asg (pe_tup (pa_cons (pe_callTy (tup_k T) (by rfl) T.n_tuple (by decide +kernel) (pa_cons (pe_callB (srtQ_k T) (by rfl) T.n_sorted (by decide +kernel) (pa_cons (pv 4) pa_nil)) pa_nil)) (pa_cons (pe_callTy (tup_k T) (by rfl) T.n_tuple (by decide +kernel) (pa_cons (pe_callB (srtPQ_k T) (by rfl) T.n_sorted (by decide +kernel) (pa_cons (pv 5) pa_nil)) pa_nil)) pa_nil))) (pgt T (n := 2) rfl (pgs_cons (pg_fld (pv 0)) (pgs_cons (pg_fld (pv 0)) pgs_nil))))
 (pss_cons (ps_fld (pv 0) (pe_lc2 (vs1 := [7]) (own := [("year", 6), ("days", 7)]) rfl sc_Calendaru_initu.nd (pis T (pv 1)) (blkOk_by (own := [("year", 6), ("days", 7)]) (N := N_Calendaru_initu) (sc := defScope s_Calendaru_initu) (by decide +kernel)) (by decide) (fun _ _ _ _ _ => (pg_name (i := 6) sc_Calendaru_initu.nd rfl (Or.inl rfl))) (fun _ _ _ _ _ => pts_nil) (fun _ _ _ _ _ => (pis T (pv 6))) (fun _ _ _ _ _ => (pg_name (i := 7) sc_Calendaru_initu.nd rfl (Or.inl rfl))) (fun _ _ _ _ _ => pts_nil) (fun _ _ _ _ _ => (pv 7))) rfl)
 (pss_cons (ps_fld (pv 0) (c_month_starts T hr (pa_cons (fld T (pv 0)) pa_nil)) rfl)
 (pss_cons (ps_fld (pv 0) (c_common_multiple T hr (pa_cons (pe_ix (ixl T) (fld T (pv 0)) (pe_un un_neg pe_int) (fun _ _ => rfl)) (pa_cons (pv 2) pa_nil))) rfl)
 (pss_cons (ps_if (pt_cmpR op_gt (pC_period T hr (pv 0)) (pe_glob (v := .int 200000) rfl (T.g_MAX_PERIOD).choose_spec ⟨_, rfl⟩) (nomark _))
 (pss_one ps_never)
 pss_nil)
 (pss_cons (ps_fld (pv 0) (mC_first_works T hr (pv 0)) rfl)
 (pss_one (ps_if (pt_cmpR (eqi T hr.units) (fld T (pv 0)) (pe_lst pa_nil) (nomark _))
 (pss_one ps_never)
 pss_nil))))))))))))))), ?_⟩
    have I0 : Ini (CA K) H H x dx [] [fun H => SeqV H y (ts.map V.ref), fun H => RowsV H ts C.rows, fun H => SeqK K H r (C.rest.map V.int), fun H => SeqK K H hh (hs.map V.ref), fun H => PrT H hs C.hol] :=
      ((((Ini.add ⟨hx, fun _ _ e _ => e, fun _ h => by cases h⟩ si_prT hps).add si_seqK hhs).add si_seqK hrs).add si_rowsV hrw).add si_seqV hy
    have w0 := ok.w0
    have w1 := ok.w1
    have wf := ok.f
    refine ⟨_, rfl, y, ts, C.rows, rfl, I0.get 0, I0.get 1, ok.yr, fun H1 s1 => ?_⟩
    have I1 := I0.same s1
    clear I0 s1 hx hy hrw hrs hhs hps
    refine ⟨_, rfl, ?_⟩
    refine iteF ?_
    refine ⟨_, rfl, (C.week : Int), 1, 10, rfl, ?_⟩
    rw [decide_eq_true (show (1 : Int) ≤ (C.week : Int) by omega), decide_eq_true (show (C.week : Int) ≤ 10 by omega)]
    refine ⟨_, rfl, ?_⟩
    refine iteF ?_
    refine ⟨_, rfl, _, rfl, _, _, rfl, rfl, (C.first : Int), 0, (C.week : Int) - 1, rfl, ?_⟩
    rw [decide_eq_true (show (0 : Int) ≤ (C.first : Int) by omega), decide_eq_true (show (C.first : Int) ≤ (C.week : Int) - 1 by omega)]
    refine ⟨_, rfl, ?_⟩
    refine iteF ?_
    refine ⟨_, rfl, _, rfl, r, C.rest, (C.week : Int), rfl, I1.get 2, ok.rnd, ok.rest, by have := ok.rl; omega, fun H2 s2 => ?_⟩
    have I2 := I1.same s2
    clear I1 s2
    refine ⟨_, rfl, ?_⟩
    refine iteF ?_
    refine ⟨_, rfl, _, rfl, ?_⟩
    obtain ⟨t0, e0, h0⟩ := (I2.get 1 : RowsV H2 ts C.rows).get (List.getElem?_eq_getElem (i := 0) ok.yr.ne)
    refine ixq_go (j := 0) (I2.get 0) (by rw [List.getElem?_map, e0]; rfl) ?_
    refine ⟨t0, _, rfl, h0.sq, ?_⟩
    have em : (C.rows[0]'ok.yr.ne).length = C.mon := by
      unfold Cal.mon
      rw [List.getD_eq_getElem?_getD, List.getElem?_eq_getElem ok.yr.ne]
      rfl
    rw [List.length_map, em]
    refine ⟨hh, hs, C.hol, (C.mon : Int), rfl, I2.get 3, I2.get 4, ok.hnd, ok.hol, ok.hl, fun H3 s3 => ?_⟩
    have I3 := I2.same s3
    clear I2 s3 h0 e0 em
    refine ⟨_, rfl, ?_⟩
    refine iteF ?_
    refine ⟨_, rfl, ?_⟩
    refine seq_goC (I3.get 0 : SeqV H3 y (ts.map V.ref)).sq fun J G wk2 hG D hD => ?_
    have L1 : (ts.map V.ref).length = C.rows.length := by rw [List.length_map, (I3.get 1 : RowsV H3 ts C.rows).len]
    refine walk_w wk2 (fun i H' => Same H3 H' ∧ ∃ us : List Addr, H' D = some (.lst (us.map V.ref)) ∧ us.length = i ∧ RowsT H' us (C.rows.take i)) ⟨same_upd hD, [], upd_same, rfl, .nil⟩ (fun i H4 _ h => hG H4 h.1) ?_ ?_
    · rintro i v H4 H5 hi ⟨s4, us, e4, ul, hu⟩ ⟨rfl, ev⟩
      obtain ⟨t, et, rfl⟩ := ref_at ev
      obtain ⟨row, er, hs5⟩ := (I3.get 1 : RowsV H3 ts C.rows).at et
      have hs6 := hs5.same s4
      refine ⟨rfl, ?_⟩
      refine yes_t ?_
      refine ⟨_, rfl, ?_⟩
      have li : i < 1000 := by have := ok.yr.le; omega
      rcases hs6 with h6 | h6
      · refine ⟨t, _, rfl, .inl ⟨SqL.of h6, fun l hl => ?_⟩⟩
        have s6 := same_upd (o := .tup (row.map natV)) hl
        exact row_push hD (s4.trans s6) (s6 _ _ e4) ul (hu.same s6) er upd_same li
      · refine ⟨t, _, rfl, .inr ⟨SqT.of h6, ?_⟩⟩
        exact row_push hD s4 e4 ul hu er h6 li
    rintro H4 ⟨s4, us, e4, ul, hu⟩
    rw [L1, List.take_length] at hu
    refine ⟨D, _, rfl, .inl ⟨SqL.of e4, fun ay hay => ?_⟩⟩
    have s5 := same_upd (o := .tup (us.map V.ref)) hay
    have I4 := ((I3.same (s4.trans s5)).add si_rowsT (hu.same s5)).add si_tup (upd_same : upd H4 ay (.tup (us.map V.ref)) ay = _)
    clear I3 hD wk2 hG L1
    refine ⟨_, rfl, x, _, dx, [], rfl, I4.at_, T.cl_CA, T.no_CA_all_years, (by show 0 < 1000; decide), ?_⟩
    have I5 := I4.put (gs := [("all_years", V.ref ay)])
    refine Ini.go (R := tSeq _ _ _ _) I5 fun H5 I5 => ?_
    clear I4 s5 hay e4 s4 hu
    refine ⟨_, rfl, _, rfl, by show 2 ≤ sizeLine; decide, fun t ht => ?_⟩
    have I6 := I5.same (same_upd (o := .tup [V.int (C.week : Int), V.int (C.first : Int)]) ht)
    refine ⟨t, _, rfl, SqT.of upd_same, rfl, _, _, rfl, _, rfl, x, _, dx, _, rfl, I6.at_, T.cl_CA, T.no_CA_days_of_week, (by show 1 < 1000; decide), ?_⟩
    have I7 := I6.put (gs := [("all_years", V.ref ay), ("days_of_week", .int (C.week : Int))])
    refine ⟨_, _, rfl, _, rfl, x, _, dx, _, rfl, I7.at_, T.cl_CA, T.no_CA_begins, (by show 2 < 1000; decide), rfl, ?_⟩
    have I8 := I7.put (gs := [("all_years", V.ref ay), ("days_of_week", .int (C.week : Int)), ("begins", .int (C.first : Int))])
    refine Ini.go (R := tSeq _ _ _ _) I8 fun H6 I8 => ?_
    clear I5 I6 I7 ht
    refine ⟨_, rfl, r, C.rest, rfl, (I8.get 4 : SeqK K H6 r (C.rest.map V.int)).sq, ok.rl, fun rs rp rsp rso hrp => ?_⟩
    have sa := same_upd (o := .lst (rs.map V.int)) hrp
    refine ⟨rp, _, rfl, .inl ⟨SqL.of upd_same, fun rr hrr => ?_⟩⟩
    have sb := same_upd (o := .tup (rs.map V.int)) hrr
    have I9 := (I8.same (sa.trans sb)).add si_tup upd_same
    refine ⟨_, rfl, hh, hs, C.hol, rfl, (I9.get 6 : SeqK K _ hh (hs.map V.ref)).sq, (I9.get 7 : PrT _ hs C.hol).prs, ok.hl, fun p hp => ?_, fun hs' f hp ef hper hso hnp => ?_⟩
    · have := ok.hol p hp
      have := ok.m1
      omega
    have sc := same_upd (o := .lst (hs'.map V.ref)) hnp
    refine ⟨hp, _, rfl, .inl ⟨SqL.of upd_same, fun fr hfr => ?_⟩⟩
    have sd := same_upd (o := .tup (hs'.map V.ref)) hfr
    have hpt : PrT (upd (upd H6 rp (.lst (rs.map V.int))) rr (.tup (rs.map V.int))) hs' (hs'.map f) := PrT.of fun t ht => (I9.get 7 : PrT _ hs C.hol).mem ef t (hper.mem_iff.mp ht)
    have I10 := ((I9.same (sc.trans sd)).add si_tup upd_same).add si_prT (hpt.same (sc.trans sd))
    clear I8 I9 sa sb sc sd hpt hrp hrr hnp hfr
    refine ⟨by show 2 ≤ sizeLine; decide, fun t2 ht2 => ?_⟩
    have I11 := I10.same (same_upd (o := .tup [V.ref rr, V.ref fr]) ht2)
    refine ⟨t2, _, rfl, SqT.of upd_same, rfl, _, _, rfl, _, rfl, x, _, dx, _, rfl, I11.at_, T.cl_CA, T.no_CA_rests, (by show 3 < 1000; decide), ?_⟩
    have I12 := I11.put (gs := [("all_years", V.ref ay), ("days_of_week", .int (C.week : Int)), ("begins", .int (C.first : Int)), ("rests", .ref rr)])
    refine ⟨_, _, rfl, _, rfl, x, _, dx, _, rfl, I12.at_, T.cl_CA, T.no_CA_free_days, (by show 4 < 1000; decide), rfl, ?_⟩
    have I13 := I12.put (gs := [("all_years", V.ref ay), ("days_of_week", .int (C.week : Int)), ("begins", .int (C.first : Int)), ("rests", .ref rr), ("free_days", .ref fr)])
    refine Ini.go (R := tSeq _ _ _ _) I13 fun H7 I13 => ?_
    clear I10 I11 I12 ht2
    have hy7 : SeqV H7 y (ts.map V.ref) := I13.get 5
    have hr7 : RowsV H7 ts C.rows := I13.get 6
    have L1 : (ts.map V.ref).length = C.rows.length := by rw [List.length_map, hr7.len]
    have le := ok.le
    refine ⟨_, rfl, ?_⟩
    refine seq_goC hy7.sq fun J G wk2 hG D hD => ?_
    have oD := I13.free hD
    refine walk_w wk2 (fun i H' => Same H7 H' ∧ H' D = some (.lst ((C.rows.take i).flatten.map natV))) ⟨same_upd hD, upd_same⟩ (fun i H8 _ h => hG H8 h.1) ?_ ?_
    · rintro i v H8 H9 hi ⟨s8, e8⟩ ⟨rfl, ev⟩
      obtain ⟨t, et, rfl⟩ := ref_at ev
      obtain ⟨row, er, hs5⟩ := hr7.at et
      have l4 : (row.map natV).length = row.length := List.length_map ..
      refine ⟨rfl, ?_⟩
      refine yes_t ?_
      refine ⟨_, rfl, ?_⟩
      refine seq_goS hs5.sq s8 fun J2 G2 wk3 hG2 => ?_
      refine walk_w wk3 (fun j H' => Same H7 H' ∧ H' D = some (.lst (((C.rows.take i).flatten ++ row.take j).map natV))) ⟨s8, by rw [List.take_zero, List.append_nil]; exact e8⟩ (fun j H10 _ h => hG2 H10 h.1) ?_ ?_
      · rintro j v2 H10 H11 hj ⟨s10, e10⟩ ⟨rfl, ev2⟩
        rw [l4] at hj
        rw [List.getElem?_map, List.getElem?_eq_getElem hj] at ev2
        obtain rfl := Option.some.inj ev2
        refine ⟨rfl, ?_⟩
        refine yes_t ?_
        have fl := flat_len (m := C.mon) (rows := C.rows.take i) fun q hq => ok.yr.eq q (List.mem_of_mem_take hq)
        have er2 := ok.yr.eq row (List.mem_of_getElem? er)
        have m1 := ok.yr.m1
        have t1 : (C.rows.take i).length * C.mon ≤ 400 * 14 := Nat.mul_le_mul (by rw [List.length_take]; have := ok.yr.le; omega) ok.m1
        refine ⟨_, rfl, _, e10, ?_, same_under s10 hD, ?_⟩
        · have t2 : (row.take j).length ≤ row.length := by rw [List.length_take]; omega
          rw [List.length_map, List.length_append, fl, sizeLine_eq]
          omega
        rw [upd_same, List.take_succ, List.getElem?_eq_getElem hj, ← List.append_assoc, List.map_append (l₁ := (C.rows.take i).flatten ++ row.take j)]
        rfl
      · rintro H10 ⟨s10, e10⟩
        rw [l4, List.take_length] at e10
        refine ⟨s10, ?_⟩
        rw [List.take_succ, er, e10]
        simp
    rintro H8 ⟨s8, e8⟩
    rw [L1, List.take_length] at e8
    have I14 := (I13.same s8).add si_lst e8
    refine ⟨_, rfl, x, _, dx, _, rfl, I14.at_, T.cl_CA, T.no_CA_lengths, (by show 5 < 1000; decide), ?_⟩
    have I15 := I14.put (gs := [("all_years", V.ref ay), ("days_of_week", .int (C.week : Int)), ("begins", .int (C.first : Int)), ("rests", .ref rr), ("free_days", .ref fr), ("lengths", .ref D)])
    refine Ini.go (R := tSeq _ _ _ _) I15 fun H9 I15 => ?_
    clear I13 I14 s8 e8 hD wk2 hG hy7 hr7
    have hD9 : H9 D = some (.lst (C.ls.map natV)) := I15.get 0
    refine ⟨_, rfl, x, _, dx, _, _, rfl, I15.at_, T.cl_CA, T.no_CA_lengths, rfl, ?_⟩
    refine ⟨D, C.ls, rfl, SqL.of hD9, by omega, fun st H10 s10 nst est => ?_⟩
    have ost := I15.free nst
    have I16 := (I15.same s10).add si_lst est
    refine ⟨_, rfl, x, _, dx, _, rfl, I16.at_, T.cl_CA, T.no_CA_starts, (by show 6 < 1000; decide), ?_⟩
    have I17 := I16.put (gs := [("all_years", V.ref ay), ("days_of_week", .int (C.week : Int)), ("begins", .int (C.first : Int)), ("rests", .ref rr), ("free_days", .ref fr), ("lengths", .ref D), ("starts", .ref st)])
    refine Ini.go (R := tSeq _ _ _ _) I17 fun H11 I17 => ?_
    clear I15 I16 s10 nst est hD9
    have hst : H11 st = some (.lst (mstV C.ls)) := I17.get 0
    refine ⟨_, rfl, x, _, dx, _, _, rfl, I17.at_, T.cl_CA, T.no_CA_starts, rfl, ?_⟩
    rfl'
    have s0 := ok.s0
    have sp := ok.sp
    refine ⟨mst_last, _, rfl, C.ls.sum, C.week, rfl, s0, w0, sp, by omega, ?_⟩
    refine ⟨_, rfl, x, _, dx, _, rfl, I17.at_, T.cl_CA, T.no_CA_turn, (by show 7 < 1000; decide), ?_⟩
    have hpp : (hs'.map f).Perm C.hol := by rw [ef]; exact hper.map f
    obtain ⟨C', hC'⟩ : ∃ C', C.re rs (hs'.map f) = C' := ⟨_, rfl⟩
    have ok' : C'.Ok := hC' ▸ ok.re rsp hpp
    have e1 : C'.week = C.week := by rw [← hC']; rfl
    have e2 : C'.first = C.first := by rw [← hC']; rfl
    have e3 : C'.per = C.per := by rw [← hC']; rfl
    have e4 : C'.ls = C.ls := by rw [← hC']; rfl
    have e5 : C'.rows = C.rows := by rw [← hC']; rfl
    have e6 : C'.rest = rs := by rw [← hC']; rfl
    have e7 : C'.hol = hs'.map f := by rw [← hC']; rfl
    have e8 : C'.works = C.works := by rw [← hC']; exact Cal.re_works rsp hpp
    have eb : b8 ay rr fr D st C' = [(("all_years" : Str), V.ref ay), ("days_of_week", .int (C.week : Int)), ("begins", .int (C.first : Int)), ("rests", .ref rr), ("free_days", .ref fr), ("lengths", .ref D), ("starts", .ref st), ("turn", .int (C.per : Int))] := by
      unfold b8
      rw [e1, e2, e3]
    have I18 := I17.put (gs := [("all_years", V.ref ay), ("days_of_week", .int (C.week : Int)), ("begins", .int (C.first : Int)), ("rests", .ref rr), ("free_days", .ref fr), ("lengths", .ref D), ("starts", .ref st), ("turn", .int (C.per : Int))])
    refine Ini.go (R := tSeq _ _ _ _) I18 fun H12 I18 => ?_
    clear I17 hst
    rw [← eb] at I18
    have B : ∀ {H' : Hp} {fs : List (Str × V)}, Ini (CA K) H H' x dx fs [fun H => H st = some (.lst (mstV C.ls)), fun H => H D = some (.lst (C.ls.map natV)), fun H => PrT H hs' (hs'.map f), fun H => H fr = some (.tup (hs'.map V.ref)), fun H => H rr = some (.tup (rs.map V.int)), fun H => H ay = some (.tup (us.map V.ref)), fun H => RowsT H us C.rows, fun H => SeqV H y (ts.map V.ref), fun H => RowsV H ts C.rows, fun H => SeqK K H r (C.rest.map V.int), fun H => SeqK K H hh (hs.map V.ref), fun H => PrT H hs C.hol] → CalB H' C' ay rr fr D st := fun {H' fs} I => by
      refine ⟨⟨us, I.get 5, ?_⟩, ?_, ⟨hs', I.get 3, ?_⟩, ?_, ?_⟩
      · rw [e5]
        exact I.get 6
      · rw [e6]
        exact I.get 4
      · rw [e7]
        exact I.get 2
      · rw [e4]
        exact I.get 1
      · rw [e4]
        exact I.get 0
    have hx12 := I18.at_
    have hX : CalX K H12 x C' := ⟨[], .inl rfl, dx, ay, rr, fr, D, st, by rw [List.append_nil]; exact hx12, B I18, ok'⟩
    rfl'
    rw [decide_eq_false (show ¬ (200000 : Int) < (C'.per : Int) by have := ok'.per; omega)]
    refine iteF ?_
    refine ⟨_, rfl, x, _, _, rfl, hx12, rfl, ?_⟩
    refine ⟨x, C', rfl, hX, fun wa H13 s13 nwa ewa => ?_⟩
    have owa := I18.free nwa
    have I19 := (I18.same s13).add si_lst ewa
    refine ⟨_, rfl, x, _, dx, _, rfl, I19.at_, T.cl_CA, T.no_CA_works, (by show 8 < 1000; decide), ?_⟩
    have I20 := I19.put (gs := b8 ay rr fr D st C' ++ [(("works" : Str), V.ref wa)])
    have ep : putF "works" (V.ref wa) (b8 ay rr fr D st C') = b8 ay rr fr D st C' ++ [(("works" : Str), V.ref wa)] := by
      unfold b8
      rfl
    rw [ep]
    generalize upd H13 x (HO.ins (CA K) dx (b8 ay rr fr D st C' ++ [(("works" : Str), V.ref wa)])) = H14 at I20
    clear I19 s13 hX hx12
    have Bs := B ⟨I20.at_, I20.kx, fun F hF => I20.all F (List.mem_cons_of_mem _ hF)⟩
    have ew : H14 wa = some (.lst (C'.works.map natV)) := I20.get 0
    have fin : CalNew K H H14 x C' := ⟨wa, dx, ay, rr, fr, D, st, I20.at_, Bs, ok', ew, by rw [e8]; exact wk, owa, oD, ost⟩
    have end_ : ∀ H15, Same H14 H15 → Q .non H15 := fun H15 s15 => by
      have c15 := fin.same s15
      rw [← hC'] at c15
      exact k rs (hs'.map f) H15 rsp rso hpp hso c15 (fun b u e nb => s15 _ _ (I20.kx b u e nb))
    refine ⟨_, rfl, x, _, dx, _, _, rfl, I20.at_, T.cl_CA, T.no_CA_works, rfl, ?_⟩
    refine ⟨by show 0 ≤ sizeLine; decide, fun p0 hp0 => ?_⟩
    have s15 := same_upd (o := .lst ([] : List V)) hp0
    have en : C'.works.map natV = (C'.works.map fun n : Nat => (n : Int)).map V.int := by rw [List.map_map]; rfl
    refine ⟨wa, p0, C'.works.map fun n : Nat => (n : Int), [], rfl, rfl, .inl ⟨SqL.of (by rw [← en]; exact s15 _ _ ew), SqL.of upd_same⟩, ?_⟩
    have ne0 : ¬ (C'.works.map fun n : Nat => (n : Int)) = [] := fun z => wk (by rw [← e8]; exact List.map_eq_nil_iff.mp z)
    rw [if_neg (by decide), decide_eq_false ne0]
    refine ⟨_, rfl, ?_⟩
    refine iteF ?_
    exact end_ _ s15
  )]); intro f; simpa using My.gz f 5 true
end
end Lw
namespace Lw
open PySem PySem.Spec PyProof.Rows L2 My
section
variable {P : Program} {w : World} {K : Fg} {mg : Str → Option Value} {base : Heap}
theorem SqT.seqK {a : Addr} {xs : List V} (h : ∀ H : Hp, SqT K H a xs) : KT K a xs := by
  apply My.two; (focus intro zzI; simp only [↓ My.mkB zzI (by
  clear zzI
  rcases h (fun _ => none) with (h | ⟨o, h⟩) | h
  · cases h
  · cases h
  · exact h
  )]); intro f; simpa using My.gz f 5 true
def sp_cweek (K : Fg) : Sp := fun vs H Q _ => ∃ (c : Addr) (C : Cal), vs = [.ref c] ∧ CalX K H c C ∧ Q (.int (C.week : Int)) H
theorem okC_week (T : Tx K mg) : FnR P w K mg base CX0 1 (He5.wf K (CA K) "property" "week") (sp_cweek K) := by
  apply My.two; (focus intro zzI; simp only [↓ My.mkB zzI (by
  clear zzI
  refine (T.fnR 5 (st := s_Calendar_week) (at_ := fun K => He5.wf K (He.ga K "Calendar") "property" "week") rfl sc_Calendar_week (fun _ _ _ _ _ _ us hl => match us, hl with | [_], _ => rfl)) (fun vs H Q E h => ?_) (fun cdv A outer s H vs Q E hr h => ?_)
  · obtain ⟨c, C, rfl, _⟩ := h
    rfl
  · obtain ⟨c, C, rfl, ⟨ws, hw, dx, ay, rr, fr, l, st, hc, B, ok⟩, q⟩ := h
    refine ⟨_, (pss_one (ps_ret (fld T (pv 0)))), ?_⟩
    exact ⟨_, rfl, c, _, dx, _, _, rfl, hc, T.cl_CA, T.no_CA_days_of_week, rfl, q⟩
  )]); intro f; simpa using My.gz f 5 true
theorem pC_week {X : Cx} {k : Nat} {e : Expr} {ta : TE} {pos : Pos} (T : Tx K mg) (hr : Room k X.A) (he : PE X e ta) (hk : 2 ≤ k := by decide) (hK : X.K = K := by rfl) (hm : X.mg = mg := by rfl)
    (hab : attributeBase e "week" X.env (eval e X.env) = eval e X.env := by rfl) : PE X (.Attribute e "week" pos) (tPropR (CA K) (sp_cweek K) E0 ta) := by
  subst hK
  subst hm
  exact pe_propR he T.cl_CA T.pr_CA_week (okC_week T) (hr.mono hk) pass0 hab
def sp_cfirst (K : Fg) : Sp := fun vs H Q _ => ∃ (c : Addr) (C : Cal), vs = [.ref c] ∧ CalX K H c C ∧ Q (.int (C.first : Int)) H
theorem okC_first (T : Tx K mg) : FnR P w K mg base CX0 1 (He5.wf K (CA K) "property" "first") (sp_cfirst K) := by
  apply My.two; (focus intro zzI; simp only [↓ My.mkB zzI (by
  clear zzI
  refine (T.fnR 6 (st := s_Calendar_first) (at_ := fun K => He5.wf K (He.ga K "Calendar") "property" "first") rfl sc_Calendar_first (fun _ _ _ _ _ _ us hl => match us, hl with | [_], _ => rfl)) (fun vs H Q E h => ?_) (fun cdv A outer s H vs Q E hr h => ?_)
  · obtain ⟨c, C, rfl, _⟩ := h
    rfl
  · obtain ⟨c, C, rfl, ⟨ws, hw, dx, ay, rr, fr, l, st, hc, B, ok⟩, q⟩ := h
    refine ⟨_, (pss_one (ps_ret (fld T (pv 0)))), ?_⟩
    exact ⟨_, rfl, c, _, dx, _, _, rfl, hc, T.cl_CA, T.no_CA_begins, rfl, q⟩
  )]); intro f; simpa using My.gz f 5 true
theorem pC_first {X : Cx} {k : Nat} {e : Expr} {ta : TE} {pos : Pos} (T : Tx K mg) (hr : Room k X.A) (he : PE X e ta) (hk : 2 ≤ k := by decide) (hK : X.K = K := by rfl) (hm : X.mg = mg := by rfl)
    (hab : attributeBase e "first" X.env (eval e X.env) = eval e X.env := by rfl) : PE X (.Attribute e "first" pos) (tPropR (CA K) (sp_cfirst K) E0 ta) := by
  subst hK
  subst hm
  exact pe_propR he T.cl_CA T.pr_CA_first (okC_first T) (hr.mono hk) pass0 hab
def sp_ccyc (K : Fg) : Sp := fun vs H Q _ => ∃ (c : Addr) (C : Cal), vs = [.ref c] ∧ CalX K H c C ∧ Q (.int (C.ls.sum : Int)) H
theorem okC_cycle_days (T : Tx K mg) : FnR P w K mg base CX0 1 (He5.wf K (CA K) "property" "cycle_days") (sp_ccyc K) := by
  apply My.two; (focus intro zzI; simp only [↓ My.mkB zzI (by
  clear zzI
  refine (T.fnR 10 (st := s_Calendar_cycle_days) (at_ := fun K => He5.wf K (He.ga K "Calendar") "property" "cycle_days") rfl sc_Calendar_cycle_days (fun _ _ _ _ _ _ us hl => match us, hl with | [_], _ => rfl)) (fun vs H Q E h => ?_) (fun cdv A outer s H vs Q E hr h => ?_)
  · obtain ⟨c, C, rfl, _⟩ := h
    rfl
  · obtain ⟨c, C, rfl, ⟨ws, hw, dx, ay, rr, fr, l, st, hc, B, ok⟩, q⟩ := h
    refine ⟨_, (pss_one (ps_ret (pe_ix (ixl T) (fld T (pv 0)) (pe_un un_neg pe_int) (fun _ _ => rfl)))), ?_⟩
    have hs := B.s
    rfl'
    exact ⟨mst_last, q⟩
  )]); intro f; simpa using My.gz f 5 true
theorem pC_cycle_days {X : Cx} {k : Nat} {e : Expr} {ta : TE} {pos : Pos} (T : Tx K mg) (hr : Room k X.A) (he : PE X e ta) (hk : 2 ≤ k := by decide) (hK : X.K = K := by rfl) (hm : X.mg = mg := by rfl)
    (hab : attributeBase e "cycle_days" X.env (eval e X.env) = eval e X.env := by rfl) : PE X (.Attribute e "cycle_days" pos) (tPropR (CA K) (sp_ccyc K) E0 ta) := by
  subst hK
  subst hm
  exact pe_propR he T.cl_CA T.pr_CA_cycle_days (okC_cycle_days T) (hr.mono hk) pass0 hab
def sp_cmd (K : Fg) : Sp := fun vs H Q _ => ∃ (c : Addr) (C : Cal) (m : Int), vs = [.ref c, .int m] ∧ CalX K H c C ∧ Q (.int (ml C.ls m)) H
theorem okC_month_days (T : Tx K mg) : FnR P w K mg base CX0 1 (He.ma K (CA K) "month_days") (sp_cmd K) := by
  apply My.two; (focus intro zzI; simp only [↓ My.mkB zzI (by
  clear zzI
  refine (T.fnR 13 (st := s_Calendar_month_days) (at_ := fun K => He.ma K (He.ga K "Calendar") "month_days") rfl sc_Calendar_month_days (fun _ _ _ _ _ _ us hl => match us, hl with | [_, _], _ => rfl)) (fun vs H Q E h => ?_) (fun cdv A outer s H vs Q E hr h => ?_)
  · obtain ⟨c, C, m, rfl, _⟩ := h
    rfl
  · obtain ⟨c, C, m, rfl, ⟨ws, hw, dx, ay, rr, fr, l, st, hc, B, ok⟩, q⟩ := h
    refine ⟨_, (pss_one (ps_ret (pe_ix (ixl T) (fld T (pv 0)) (pe_op op_mod (pv 1) (pe_callB (len_k T) (by rfl) T.n_len (by decide +kernel) (pa_cons (fld T (pv 0)) pa_nil))) (fun _ _ => rfl)))), ?_⟩
    have n0 := ok.ne
    have n1 := ok.le
    have hl := B.l
    have el : (C.ls.map natV).length = C.ls.length := List.length_map ..
    have q0 := Int.emod_nonneg m (show (C.ls.length : Int) ≠ 0 by omega)
    have q1 := Int.emod_lt_of_pos m (show (0 : Int) < (C.ls.length : Int) by omega)
    have ea : atI (C.ls.map natV) (m % (((C.ls.map natV).length : Nat) : Int)) = some (.int (ml C.ls m)) := by
      rw [el]
      refine at_of (j := (m % (C.ls.length : Int)).toNat) (by omega) ?_
      rw [List.getElem?_map, List.getElem?_eq_getElem (by omega)]
      unfold ml natV
      rw [List.getD_eq_getElem?_getD, List.getElem?_eq_getElem (by omega)]
      rfl
    rfl'
    exact q
  )]); intro f; simpa using My.gz f 5 true
theorem mC_month_days {X : Cx} {k : Nat} {o e : Expr} {es : List Expr} {ta : TE} {t : TA} {apos pos : Pos} {pl : Sem Bool} (T : Tx K mg) (hr : Room k X.A) (he : PE X o ta) (ha : PA X (e :: es) t) (hk : 1 ≤ k := by decide) (hK : X.K = K := by rfl) (hm : X.mg = mg := by rfl)
    (hst : starEach (e :: es) X.env = (false, eval e X.env) :: starEach es X.env := by rfl) (hpl : (backTo pos (starEach es X.env)).any (·.1) = false := by rfl)
    (ht : eval (.Call (.Attribute o "month_days" apos) (e :: es) [] pos) X.env = (do
      let ov ← eval o X.env
      standAt apos.atName
      let (f, first) ← holding [ov] (getMethod ov "month_days" pl)
      callWith pos f first (backTo pos (starEach (e :: es) X.env)) (backToKw pos (keywordEach [] X.env))) := by rfl) :
    PE X (.Call (.Attribute o "month_days" apos) (e :: es) [] pos) (tMethR (CA K) "month_days" (sp_cmd K) E0 ta t) := by
  subst hK
  subst hm
  exact pe_methR he T.cl_CA T.me_CA_month_days (okC_month_days T) (hr.mono hk) pass0 ha hst hpl ht
def sp_cml (K : Fg) : Sp := fun vs H Q _ => ∃ (c : Addr) (C : Cal) (y m : Int), vs = [.ref c, .int y, .int m] ∧ CalX K H c C ∧ 1 ≤ m ∧ m ≤ (C.mon : Int) ∧ Q (.int (ml C.ls (y * (C.mon : Int) + m - 1))) H
theorem okC_month_length (T : Tx K mg) : FnR P w K mg base CX0 3 (He.ma K (CA K) "month_length") (sp_cml K) := by
  apply My.two; (focus intro zzI; simp only [↓ My.mkB zzI (by
  clear zzI
  refine (T.fnR 15 (st := s_Calendar_month_length) (at_ := fun K => He.ma K (He.ga K "Calendar") "month_length") rfl sc_Calendar_month_length (fun _ _ _ _ _ _ us hl => match us, hl with | [_, _, _], _ => rfl)) (fun vs H Q E h => ?_) (fun cdv A outer s H vs Q E hr h => ?_)
  · obtain ⟨c, C, y, m, rfl, _⟩ := h
    rfl
  · obtain ⟨c, C, y, m, rfl, hX, m0, m1, q⟩ := h
    refine ⟨_, (pss_cons (ps_if (pt_not (pt_val (c_is_between T hr (pa_cons (pv 2) (pa_cons pe_int (pa_cons (pC_months T hr (pv 0)) pa_nil))))))
 (pss_one ps_never)
 pss_nil)
 (pss_one (ps_ret (mC_month_days T hr (pv 0) (pa_cons (pe_op op_sub (pe_op op_add (pe_op op_mul (pv 1) (pC_months T hr (pv 0))) (pv 2)) pe_int) pa_nil))))), ?_⟩
    obtain ⟨ws, hw, dx, ay, rr, fr, l, st, hc, B, ok⟩ := id hX
    have k1 : (b8 ay rr fr l st C ++ ws).lookup ("months" : Str) = none := b8_none hw
    have k2 : (b8 ay rr fr l st C ++ ws).lookup ("month_days" : Str) = none := b8_none hw
    have o1 := ok.m1
    rfl'
    rw [decide_eq_true m0, decide_eq_true m1, Bool.and_self]
    refine iteF ?_
    rfl'
    exact q
  )]); intro f; simpa using My.gz f 5 true
theorem mC_month_length {X : Cx} {k : Nat} {o e : Expr} {es : List Expr} {ta : TE} {t : TA} {apos pos : Pos} {pl : Sem Bool} (T : Tx K mg) (hr : Room k X.A) (he : PE X o ta) (ha : PA X (e :: es) t) (hk : 3 ≤ k := by decide) (hK : X.K = K := by rfl) (hm : X.mg = mg := by rfl)
    (hst : starEach (e :: es) X.env = (false, eval e X.env) :: starEach es X.env := by rfl) (hpl : (backTo pos (starEach es X.env)).any (·.1) = false := by rfl)
    (ht : eval (.Call (.Attribute o "month_length" apos) (e :: es) [] pos) X.env = (do
      let ov ← eval o X.env
      standAt apos.atName
      let (f, first) ← holding [ov] (getMethod ov "month_length" pl)
      callWith pos f first (backTo pos (starEach (e :: es) X.env)) (backToKw pos (keywordEach [] X.env))) := by rfl) :
    PE X (.Call (.Attribute o "month_length" apos) (e :: es) [] pos) (tMethR (CA K) "month_length" (sp_cml K) E0 ta t) := by
  subst hK
  subst hm
  exact pe_methR he T.cl_CA T.me_CA_month_length (okC_month_length T) (hr.mono hk) pass0 ha hst hpl ht
def sp_cdo (K : Fg) : Sp := fun vs H Q _ => ∃ (c : Addr) (C : Cal) (y m d : Int), vs = [.ref c, .int y, .int m, .int d] ∧ CalX K H c C ∧ 1 ≤ m ∧ m ≤ (C.mon : Int) ∧ 1 ≤ d ∧ d ≤ ml C.ls (y * (C.mon : Int) + m - 1) ∧ Q (.int (ms C.ls (y * (C.mon : Int) + m - 1) + d - 1)) H
theorem okC_date_of (T : Tx K mg) : FnR P w K mg base CX0 4 (He.ma K (CA K) "date_of") (sp_cdo K) := by
  apply My.two; (focus intro zzI; simp only [↓ My.mkB zzI (by
  clear zzI
  refine (T.fnR 16 (st := s_Calendar_date_of) (at_ := fun K => He.ma K (He.ga K "Calendar") "date_of") rfl sc_Calendar_date_of (fun _ _ _ _ _ _ us hl => match us, hl with | [_, _, _, _], _ => rfl)) (fun vs H Q E h => ?_) (fun cdv A outer s H vs Q E hr h => ?_)
  · obtain ⟨c, C, y, m, d, rfl, _⟩ := h
    rfl
  · obtain ⟨c, C, y, m, d, rfl, hX, m0, m1, d0, d1, q⟩ := h
    refine ⟨_, (pss_cons (ps_if (PW.pt (pw_or (pt_not (pt_val (c_is_between T hr (pa_cons (pv 2) (pa_cons pe_int (pa_cons (pC_months T hr (pv 0)) pa_nil)))))) (pw_or1 (pt_not (pt_val (c_is_between T hr (pa_cons (pv 3) (pa_cons pe_int (pa_cons (mC_month_length T hr (pv 0) (pa_cons (pv 1) (pa_cons (pv 2) pa_nil))) pa_nil)))))))))
 (pss_one ps_never)
 pss_nil)
 (pss_one (ps_ret (pe_op op_sub (pe_op op_add (mC_month_start T hr (pv 0) (pa_cons (pe_op op_sub (pe_op op_add (pe_op op_mul (pv 1) (pC_months T hr (pv 0))) (pv 2)) pe_int) pa_nil)) (pv 3)) pe_int)))), ?_⟩
    obtain ⟨ws, hw, dx, ay, rr, fr, l, st, hc, B, ok⟩ := id hX
    have k1 : (b8 ay rr fr l st C ++ ws).lookup ("months" : Str) = none := b8_none hw
    have k2 : (b8 ay rr fr l st C ++ ws).lookup ("month_length" : Str) = none := b8_none hw
    have k3 : (b8 ay rr fr l st C ++ ws).lookup ("month_start" : Str) = none := b8_none hw
    have o1 := ok.m1
    rfl'
    rw [decide_eq_true m0, decide_eq_true m1, Bool.and_self]
    refine iteF ?_
    rfl'
    rw [decide_eq_true d0, decide_eq_true d1, Bool.and_self]
    refine iteF ?_
    rfl'
    exact q
  )]); intro f; simpa using My.gz f 5 true
theorem mC_date_of {X : Cx} {k : Nat} {o e : Expr} {es : List Expr} {ta : TE} {t : TA} {apos pos : Pos} {pl : Sem Bool} (T : Tx K mg) (hr : Room k X.A) (he : PE X o ta) (ha : PA X (e :: es) t) (hk : 4 ≤ k := by decide) (hK : X.K = K := by rfl) (hm : X.mg = mg := by rfl)
    (hst : starEach (e :: es) X.env = (false, eval e X.env) :: starEach es X.env := by rfl) (hpl : (backTo pos (starEach es X.env)).any (·.1) = false := by rfl)
    (ht : eval (.Call (.Attribute o "date_of" apos) (e :: es) [] pos) X.env = (do
      let ov ← eval o X.env
      standAt apos.atName
      let (f, first) ← holding [ov] (getMethod ov "date_of" pl)
      callWith pos f first (backTo pos (starEach (e :: es) X.env)) (backToKw pos (keywordEach [] X.env))) := by rfl) :
    PE X (.Call (.Attribute o "date_of" apos) (e :: es) [] pos) (tMethR (CA K) "date_of" (sp_cdo K) E0 ta t) := by
  subst hK
  subst hm
  exact pe_methR he T.cl_CA T.me_CA_date_of (okC_date_of T) (hr.mono hk) pass0 ha hst hpl ht
def evenL : List Nat := [31, 28, 31, 30, 31, 30, 31, 31, 30, 31, 30, 31]
def leapL : List Nat := [31, 29, 31, 30, 31, 30, 31, 31, 30, 31, 30, 31]
def gregL : List (List Nat) := (List.range 400).map fun y => if y % 4 = 0 ∧ (y % 100 ≠ 0 ∨ y = 0) then leapL else evenL
def RowsL2 (H : Hp) (ts : List Addr) (rows : List (List Nat)) : Prop := Paired (fun t r => H t = some (.lst (r.map natV))) ts rows
theorem RowsL2.rows {H : Hp} : ∀ {ts : List Addr} {rows : List (List Nat)}, RowsL2 H ts rows → RowsV H ts rows
  | _, _, .nil => .nil
  | _, _, .cons h t => .cons (.inl h) (RowsL2.rows t)
theorem RowsL2.same {H H' : Hp} (s : Same H H') : ∀ {ts : List Addr} {rows : List (List Nat)}, RowsL2 H ts rows → RowsL2 H' ts rows
  | _, _, .nil => .nil
  | _, _, .cons h t => .cons (s _ _ h) (RowsL2.same s t)
theorem RowsL2.at_ne {H H' : Hp} : ∀ {ts : List Addr} {rows : List (List Nat)}, RowsL2 H ts rows → (∀ t ∈ ts, H' t = H t) → RowsL2 H' ts rows
  | _, _, .nil, _ => .nil
  | _, _, .cons h t, e => .cons (by show H' _ = _; rw [e _ (List.mem_cons_self ..)]; exact h) (RowsL2.at_ne t fun x hx => e x (List.mem_cons_of_mem _ hx))
theorem RowsL2.snoc {H : Hp} {t : Addr} {row : List Nat} (ht : H t = some (.lst (row.map natV))) : ∀ {ts : List Addr} {rows : List (List Nat)}, RowsL2 H ts rows → RowsL2 H (ts ++ [t]) (rows ++ [row])
  | _, _, .nil => .cons ht .nil
  | _, _, .cons h r => .cons h (RowsL2.snoc ht r)
theorem greg_push {H2 H3 H4 : Hp} {D t : Addr} {ts : List Addr} {row : List Nat} {i : Nat} (hD : H2 D = none) (s3 : Same H2 H3) (e3 : H3 D = some (.lst (ts.map V.ref))) (tl : ts.length = i) (tn : ∀ t ∈ ts, t ≠ D) (hr : RowsL2 H3 ts (gregL.take i)) (s4 : Same H3 H4) (tD : t ≠ D) (et : H4 t = some (.lst (row.map natV))) (er : gregL[i]? = some row) (hi : i < 400) :
    (fun H' => Same H2 H' ∧ ∃ ts : List Addr, H' D = some (.lst (ts.map V.ref)) ∧ ts.length = i + 1 ∧ (∀ t ∈ ts, t ≠ D) ∧ RowsL2 H' ts (gregL.take (i + 1))) (upd H4 D (.lst (ts.map V.ref ++ [.ref t]))) := by
  apply My.two; (focus intro zzI; simp only [↓ My.mkB zzI (by
  clear zzI
  have mem : ∀ x ∈ ts ++ [t], x ≠ D := fun x hx => by
    rcases List.mem_append.mp hx with hx | hx
    · exact tn x hx
    · rw [List.mem_singleton.mp hx]
      exact tD
  refine ⟨same_under (s3.trans s4) hD, ts ++ [t], by rw [upd_same, List.map_append]; rfl, by rw [List.length_append, tl]; rfl, mem, ?_⟩
  rw [List.take_succ, er]
  exact RowsL2.at_ne (H := H4) (RowsL2.snoc et (hr.same s4)) fun x hx => upd_ne (mem x hx)
  )]); intro f; simpa using My.gz f 5 true
def sp_gy : Sp := fun vs H Q _ => vs = [] ∧ ∀ (y : Addr) (ts : List Addr) (H' : Hp), Same H H' → H' y = some (.lst (ts.map V.ref)) → RowsV H' ts gregL → Q (.ref y) H'
theorem ok_gregorian_years (T : Tx K mg) : FnR P w K mg base CX0 1 (He.ga K "gregorian_years") sp_gy := by
  apply My.two; (focus intro zzI; simp only [↓ My.mkB zzI (by
  clear zzI
  refine (T.fnR 37 (st := s_gregorian_years) (at_ := fun K => He.ga K "gregorian_years") rfl sc_gregorian_years (fun _ _ _ _ _ _ us hl => match us, hl with | [], _ => rfl)) (fun vs H Q E h => ?_) (fun cdv A outer s H vs Q E hr h => ?_)
  · obtain ⟨rfl, _⟩ := h
    rfl
  · obtain ⟨rfl, k⟩ := h
    refine ⟨_, (pss_cons (ps_set (i := 0) sc_gregorian_years.nd rfl (Or.inr rfl) (pe_lst (pa_cons (pe_ix (ixt T) (pe_glob (v := .ref (He.ga K "EVEN")) rfl T.g_EVEN rfl) pe_int (fun _ _ => rfl)) (pa_cons (pe_op op_add (pe_ix (ixt T) (pe_glob (v := .ref (He.ga K "EVEN")) rfl T.g_EVEN rfl) pe_int (fun _ _ => rfl)) pe_int) (past T (pe_slice (slt T) (pe_glob (v := .ref (He.ga K "EVEN")) rfl T.g_EVEN rfl) (po_some pe_int) po_none) pa_nil)))))
 (pss_one (ps_ret (pe_lc (own := [("year", 1)]) rfl sc_gregorian_years.nd (pi_range1 rfl T.n_range (pa_cons pe_int pa_nil)) (blkOk_by (own := [("year", 1)]) (N := N_gregorian_years) (sc := defScope s_gregorian_years) (by decide +kernel)) (fun _ _ _ _ _ => (pg_name (i := 1) sc_gregorian_years.nd rfl (Or.inl rfl))) (fun _ _ _ _ _ => pts_nil) (fun _ _ _ _ _ => (pe_ifExp (PW.pt (pw_and (pt_cmpR op_eq (pe_op op_mod (pv 1) pe_int) pe_int (nomark _)) (pw_and1 (PW.pt (pw_or (pt_cmpR op_ne (pe_op op_mod (pv 1) pe_int) pe_int (nomark _)) (pw_or1 (pt_cmpR op_eq (pv 1) pe_int (nomark _)))))))) (pv 0) (pe_callTy (lst_k T) (by rfl) T.n_list (by decide +kernel) (pa_cons (pe_glob (v := .ref (He.ga K "EVEN")) rfl T.g_EVEN rfl) pa_nil)))))))), ?_⟩
    have hE := T.tup_EVEN H
    rfl'
    rename_i tp ntp H1 s1 e1
    refine ⟨.inl (SqT.of e1), ?_⟩
    rfl'
    rename_i le nle H2 s2 e2
    replace e2 : H2 le = some (.lst (leapL.map natV)) := e2
    intro D hD
    refine walk_w walk_range (fun i H' => Same H2 H' ∧ ∃ ts : List Addr, H' D = some (.lst (ts.map V.ref)) ∧ ts.length = i ∧ (∀ t ∈ ts, t ≠ D) ∧ RowsL2 H' ts (gregL.take i)) ⟨same_upd hD, [], upd_same, rfl, (fun t ht => by cases ht), .nil⟩ (fun _ _ _ _ => trivial) ?_ ?_
    · rintro i x _ H3 hi ⟨s3, ts, e3, tl, tn, hr3⟩ ⟨rfl, rfl⟩
      replace hi : i < 400 := hi
      have hE3 := T.tup_EVEN H3
      have row : ∀ r, (if i % 4 = 0 ∧ (i % 100 ≠ 0 ∨ i = 0) then leapL else evenL) = r → gregL[i]? = some r := fun r e => by
        unfold gregL
        rw [List.getElem?_map, List.getElem?_range hi, Option.map_some, e]
      have leD : le ≠ D := fun z => by
        rw [z, hD] at e2
        cases e2
      have up : (i % 4 = 0 ∧ (i % 100 ≠ 0 ∨ i = 0)) → _ := fun c => greg_push (i := i) hD s3 e3 tl tn hr3 (Same.refl H3) leD (s3 _ _ e2) (row leapL (if_pos c)) hi
      have ev : ¬ (i % 4 = 0 ∧ (i % 100 ≠ 0 ∨ i = 0)) → ∀ (t : Addr) (H4 : Hp), Same H3 H4 → H3 t = none → H4 t = some (.lst (evenL.map natV)) → _ := fun c t H4 s4 nt e4 => greg_push (i := i) hD s3 e3 tl tn hr3 s4 (fun z => by rw [z, e3] at nt; cases nt) e4 (row evenL (if_neg c)) hi
      rfl'
      refine ite2 (fun c => ?_) (fun c => ?_)
      · have c1 : (0 + (i : Int)) % 4 = 0 := V.int.inj (of_decide_eq_true c)
        rfl'
        refine ite2 (fun d => ?_) (fun d => ?_)
        · have d1 : ¬ ((0 + (i : Int)) % 100 = 0) := fun z => by
            rw [decide_eq_true (show (fun i j : Int => V.int (i % j)) (0 + (i : Int)) 100 = V.int 0 from congrArg V.int z)] at d
            cases d
          refine iteT ?_
          rfl'
          exact up ⟨by omega, .inl (by omega)⟩
        · have d1 : (0 + (i : Int)) % 100 = 0 := by
            by_cases z : (0 + (i : Int)) % 100 = 0
            · exact z
            · exact absurd (by rw [decide_eq_false fun y => z (V.int.inj y)]; rfl) d
          rfl'
          refine ite2 (fun f => ?_) (fun f => ?_)
          · have f1 : (0 + (i : Int)) = 0 := V.int.inj (of_decide_eq_true f)
            rfl'
            exact up ⟨by omega, .inr (by omega)⟩
          · have f1 : ¬ ((0 + (i : Int)) = 0) := fun z => f (decide_eq_true (congrArg V.int z))
            rfl'
            rename_i t nt H4 s4 e4
            exact ev (fun z => by omega) t H4 s4 nt e4
      · have c1 : ¬ ((0 + (i : Int)) % 4 = 0) := fun z => c (decide_eq_true (congrArg V.int z))
        rfl'
        rename_i t nt H4 s4 e4
        exact ev (fun z => by omega) t H4 s4 nt e4
    rintro H3 ⟨s3, ts, e3, tl, tn, hr3⟩
    rw [show gregL.take (Int.toNat 400) = gregL from rfl] at hr3
    exact k D ts H3 ((s1.trans s2).trans s3) e3 hr3.rows
  )]); intro f; simpa using My.gz f 5 true
theorem c_gregorian_years {X : Cx} {k : Nat} {np pos : Pos} (T : Tx K mg) (hr : Room k X.A) (ha : PA X [] tNil) (hk : 1 ≤ k := by decide) (hK : X.K = K := by rfl) (hm : X.mg = mg := by rfl) (hg : Gl X "gregorian_years" := by rfl) :
    PE X (.Call (.Name "gregorian_years" np) [] [] pos) (tFn sp_gy E0 tNil) := by
  subst hK
  subst hm
  exact pe_f0R (ok_gregorian_years T) T.kp_gregorian_years T.g_gregorian_years (hr.mono hk) pass0 hg (by decide)
theorem greg_len : gregL.length = 400 := by
  unfold gregL
  rw [List.length_map, List.length_range]
theorem greg_row : ∀ r ∈ gregL, r = leapL ∨ r = evenL := fun r hr => by
  obtain ⟨y, _, rfl⟩ := List.mem_map.mp hr
  split
  · exact .inl rfl
  · exact .inr rfl
theorem greg_sum : gregL.flatten.sum = 146097 := by decide +kernel
def gregC : Cal := ⟨gregL, 7, 5, [5, 6], []⟩
theorem greg_0 : gregL.getD 0 [] = leapL := by decide +kernel
theorem greg_ok : gregC.Ok where
  yr := ⟨by show 0 < gregL.length; rw [greg_len]; decide, by show gregL.length ≤ 400; rw [greg_len]; decide, by show 0 < (gregL.getD 0 []).length; rw [greg_0]; decide, by show (gregL.getD 0 []).length ≤ 14; rw [greg_0]; decide, fun r hr => by
      show r.length = (gregL.getD 0 []).length
      rw [greg_0]
      rcases greg_row r hr with rfl | rfl <;> rfl, fun r hr => by
      rcases greg_row r hr with rfl | rfl <;> decide⟩
  w0 := by decide
  w1 := by decide
  f := by decide
  rest := by decide
  rnd := by decide
  rl := by decide
  hol := fun p hp => by cases hp
  hnd := by decide
  hl := by decide
  per := by
    show Nat.lcm gregL.flatten.sum 7 ≤ 200000
    rw [greg_sum]
    decide
theorem greg_per : gregC.per = 146097 := by
  apply My.two; (focus intro zzI; simp only [↓ My.mkB zzI (by
  clear zzI
  show Nat.lcm gregL.flatten.sum 7 = 146097
  rw [greg_sum]
  rfl
  )]); intro f; simpa using My.gz f 5 true
theorem greg_works : gregC.works ≠ [] := by
  apply My.two; (focus intro zzI; simp only [↓ My.mkB zzI (by
  clear zzI
  unfold Cal.works
  rw [greg_per, if_neg (by decide)]
  have : (2 : Nat) ∈ gregC.wrkN 146097 := Cal.mem_wrkN.mpr ⟨by decide, by unfold Cal.isW; decide +kernel⟩
  intro z
  cases e : gregC.wrkN 146097 with
  | nil =>
    rw [e] at this
    cases this
  | cons x xs =>
    rw [e] at z
    cases z
  )]); intro f; simpa using My.gz f 5 true
theorem ck_cls_first_rest_holidays {X : Cx} {k : Nat} {t tk : TA} {e : Expr} {es : List Expr} {kws : List Keyword} {np pos : Pos} (T : Tx K mg) (hr : Room k X.A) (ha : PA X (e :: es) t) (hkw : PK X kws tk) (hk : 7 ≤ k := by decide) (hK : X.K = K := by rfl) (hm : X.mg = mg := by rfl) (hN : X.N[0]? = some ("cls" : Str) := by rfl)
    (hv : Vis X.env.scope "cls" := by first | exact Or.inl rfl | exact Or.inr (Or.inl rfl) | exact Or.inr (Or.inr rfl))
    (hall : (backToKw pos (keywordEach kws X.env)).all (·.1.isSome) = true := by rfl) (hks : (backToKw pos (keywordEach kws X.env)).filterMap (·.1) = [("first" : Str), ("rest" : Str), ("holidays" : Str)] := by rfl)
    (hse : starEach (e :: es) X.env = (false, eval e X.env) :: starEach es X.env := by rfl)
    (hpl : ((backTo pos (starEach (e :: es) X.env)).any (·.1) || (backToKw pos (keywordEach kws X.env)).any (·.1.isNone)) = false := by rfl) : PE X (.Call (.Name "cls" np) (e :: es) kws pos) (tMkKnV 0 (CA K) 2 3 [0, 1, 2, 3, 4, 5] (sp_cinit K) E0 t tk) := by
  subst hK
  subst hm
  exact pe_mkKnV (i := 0) (n := 2) (ks := [("first" : Str), ("rest" : Str), ("holidays" : Str)]) T.mk_CA ((oka_cinit T).kw 3 [("first" : Str), ("rest" : Str), ("holidays" : Str)] [0, 1, 2, 3, 4, 5] (fun z => by cases z) (fun _ _ _ _ _ _ _ us its ws h1 h2 h3 => match us, its, ws, h1, h2, h3 with | [_, _, _], [_], [_, _, _], _, _, _ => ⟨_, rfl, rfl⟩)) (hr.mono hk) pass0 ha hkw hN hv (by decide) (by decide) hall hks hse hpl
def gregK (K : Fg) (H : Hp) (Q : VK) : Prop := ∀ (c : Addr) (H' : Hp), Same H H' → H c = none → CalAt K H' c gregC → Q (.ref c) H'
def sp_greg3 (K : Fg) : Sp := fun vs H Q _ => ∃ r h : Addr, vs = [.ref (CA K), .ref r, .ref h] ∧ KT K r (gregC.rest.map V.int) ∧ KT K h [] ∧ gregK K H Q
def sp_greg (K : Fg) : Sp := fun vs H Q _ => vs = [.ref (CA K)] ∧ gregK K H Q
theorem okC_gregorian (T : Tx K mg) : FnR P w K mg base CX0 8 (He5.wf K (CA K) "classmethod" "gregorian") (sp_greg K) := by
  apply My.two; (focus intro zzI; simp only [↓ My.mkB zzI (by
  clear zzI
  refine (T.fnKd 2 (st := s_Calendar_gregorian) (at_ := fun K => He5.wf K (He.ga K "Calendar") "classmethod" "gregorian") (sp := sp_greg3 K) 1 rfl sc_Calendar_gregorian (fun z => by cases z) rfl (fun D doc pm an cdv ct us ks h1 h2 => match us, ks, h1, h2 with | [_], [_, _], _, _ => ⟨_, _, _, _, _, _, rfl, rfl, _, _, _, _, _, _, rfl, rfl, rfl⟩) (fun vs H Q E h => ?_) (fun cdv A outer s H vs Q E hr h => ?_)).imp (fun vs H Q E h => ?_)
  · obtain ⟨r, hh, rfl, _⟩ := h
    rfl
  · obtain ⟨r, hh, rfl, hr5, hh0, k⟩ := h
    refine ⟨_, (pss_one (ps_ret (ck_cls_first_rest_holidays T hr (pa_cons (c_gregorian_years T hr pa_nil) (pa_cons pe_int pa_nil)) (pk_cons pe_int (pk_cons (pv 1) (pk_cons (pv 2) pk_nil)))))), ?_⟩
    rfl'
    intro y ts H1 s1 hy hrw
    rfl'
    intro x dx nx nd ne
    have s0 : Same H1 (upd (upd H1 dx (.own x)) x (.ins (CA K) dx [])) := fun b u e => by
      rw [upd_ne (ne_of_none e nx), upd_ne (ne_of_none e nd)]
      exact e
    refine ⟨x, dx, y, r, hh, ts, [], gregC, rfl, upd_same, .inl (s0 _ _ hy), hrw.same s0, .inr hr5, .inr hh0, .nil, greg_ok, greg_works, fun rs ps H' p1 pw1 p2 pw2 ca kx => ⟨rfl, ?_⟩⟩
    have er : rs = gregC.rest := List.Perm.eq_of_pairwise (fun _ _ _ _ h h' => Int.le_antisymm h h') pw1 (by decide) p1
    have eh : ps = gregC.hol := List.Perm.eq_nil p2
    rw [er, eh] at ca
    exact k x H' (fun b u e => kx b u (s0 b u (s1 b u e)) (ne_of_none (s1 b u e) nx)) (s1.free nx) ca.at_
  · obtain ⟨rfl, k⟩ := h
    exact ⟨_, _, rfl, SqT.seqK fun H => T.kw_gregorian_rest H, SqT.seqK fun H => T.kw_gregorian_holidays H, k⟩
  )]); intro f; simpa using My.gz f 5 true
theorem cm_gregorian {X : Cx} {k : Nat} {o : Expr} {ta : TE} {apos pos : Pos} {pl : Sem Bool} (T : Tx K mg) (hr : Room k X.A) (he : PE X o ta) (hk : 8 ≤ k := by decide) (hK : X.K = K := by rfl) (hm : X.mg = mg := by rfl)
    (ht : eval (.Call (.Attribute o "gregorian" apos) [] [] pos) X.env = (do
      let ov ← eval o X.env
      standAt apos.atName
      let (f, first) ← holding [ov] (getMethod ov "gregorian" pl)
      callWith pos f first (backTo pos (starEach [] X.env)) (backToKw pos (keywordEach [] X.env))) := by rfl) :
    PE X (.Call (.Attribute o "gregorian" apos) [] [] pos) (ClX.tCMeth (CA K) (sp_greg K) E0 ta tNil) := by
  subst hK
  subst hm
  exact pe_cm0R he T.cr_CA T.cm_CA_gregorian (okC_gregorian T) (hr.mono hk) pass0 ht
end
end Lw
namespace Lw
open PySem PySem.Spec PyProof.Rows L2 My
section
variable {P : Program} {w : World} {K : Fg} {mg : Str → Option Value} {base : Heap}
def sp_crest (K : Fg) : Sp := fun vs H Q _ => ∃ (c : Addr) (C : Cal), vs = [.ref c] ∧ CalX K H c C ∧ ∀ rr : Addr, H rr = some (.tup (C.rest.map V.int)) → Q (.ref rr) H
theorem okC_rest (T : Tx K mg) : FnR P w K mg base CX0 1 (He5.wf K (CA K) "property" "rest") (sp_crest K) := by
  apply My.two; (focus intro zzI; simp only [↓ My.mkB zzI (by
  clear zzI
  refine (T.fnR 7 (st := s_Calendar_rest) (at_ := fun K => He5.wf K (He.ga K "Calendar") "property" "rest") rfl sc_Calendar_rest (fun _ _ _ _ _ _ us hl => match us, hl with | [_], _ => rfl)) (fun vs H Q E h => ?_) (fun cdv A outer s H vs Q E hr h => ?_)
  · obtain ⟨c, C, rfl, _⟩ := h
    rfl
  · obtain ⟨c, C, rfl, ⟨ws, hw, dx, ay, rr, fr, l, st, hc, B, ok⟩, q⟩ := h
    refine ⟨_, (pss_one (ps_ret (fld T (pv 0)))), ?_⟩
    exact ⟨_, rfl, c, _, dx, _, _, rfl, hc, T.cl_CA, T.no_CA_rests, rfl, q rr B.rr⟩
  )]); intro f; simpa using My.gz f 5 true
theorem pC_rest {X : Cx} {k : Nat} {e : Expr} {ta : TE} {pos : Pos} (T : Tx K mg) (hr : Room k X.A) (he : PE X e ta) (hk : 2 ≤ k := by decide) (hK : X.K = K := by rfl) (hm : X.mg = mg := by rfl)
    (hab : attributeBase e "rest" X.env (eval e X.env) = eval e X.env := by rfl) : PE X (.Attribute e "rest" pos) (tPropR (CA K) (sp_crest K) E0 ta) := by
  subst hK
  subst hm
  exact pe_propR he T.cl_CA T.pr_CA_rest (okC_rest T) (hr.mono hk) pass0 hab
def sp_chol (K : Fg) : Sp := fun vs H Q _ => ∃ (c : Addr) (C : Cal), vs = [.ref c] ∧ CalX K H c C ∧ ∀ (fr : Addr) (ts : List Addr), H fr = some (.tup (ts.map V.ref)) → PrT H ts C.hol → Q (.ref fr) H
theorem okC_holidays (T : Tx K mg) : FnR P w K mg base CX0 1 (He5.wf K (CA K) "property" "holidays") (sp_chol K) := by
  apply My.two; (focus intro zzI; simp only [↓ My.mkB zzI (by
  clear zzI
  refine (T.fnR 8 (st := s_Calendar_holidays) (at_ := fun K => He5.wf K (He.ga K "Calendar") "property" "holidays") rfl sc_Calendar_holidays (fun _ _ _ _ _ _ us hl => match us, hl with | [_], _ => rfl)) (fun vs H Q E h => ?_) (fun cdv A outer s H vs Q E hr h => ?_)
  · obtain ⟨c, C, rfl, _⟩ := h
    rfl
  · obtain ⟨c, C, rfl, ⟨ws, hw, dx, ay, rr, fr, l, st, hc, B, ok⟩, q⟩ := h
    refine ⟨_, (pss_one (ps_ret (fld T (pv 0)))), ?_⟩
    obtain ⟨ts, e1, e2⟩ := B.fr
    exact ⟨_, rfl, c, _, dx, _, _, rfl, hc, T.cl_CA, T.no_CA_free_days, rfl, q fr ts e1 e2⟩
  )]); intro f; simpa using My.gz f 5 true
theorem pC_holidays {X : Cx} {k : Nat} {e : Expr} {ta : TE} {pos : Pos} (T : Tx K mg) (hr : Room k X.A) (he : PE X e ta) (hk : 2 ≤ k := by decide) (hK : X.K = K := by rfl) (hm : X.mg = mg := by rfl)
    (hab : attributeBase e "holidays" X.env (eval e X.env) = eval e X.env := by rfl) : PE X (.Attribute e "holidays" pos) (tPropR (CA K) (sp_chol K) E0 ta) := by
  subst hK
  subst hm
  exact pe_propR he T.cl_CA T.pr_CA_holidays (okC_holidays T) (hr.mono hk) pass0 hab
end
end Lw
namespace Lw
open PySem PySem.Spec PyProof.Rows L2 My
section
variable {P : Program} {w : World} {K : Fg} {mg : Str → Option Value} {base : Heap}
theorem CalX.ok {H : Hp} {c : Addr} {C : Cal} (h : CalX K H c C) : C.Ok := by
  obtain ⟨_, _, _, _, _, _, _, _, _, _, ok⟩ := h
  exact ok
/-- two digits -/
def d2T (m : Int) : Str := numT (m / 10) ++ numT (m % 10)
/-- the text of a date -/
def dtT (y m d : Int) : Str := Str.empty ++ numT y ++ ("-" : Str) ++ numT (m / 10) ++ numT (m % 10) ++ ("-" : Str) ++ numT (d / 10) ++ numT (d % 10)
theorem tJs_nil {acc : Str} {σ : L2.St} {H : Hp} {Q : Str → Hp → Prop} (h : Q acc H) : tJs [] acc σ H Q := h
theorem nat60d {a : Nat} {k : Nat} (h : a < 10 ^ k) (hk : k ≤ 60) : a < 10 ^ 60 := Nat.lt_of_lt_of_le h (Nat.pow_le_pow_right (by decide) hk)
theorem numT_lenL {n : Int} {k : Nat} (hk : 0 < k) (h : n.natAbs < 10 ^ k) : (numT n).length ≤ k + 1 := by
  apply My.two; (focus intro zzI; simp only [↓ My.mkB zzI (by
  clear zzI
  rcases Int.lt_or_le n 0 with c | c
  · obtain ⟨m, rfl⟩ : ∃ m : Nat, n = -(m : Int) := ⟨n.natAbs, by omega⟩
    have e := neg_tl (m := m) (by omega)
    have ln := TL.numL_len (n := m) (k := k) hk (by rw [Int.natAbs_neg, Int.natAbs_natCast] at h; exact h)
    rw [len_cps, e, List.length_cons]
    omega
  · obtain ⟨m, rfl⟩ : ∃ m : Nat, n = (m : Int) := ⟨n.natAbs, by omega⟩
    have ln := TL.numL_len (n := m) (k := k) hk (by rw [Int.natAbs_natCast] at h; exact h)
    rw [len_cps, num_tl]
    omega
  )]); intro f; simpa using My.gz f 5 true
def sp_itx : Sp := fun vs H Q _ => ∃ n : Int, vs = [.int n] ∧ n.natAbs < 10 ^ 60 ∧ ∀ H' : Hp, Same H H' → Q (.str (numT n)) H'
theorem ok_integer_text (T : Tx K mg) : FnR P w K mg base CX0 1 (He.ga K "integer_text") sp_itx := by
  apply My.two; (focus intro zzI; simp only [↓ My.mkB zzI (by
  clear zzI
  refine (T.fnR 23 (st := s_integer_text) (at_ := fun K => He.ga K "integer_text") rfl sc_integer_text (fun _ _ _ _ _ _ us hl => match us, hl with | [_], _ => rfl)) (fun vs H Q E h => ?_) (fun cdv A outer s H vs Q E hr h => ?_)
  · obtain ⟨n, rfl, _⟩ := h
    rfl
  · obtain ⟨n, rfl, hn, k⟩ := h
    refine ⟨_, (pss_cons (ps_par (i := 1) (j := 2) (by rfl) sc_integer_text.nd rfl rfl (by decide) rfl rfl (pa_cons (pe_callB call_abs (by rfl) T.n_abs (by decide +kernel) (pa_cons (pv 0) pa_nil)) (pa_cons (pe_lst pa_nil) pa_nil)) (by rfl))
 (pss_cons (ps_while PassesOwn.never (pt_cmpR op_ge (pv 1) (pe_glob (v := .int 1000000000000000000) rfl (T.g_BLOCK).choose_spec ⟨_, rfl⟩) (nomark _))
 (pss_cons (ps_expr (bmk T PySem.F.plainAttrs_list PySem.F.slot_list_append PySem.F.type_list_append mt_append (pv 2) (pa_cons (pe_joined1 (pe_fmt18 (pe_op op_mod (pv 1) (pe_glob (v := .int 1000000000000000000) rfl (T.g_BLOCK).choose_spec ⟨_, rfl⟩)))) pa_nil)))
 (pss_one (ps_set (i := 1) sc_integer_text.nd rfl (Or.inl rfl) (pe_op op_fdivW (pv 1) (pe_glob (v := .int 1000000000000000000) rfl (T.g_BLOCK).choose_spec ⟨_, rfl⟩))))))
 (pss_one (ps_ret (pe_op op_add_str (pe_op op_add_str (pe_ifExp (pt_cmpR op_lt (pv 0) pe_int (nomark _)) pe_str pe_str) (pe_callTy call_str_int (by rfl) T.n_str (by decide +kernel) (pa_cons (pv 1) pa_nil))) (pe_joinK T pe_str (revl T (pv 2)))))))), ?_⟩
    rfl'
    rename_i D nD H1 s1 f1
    have ea : (if n < 0 then -n else n) = (n.natAbs : Int) := by split <;> omega
    rw [ea]
    refine ⟨fun m σ H' => ∃ (left : Nat) (fs : List Str), σ = [some (.int n), some (.int (left : Int)), some (.ref D)] ∧ Same H H' ∧ H' D = some (.lst (fs.map V.str)) ∧ BlkI n.natAbs left fs ∧ m = left, ⟨_, n.natAbs, [], ?_, s1, f1, BlkI.start hn, rfl⟩, ?_⟩
    · rfl
    · rintro m σ H2 ⟨left, fs, rfl, s2, e2, b, rfl⟩
      rfl'
      have bl := b.2.1
      have li : (fs.map V.str).length < sizeLine := by
        rw [List.length_map, sizeLine_eq]
        omega
      refine ite2 (fun hc => wh_go ?_) (fun hc => ?_)
      · have hm : 10 ^ 18 ≤ m := by
          have := of_decide_eq_true hc
          omega
        have eb := b.step hm
        have em : (m : Int) % 1000000000000000000 = ((m % 10 ^ 18 : Nat) : Int) := by omega
        have ed : (m : Int) / 1000000000000000000 = ((m / 10 ^ 18 : Nat) : Int) := by omega
        have q60 : ((m : Int) % 1000000000000000000).natAbs < 10 ^ 60 := nat60d (k := 18) (by omega) (by decide)
        have cd : CDivW (m : Int) 1000000000000000000 := ⟨by decide, by decide +kernel⟩
        have hlt : m / 1000000000000000000 < m := Nat.div_lt_self (by omega) (by decide)
        clear hc hn ea hm
        rfl'
        refine ⟨same_under s2 nD, ?_, eb, rfl⟩
        rw [upd_same, em, List.map_append]
        rfl
      · have hm : m < 10 ^ 18 := by
          by_cases z : (1000000000000000000 : Int) ≤ (m : Int)
          · exact absurd (decide_eq_true z) hc
          · omega
        have lg : (m : Int).natAbs.log2 < 1920 := log10 (B := 60) (by decide) (nat60d (k := 18) (by omega) (by decide))
        have fin := b.fin
        have nl : (Str.ofString (toString (m : Int))).length ≤ 19 := numT_lenL (n := (m : Int)) (k := 18) (by decide) (by omega)
        obtain ⟨ms, hms⟩ : ∃ ms, Str.ofString (toString (m : Int)) = ms := ⟨_, rfl⟩
        rw [show numT (m : Int) = ms from hms] at fin
        clear hn ea
        rfl'
        by_cases hn0 : n < 0
        case' pos =>
          rw [decide_eq_true hn0]
          rw [if_pos hn0] at fin
          refine iteT ?_
        case' neg =>
          rw [decide_eq_false hn0]
          rw [if_neg hn0] at fin
          refine iteF ?_
        all_goals
          rfl'
          rw [hms] at nl ⊢
          have z19 : 1 + 19 ≤ sizeLine := by rw [sizeLine_eq]; decide
          refine ⟨Nat.le_trans (Nat.add_le_add (show Str.length _ ≤ 1 by decide +kernel) nl) z19, ?_⟩
          refine ⟨⟨_, rfl⟩, ?_⟩
          rfl'
          rename_i rp nrp H3 s3 f3
          rw [← List.map_reverse] at f3
          have lr : (fs.reverse.map (·.length)).sum ≤ fs.reverse.length * 18 := sum_len fun y hy => b.2.2.2 y (List.mem_reverse.mp hy)
          rw [List.length_reverse] at lr
          have ess : (fs.reverse.map (·.length)).sum + fs.reverse.length * ("" : Str).length ≤ 1080 := by
            rw [show ("" : Str).length = 0 by decide +kernel]
            omega
          have jl := Nat.le_trans (join_len ("" : Str) fs.reverse) ess
          have z1100 : 20 + 1080 ≤ sizeLine := by rw [sizeLine_eq]; decide
          refine ⟨.inl (SqL.of f3), Nat.le_trans ess (by decide), ?_⟩
          refine ⟨_, _, rfl, rfl, Nat.le_trans (Nat.add_le_add (show Str.length _ ≤ 20 by rw [strLen_append]; exact Nat.add_le_add (show Str.length _ ≤ 1 by decide +kernel) nl) jl) z1100, ?_⟩
          rw [fin]
          exact k H3 (s2.trans s3)
  )]); intro f; simpa using My.gz f 5 true
theorem c_integer_text {X : Cx} {k : Nat} {t : TA} {e : Expr} {es : List Expr} {np pos : Pos} (T : Tx K mg) (hr : Room k X.A) (ha : PA X (e :: es) t) (hk : 1 ≤ k := by decide) (hK : X.K = K := by rfl) (hm : X.mg = mg := by rfl)
    (hg : Gl X "integer_text" := by rfl) (hse : starEach (e :: es) X.env = (false, eval e X.env) :: starEach es X.env := by rfl) (hpl : (backTo pos (starEach es X.env)).any (·.1) = false := by rfl) :
    PE X (.Call (.Name "integer_text" np) (e :: es) [] pos) (tFn sp_itx E0 t) := by
  subst hK
  subst hm
  exact pe_fR (ok_integer_text T) T.kp_integer_text T.g_integer_text (hr.mono hk) pass0 ha hg (by decide) hse hpl
def sp_dtx (K : Fg) : Sp := fun vs H Q _ => ∃ (t : Addr) (y m d : Int), vs = [.ref t] ∧ SqT K H t [.int y, .int m, .int d] ∧ y.natAbs < 10 ^ 60 ∧ 0 ≤ m ∧ m ≤ 99 ∧ 0 ≤ d ∧ d ≤ 99 ∧ ∀ H' : Hp, Same H H' → Q (.str (dtT y m d)) H'
theorem ok_date_text_of (T : Tx K mg) : FnR P w K mg base CX0 2 (He.ga K "date_text_of") (sp_dtx K) := by
  apply My.two; (focus intro zzI; simp only [↓ My.mkB zzI (by
  clear zzI
  refine (T.fnR 24 (st := s_date_text_of) (at_ := fun K => He.ga K "date_text_of") rfl sc_date_text_of (fun _ _ _ _ _ _ us hl => match us, hl with | [_], _ => rfl)) (fun vs H Q E h => ?_) (fun cdv A outer s H vs Q E hr h => ?_)
  · obtain ⟨t, y, m, d, rfl, _⟩ := h
    rfl
  · obtain ⟨t, y, m, d, rfl, ht, hy, m0, m1, d0, d1, k⟩ := h
    refine ⟨_, (pss_cons (ps_asg (pv 0) (pgt T (n := 3) rfl (pgs_cons (pg_name (i := 1) sc_date_text_of.nd rfl (Or.inl rfl)) (pgs_cons (pg_name (i := 2) sc_date_text_of.nd rfl (Or.inl rfl)) (pgs_cons (pg_name (i := 3) sc_date_text_of.nd rfl (Or.inl rfl)) pgs_nil)))))
 (pss_one (ps_ret (pe_joined (.cons (pe_fmt (c_integer_text T hr (pa_cons (pv 1) pa_nil))) (.cons pe_str (.cons (pe_fmt (pe_op op_fdiv (pv 2) pe_int)) (.cons (pe_fmt (pe_op op_mod (pv 2) pe_int)) (.cons pe_str (.cons (pe_fmt (pe_op op_fdiv (pv 3) pe_int)) (.cons (pe_fmt (pe_op op_mod (pv 3) pe_int)) .nil))))))))))), ?_⟩
    have yl := numT_lenL (by decide) hy
    have sl : ∀ {x : Str}, x.length ≤ 200 → x.length ≤ sizeLine := fun h => by
      rw [sizeLine_eq]
      omega
    have nd : ∀ i : Int, 0 ≤ i → i ≤ 9 → (numT i).length ≤ 2 := fun i h0 h1 => numT_lenL (k := 1) (by decide) (by omega)
    have lg : ∀ i : Int, 0 ≤ i → i ≤ 9 → i.natAbs.log2 < 1920 := fun i h0 h1 => log10 (B := 1) (by decide) (by omega)
    have b1 : (Str.empty ++ numT y).length ≤ 61 := by
      rw [strLen_append]
      exact Nat.le_trans (Nat.add_le_add (show Str.empty.length ≤ 0 by decide) yl) (by decide)
    have b2 : (Str.empty ++ numT y ++ ("-" : Str)).length ≤ 62 := by
      rw [strLen_append]
      exact Nat.le_trans (Nat.add_le_add b1 (show ("-" : Str).length ≤ 1 by decide +kernel)) (by decide)
    have b3 : (Str.empty ++ numT y ++ ("-" : Str) ++ numT (m / 10)).length ≤ 64 := by
      rw [strLen_append]
      exact Nat.le_trans (Nat.add_le_add b2 (nd _ (by omega) (by omega))) (by decide)
    have b4 : (Str.empty ++ numT y ++ ("-" : Str) ++ numT (m / 10) ++ numT (m % 10)).length ≤ 66 := by
      rw [strLen_append]
      exact Nat.le_trans (Nat.add_le_add b3 (nd _ (by omega) (by omega))) (by decide)
    have b5 : (Str.empty ++ numT y ++ ("-" : Str) ++ numT (m / 10) ++ numT (m % 10) ++ ("-" : Str)).length ≤ 67 := by
      rw [strLen_append]
      exact Nat.le_trans (Nat.add_le_add b4 (show ("-" : Str).length ≤ 1 by decide +kernel)) (by decide)
    have b6 : (Str.empty ++ numT y ++ ("-" : Str) ++ numT (m / 10) ++ numT (m % 10) ++ ("-" : Str) ++ numT (d / 10)).length ≤ 69 := by
      rw [strLen_append]
      exact Nat.le_trans (Nat.add_le_add b5 (nd _ (by omega) (by omega))) (by decide)
    have b7 : (Str.empty ++ numT y ++ ("-" : Str) ++ numT (m / 10) ++ numT (m % 10) ++ ("-" : Str) ++ numT (d / 10) ++ numT (d % 10)).length ≤ 71 := by
      rw [strLen_append]
      exact Nat.le_trans (Nat.add_le_add b6 (nd _ (by omega) (by omega))) (by decide)
    rfl'
    rename_i H1 s1
    refine .inl ⟨_, rfl, sl (Nat.le_trans yl (by decide)), _, rfl, sl (Nat.le_trans b1 (by decide)), ?_⟩
    refine ⟨_, rfl, sl (Nat.le_trans b2 (by decide)), ?_⟩
    rfl'
    refine .inr ⟨_, rfl, lg _ (by omega) (by omega), _, rfl, sl (Nat.le_trans b3 (by decide)), ?_⟩
    rfl'
    refine .inr ⟨_, rfl, lg _ (by omega) (by omega), _, rfl, sl (Nat.le_trans b4 (by decide)), ?_⟩
    refine ⟨_, rfl, sl (Nat.le_trans b5 (by decide)), ?_⟩
    rfl'
    refine .inr ⟨_, rfl, lg _ (by omega) (by omega), _, rfl, sl (Nat.le_trans b6 (by decide)), ?_⟩
    rfl'
    refine .inr ⟨_, rfl, lg _ (by omega) (by omega), _, rfl, sl (Nat.le_trans b7 (by decide)), ?_⟩
    refine tJs_nil ?_
    exact k H1 s1
  )]); intro f; simpa using My.gz f 5 true
theorem c_date_text_of {X : Cx} {k : Nat} {t : TA} {e : Expr} {es : List Expr} {np pos : Pos} (T : Tx K mg) (hr : Room k X.A) (ha : PA X (e :: es) t) (hk : 2 ≤ k := by decide) (hK : X.K = K := by rfl) (hm : X.mg = mg := by rfl)
    (hg : Gl X "date_text_of" := by rfl) (hse : starEach (e :: es) X.env = (false, eval e X.env) :: starEach es X.env := by rfl) (hpl : (backTo pos (starEach es X.env)).any (·.1) = false := by rfl) :
    PE X (.Call (.Name "date_text_of" np) (e :: es) [] pos) (tFn (sp_dtx K) E0 t) := by
  subst hK
  subst hm
  exact pe_fR (ok_date_text_of T) T.kp_date_text_of T.g_date_text_of (hr.mono hk) pass0 ha hg (by decide) hse hpl
def sp_two : Sp := fun vs H Q _ => ∃ m : Nat, vs = [.str (d2T (m : Int))] ∧ m ≤ 40 ∧ ∀ H' : Hp, Same H H' → Q (.int (m : Int)) H'
theorem two_facts : ∀ m : Nat, m ≤ 40 → (d2T (m : Int)).length = 2 ∧ (d2T (m : Int)).cps.toList.all (fun c => decide (48 ≤ c) && decide (c ≤ 57)) = true ∧ intText? (d2T (m : Int)) = some (m : Int) := by decide +kernel
theorem ok_two_digits_in (T : Tx K mg) : FnR P w K mg base CX0 1 (He.ga K "two_digits_in") sp_two := by
  apply My.two; (focus intro zzI; simp only [↓ My.mkB zzI (by
  clear zzI
  refine (T.fnR 25 (st := s_two_digits_in) (at_ := fun K => He.ga K "two_digits_in") rfl sc_two_digits_in (fun _ _ _ _ _ _ us hl => match us, hl with | [_], _ => rfl)) (fun vs H Q E h => ?_) (fun cdv A outer s H vs Q E hr h => ?_)
  · obtain ⟨m, rfl, _⟩ := h
    rfl
  · obtain ⟨m, rfl, hm, k⟩ := h
    refine ⟨_, (pss_one (ps_ret (pe_ifExp (PW.pt (pw_and (pt_cmpR op_eq (pe_callB call_len (by rfl) T.n_len (by decide +kernel) (pa_cons (pv 0) pa_nil)) pe_int (nomark _)) (pw_and1 (pt_val (pe_callB (all_k T rfl) (by rfl) T.n_all (by decide +kernel) (pa_cons (pe_lc (own := [("sign", 1)]) rfl sc_two_digits_in.nd (pi_str (pv 0)) (blkOk_by (own := [("sign", 1)]) (N := N_two_digits_in) (sc := defScope s_two_digits_in) (by decide +kernel)) (fun _ _ _ _ _ => (pg_name (i := 1) sc_two_digits_in.nd rfl (Or.inl rfl))) (fun _ _ _ _ _ => pts_nil) (fun _ _ _ _ _ => (pe_cmpR op_in_str (pv 1) (pe_glob (v := .str "0123456789") rfl (T.g_DIGITS).choose_spec ⟨_, rfl⟩) (by rfl)))) pa_nil)))))) (pe_callTy call_int_str (by rfl) T.n_int (by decide +kernel) (pa_cons (pv 0) pa_nil)) pe_int))), ?_⟩
    obtain ⟨f1, f2, f3⟩ := two_facts m hm
    generalize d2T (m : Int) = W at f1 f2 f3 ⊢
    have al : ∀ n : Nat, (List.replicate n true).all id = true := fun n => by simp
    have w2 : (W.length : Int) = 2 := by rw [f1]; rfl
    rfl'
    refine ⟨⟨by rw [f1]; decide, rfl⟩, ?_⟩
    rfl'
    rw [w2]
    rfl'
    intro D hD
    refine walk_w walk_str (fun j H' => Same H H' ∧ H' D = some (.lst (List.replicate j (V.bl true)))) ⟨same_upd hD, upd_same⟩ (fun j H' _ h => trivial) ?_ ?_
    · rintro j x _ H1 hj ⟨s1, e1⟩ ⟨rfl, c, ec, rfl⟩
      have hc := List.all_eq_true.mp f2 c (List.mem_of_getElem? (by rw [Array.getElem?_toList]; exact ec))
      rw [Bool.and_eq_true, decide_eq_true_iff, decide_eq_true_iff] at hc
      have jl : j < 2 := by
        rw [← f1]
        exact hj
      refine ⟨rfl, ?_⟩
      refine yes_t ?_
      rfl'
      rw [dig_in hc.1 hc.2]
      refine ⟨same_under s1 hD, ?_⟩
      rw [upd_same, List.replicate_succ']
    rintro H1 ⟨s1, e1⟩
    rw [← List.map_replicate (f := V.bl) (a := true)] at e1
    have l640 : W.length ≤ 640 := by omega
    rfl'
    rw [al]
    rfl'
    exact k H1 s1
  )]); intro f; simpa using My.gz f 5 true
theorem c_two_digits_in {X : Cx} {k : Nat} {t : TA} {e : Expr} {es : List Expr} {np pos : Pos} (T : Tx K mg) (hr : Room k X.A) (ha : PA X (e :: es) t) (hk : 1 ≤ k := by decide) (hK : X.K = K := by rfl) (hm : X.mg = mg := by rfl)
    (hg : Gl X "two_digits_in" := by rfl) (hse : starEach (e :: es) X.env = (false, eval e X.env) :: starEach es X.env := by rfl) (hpl : (backTo pos (starEach es X.env)).any (·.1) = false := by rfl) :
    PE X (.Call (.Name "two_digits_in" np) (e :: es) [] pos) (tFn sp_two E0 t) := by
  subst hK
  subst hm
  exact pe_fR (ok_two_digits_in T) T.kp_two_digits_in T.g_two_digits_in (hr.mono hk) pass0 ha hg (by decide) hse hpl
def sp_nm (K : Fg) : Sp := fun vs H Q _ => ∃ n : Int, vs = [.str (numT n), .int 36] ∧ n.natAbs < 10 ^ 36 ∧ ∀ H' : Hp, Same H H' → Q (.int n) H'
theorem ok_number_in (T : Tx K mg) : FnR P w K mg base CX0 1 (He.ga K "number_in") (sp_nm K) := by
  apply My.two; (focus intro zzI; simp only [↓ My.mkB zzI (by
  clear zzI
  refine (T.fnR 22 (st := s_number_in) (at_ := fun K => He.ga K "number_in") rfl sc_number_in (fun _ _ _ _ _ _ us hl => match us, hl with | [_, _], _ => rfl)) (fun vs H Q E h => ?_) (fun cdv A outer s H vs Q E hr h => ?_)
  · obtain ⟨i, rfl, _⟩ := h
    rfl
  · obtain ⟨n, rfl, hi, k⟩ := h
    refine ⟨_, (pss_cons (ps_set (i := 2) sc_number_in.nd rfl (Or.inl rfl) (pe_ifExp (pt_cmpR op_eq (pe_slice sl_str (pv 0) po_none (po_some pe_int)) pe_str (nomark _)) (pe_slice sl_str (pv 0) (po_some pe_int) po_none) (pv 0)))
 (pss_cons (ps_if (PW.pt (pw_or (pt_not (pt_chain op_le op_le pe_int (pe_callB call_len (by rfl) T.n_len (by decide +kernel) (pa_cons (pv 2) pa_nil)) (pv 1))) (pw_or1 (pt_not (pt_val (pe_callB (all_k T rfl) (by rfl) T.n_all (by decide +kernel) (pa_cons (pe_lc (own := [("sign", 3)]) rfl sc_number_in.nd (pi_str (pv 2)) (blkOk_by (own := [("sign", 3)]) (N := N_number_in) (sc := defScope s_number_in) (by decide +kernel)) (fun _ _ _ _ _ => (pg_name (i := 3) sc_number_in.nd rfl (Or.inl rfl))) (fun _ _ _ _ _ => pts_nil) (fun _ _ _ _ _ => (pe_cmpR op_in_str (pv 3) (pe_glob (v := .str "0123456789") rfl (T.g_DIGITS).choose_spec ⟨_, rfl⟩) (by rfl)))) pa_nil)))))))
 (pss_one (ps_ret pe_non))
 pss_nil)
 (pss_one (ps_ret (pe_ifExp (PW.pt (pw_or (pt_cmpR op_eq (pv 0) pe_str (nomark _)) (pw_or1 (pt_cmpR op_ne (pe_ix ix_str (pv 2) pe_int (fun _ _ => rfl)) pe_str (nomark _))))) (pe_callTy call_int_str (by rfl) T.n_int (by decide +kernel) (pa_cons (pv 0) pa_nil)) pe_non))))), ?_⟩
    have al : ∀ n : Nat, (List.replicate n true).all id = true := fun n => by simp
    by_cases hn : n < 0
    case' pos =>
      obtain ⟨m, rfl⟩ : ∃ m : Nat, n = -(m : Int) := ⟨n.natAbs, by omega⟩
      have nn := num_m m (by omega) (by omega)
      obtain ⟨c0, cs, nw⟩ := num_e m (by omega)
      have hit := nn.it
      have hwl := nn.l
      have hz : numT (-(m : Int)) = "0" ∨ (⟨#[c0]⟩ : Str) ≠ "0" := .inr (nw.fz.resolve_left fun z => by
        have it := nw.it
        rw [z, show intText? "0" = some 0 by decide +kernel] at it
        have := Option.some.inj it
        omega)
      have mi := nn.mi
      have re := nn.re
      clear nn
      generalize numT (-(m : Int)) = W at hit hwl hz mi re k ⊢
      rw [← re] at nw
      clear re
      rfl'
      rw [str_yes mi]
      refine iteT ?_
      have l1 : (1 : Int) ≤ ((cutS W (some 1) none).length : Int) := by
        have := nw.l
        omega
      have l36 : ((cutS W (some 1) none).length : Int) ≤ 36 := by
        have := nw.l
        have := nw.l2
        omega
    case' neg =>
      obtain ⟨m, rfl⟩ : ∃ m : Nat, n = (m : Int) := ⟨n.natAbs, by omega⟩
      obtain ⟨c0, cs, nw⟩ := num_e m (by omega)
      have hit := nw.it
      have hwl : (numT (m : Int)).length ≤ 37 := by
        have := nw.l
        have := nw.l2
        omega
      have hz := nw.fz
      have mi := nw.mi
      generalize numT (m : Int) = W at hit hwl hz mi nw k ⊢
      rfl'
      rw [str_no mi]
      refine iteF ?_
      have l1 : (1 : Int) ≤ (W.length : Int) := by
        have := nw.l
        omega
      have l36 : (W.length : Int) ≤ 36 := by
        have := nw.l
        have := nw.l2
        omega
    all_goals
      have wl1 := nw.l
      have wl2 := nw.l2
      rfl'
      refine ⟨⟨Nat.le_trans (show _ ≤ 36 by omega) (by decide), rfl⟩, ?_⟩
      rfl'
      rw [if_pos (decide_eq_true l1)]
      rfl'
      rw [decide_eq_true l36]
      rfl'
      intro D hD
      refine walk_w walk_str (fun j H' => Same H H' ∧ H' D = some (.lst (List.replicate j (V.bl true)))) ⟨same_upd hD, upd_same⟩ (fun j H' _ h => trivial) ?_ ?_
      · rintro j x _ H1 hj ⟨s1, e1⟩ ⟨rfl, c, ec, rfl⟩
        refine ⟨rfl, ?_⟩
        refine yes_t ?_
        rfl'
        have cm : c ∈ c0 :: cs := by
          rw [← nw.e]
          exact List.mem_of_getElem? (by rw [Array.getElem?_toList]; exact ec)
        rw [(nw.dg c cm).2.2]
        have jl : j < cs.length + 1 := by
          rw [← wl1]
          exact hj
        refine ⟨by rw [List.length_replicate, sizeLine_eq]; omega, same_under s1 hD, ?_⟩
        rw [upd_same, List.replicate_succ']
      rintro H1 ⟨s1, e1⟩
      rw [← List.map_replicate (f := V.bl) (a := true)] at e1
      rfl'
      rw [al]
      rfl'
      have fin := k _ s1
      by_cases hz0 : W = "0"
      · rw [str_yes hz0]
        rfl'
        exact fin
      have n0 := hz.resolve_left hz0
      rw [str_no hz0]
      rfl'
      refine ⟨by rw [nw.e]; exact atI_nat (j := 0) rfl, ?_⟩
      refine ⟨rfl, _, rfl, ?_⟩
      dsimp only
      rw [str_no n0]
      rfl'
      exact fin
  )]); intro f; simpa using My.gz f 5 true
theorem c_number_in {X : Cx} {k : Nat} {t : TA} {e : Expr} {es : List Expr} {np pos : Pos} (T : Tx K mg) (hr : Room k X.A) (ha : PA X (e :: es) t) (hk : 1 ≤ k := by decide) (hK : X.K = K := by rfl) (hm : X.mg = mg := by rfl)
    (hg : Gl X "number_in" := by rfl) (hse : starEach (e :: es) X.env = (false, eval e X.env) :: starEach es X.env := by rfl) (hpl : (backTo pos (starEach es X.env)).any (·.1) = false := by rfl) :
    PE X (.Call (.Name "number_in" np) (e :: es) [] pos) (tFn (sp_nm K) E0 t) := by
  subst hK
  subst hm
  exact pe_fR (ok_number_in T) T.kp_number_in T.g_number_in (hr.mono hk) pass0 ha hg (by decide) hse hpl
theorem numT_ne (y : Int) : 1 ≤ (numT y).cps.toList.length := by
  apply My.two; (focus intro zzI; simp only [↓ My.mkB zzI (by
  clear zzI
  rcases Int.lt_or_le y 0 with c | c
  · obtain ⟨m, rfl⟩ : ∃ m : Nat, y = -(m : Int) := ⟨y.natAbs, by omega⟩
    rw [neg_tl (m := m) (by omega), List.length_cons]
    omega
  · obtain ⟨m, rfl⟩ : ∃ m : Nat, y = (m : Int) := ⟨y.natAbs, by omega⟩
    rw [num_tl]
    exact List.length_pos_iff.mpr (TL.numL_ne m)
  )]); intro f; simpa using My.gz f 5 true
theorem d2_two {m : Nat} (h : m ≤ 40) : ∃ a b, (d2T (m : Int)).cps.toList = [a, b] := by
  apply My.two; (focus intro zzI; simp only [↓ My.mkB zzI (by
  clear zzI
  obtain ⟨l, _, _⟩ := two_facts m h
  rw [len_cps] at l
  match z : (d2T (m : Int)).cps.toList, l with
  | [a, b], _ => exact ⟨a, b, rfl⟩
  )]); intro f; simpa using My.gz f 5 true
theorem dt_list (y : Int) {m d : Nat} {a b c e : Nat} (h1 : (d2T (m : Int)).cps.toList = [a, b]) (h2 : (d2T (d : Int)).cps.toList = [c, e]) : (dtT y m d).cps.toList = (numT y).cps.toList ++ [45, a, b, 45, c, e] := by
  apply My.two; (focus intro zzI; simp only [↓ My.mkB zzI (by
  clear zzI
  have k1 : (numT ((m : Int) / 10)).cps.toList ++ (numT ((m : Int) % 10)).cps.toList = [a, b] := by rw [← h1, ← Array.toList_append]; rfl
  have k2 : (numT ((d : Int) / 10)).cps.toList ++ (numT ((d : Int) % 10)).cps.toList = [c, e] := by rw [← h2, ← Array.toList_append]; rfl
  show (((((((Str.empty.cps ++ (numT y).cps) ++ ("-" : Str).cps) ++ (numT ((m : Int) / 10)).cps) ++ (numT ((m : Int) % 10)).cps) ++ ("-" : Str).cps) ++ (numT ((d : Int) / 10)).cps) ++ (numT ((d : Int) % 10)).cps).toList = _
  rw [minus_eq]
  simp only [Array.toList_append, List.append_assoc]
  rw [k2]
  show [] ++ ((numT y).cps.toList ++ ([45] ++ ((numT ((m : Int) / 10)).cps.toList ++ ((numT ((m : Int) % 10)).cps.toList ++ ([45] ++ [c, e]))))) = _
  rw [← List.append_assoc (numT ((m : Int) / 10)).cps.toList, k1]
  rfl
  )]); intro f; simpa using My.gz f 5 true
theorem dt_cuts {W : Str} {A : List Nat} {a b c e : Nat} (h : W.cps.toList = A ++ [45, a, b, 45, c, e]) : W.length = A.length + 6 ∧ atI W.cps.toList (-3) = some 45 ∧ atI W.cps.toList (-6) = some 45 ∧ (cutS W none (some (-6))).cps.toList = A ∧ (cutS W (some (-5)) (some (-3))).cps.toList = [a, b] ∧ (cutS W (some (-2)) none).cps.toList = [c, e] := by
  apply My.two; (focus intro zzI; simp only [↓ My.mkB zzI (by
  clear zzI
  have l : W.length = A.length + 6 := by rw [len_cps, h, List.length_append]; rfl
  have sn : ∀ (n d k : Nat), 0 < k → HT.sIx n d (some (-(k : Int))) = n - k := fun n d k hk => by
    show (if -(k : Int) < 0 then (-(k : Int) + (n : Int)).toNat else _) = _
    rw [if_pos (by omega)]
    omega
  have cut : ∀ lo hi, (cutS W lo hi).cps.toList = ((A ++ [45, a, b, 45, c, e]).drop (HT.sIx (A.length + 6) 0 lo)).take (HT.sIx (A.length + 6) (A.length + 6) hi - HT.sIx (A.length + 6) 0 lo) := fun lo hi => by
    rw [← h, ← l]
    rfl
  have gt : ∀ (j : Nat) (x : Nat), [45, a, b, 45, c, e][j]? = some x → j < 6 → atI W.cps.toList (-((6 - j : Nat) : Int)) = some x := fun j x hx hj => by
    rw [h]
    have hl : (A ++ [45, a, b, 45, c, e]).length = A.length + 6 := by rw [List.length_append]; rfl
    have e1 : ixN (A ++ [45, a, b, 45, c, e]).length (-((6 - j : Nat) : Int)) = some (A.length + j) := by
      unfold ixN
      rw [hl, if_neg (by omega), if_pos (by omega)]
      exact congrArg some (by omega)
    unfold atI
    rw [e1]
    show (A ++ [45, a, b, 45, c, e])[A.length + j]? = some x
    rw [List.getElem?_append_right (by omega), show A.length + j - A.length = j by omega]
    exact hx
  have dr : ∀ j, (A ++ [45, a, b, 45, c, e]).drop (A.length + j) = [45, a, b, 45, c, e].drop j := fun j => by
    rw [List.drop_append, List.drop_eq_nil_of_le (by omega), show A.length + j - A.length = j by omega]
    rfl
  refine ⟨l, gt 3 45 rfl (by decide), gt 0 45 rfl (by decide), ?_, ?_, ?_⟩
  · rw [cut, show (some (-6) : Option Int) = some (-((6 : Nat) : Int)) from rfl, sn _ _ _ (by decide)]
    show ((A ++ [45, a, b, 45, c, e]).drop 0).take (A.length + 6 - 6 - 0) = A
    rw [List.drop_zero, show A.length + 6 - 6 - 0 = A.length by omega, List.take_left]
  · rw [cut, show (some (-5) : Option Int) = some (-((5 : Nat) : Int)) from rfl, show (some (-3) : Option Int) = some (-((3 : Nat) : Int)) from rfl, sn _ _ _ (by decide), sn _ _ _ (by decide), show A.length + 6 - 5 = A.length + 1 by omega, dr, show A.length + 6 - 3 - (A.length + 1) = 2 by omega]
    rfl
  · rw [cut, show (some (-2) : Option Int) = some (-((2 : Nat) : Int)) from rfl, sn _ _ _ (by decide), show A.length + 6 - 2 = A.length + 4 by omega, dr]
    show [c, e].take (A.length + 6 - (A.length + 4)) = [c, e]
    rw [show A.length + 6 - (A.length + 4) = 2 by omega]
    rfl
  )]); intro f; simpa using My.gz f 5 true
def sp_pin (K : Fg) : Sp := fun vs H Q _ => ∃ (y : Int) (m d : Nat), vs = [.str (dtT y m d)] ∧ y.natAbs < 10 ^ 36 ∧ 1 ≤ m ∧ m ≤ 40 ∧ 1 ≤ d ∧ d ≤ 40 ∧ ∀ (t : Addr) (H' : Hp), Same H H' → H' t = some (.tup [.int y, .int m, .int d]) → Q (.ref t) H'
theorem ok_parts_in (T : Tx K mg) : FnR P w K mg base CX0 2 (He.ga K "parts_in") (sp_pin K) := by
  apply My.two; (focus intro zzI; simp only [↓ My.mkB zzI (by
  clear zzI
  refine (T.fnR 26 (st := s_parts_in) (at_ := fun K => He.ga K "parts_in") rfl sc_parts_in (fun _ _ _ _ _ _ us hl => match us, hl with | [_], _ => rfl)) (fun vs H Q E h => ?_) (fun cdv A outer s H vs Q E hr h => ?_)
  · obtain ⟨y, m, d, rfl, _⟩ := h
    rfl
  · obtain ⟨y, m, d, rfl, hy, m0, m1, d0, d1, k⟩ := h
    refine ⟨_, (pss_cons (ps_if (PW.pt (pw_or (pt_not (pt_val (pe_callB (isi_k T) (by rfl) T.n_isinstance (by decide +kernel) (pa_cons (pv 0) (pa_cons (pe_bltn (v := .ty "str") (u := .type "str") rfl T.n_str (by decide +kernel) rfl) pa_nil))))) (pw_or (pt_cmpR op_lt (pe_callB call_len (by rfl) T.n_len (by decide +kernel) (pa_cons (pv 0) pa_nil)) pe_int (nomark _)) (pw_or (pt_cmpR op_ne (pe_ix ix_str (pv 0) (pe_un un_neg pe_int) (fun _ _ => rfl)) pe_str (nomark _)) (pw_or1 (pt_cmpR op_ne (pe_ix ix_str (pv 0) (pe_un un_neg pe_int) (fun _ _ => rfl)) pe_str (nomark _)))))))
 (pss_one ps_never)
 pss_nil)
 (pss_cons (ps_par3 (i := 1) (j := 2) (l := 3) (by rfl) sc_parts_in.nd rfl rfl rfl (by decide) (by decide) (by decide) rfl rfl rfl (pa_cons (c_number_in T hr (pa_cons (pe_slice sl_str (pv 0) po_none (po_some (pe_un un_neg pe_int))) (pa_cons (pe_glob (v := .int 36) rfl (T.g_MAX_YEAR_DIGITS).choose_spec ⟨_, rfl⟩) pa_nil))) (pa_cons (c_two_digits_in T hr (pa_cons (pe_slice sl_str (pv 0) (po_some (pe_un un_neg pe_int)) (po_some (pe_un un_neg pe_int))) pa_nil)) (pa_cons (c_two_digits_in T hr (pa_cons (pe_slice sl_str (pv 0) (po_some (pe_un un_neg pe_int)) po_none) pa_nil)) pa_nil))) (by rfl))
 (pss_cons (ps_if (PW.pt (pw_or (pt_cmpR op_isN (pv 1) pe_non (nomark _)) (pw_or (pt_cmpR op_eq (pv 2) pe_int (nomark _)) (pw_or1 (pt_cmpR op_eq (pv 3) pe_int (nomark _))))))
 (pss_one ps_never)
 pss_nil)
 (pss_one (ps_ret (pe_tup (pa_cons (pv 1) (pa_cons (pv 2) (pa_cons (pv 3) pa_nil))))))))), ?_⟩
    obtain ⟨a, b, ha⟩ := d2_two m1
    obtain ⟨c, e, hc⟩ := d2_two d1
    have hw := dt_list y ha hc
    obtain ⟨wl, i3, i6, c1, c2, c3⟩ := dt_cuts hw
    replace c1 := str_ext (y := numT y) c1
    replace c2 := str_ext (y := d2T (m : Int)) (c2.trans ha.symm)
    replace c3 := str_ext (y := d2T (d : Int)) (c3.trans hc.symm)
    have nl := numT_lenL (by decide) hy
    have n1 : 1 ≤ (numT y).cps.toList.length := numT_ne y
    generalize dtT y m d = W at hw wl i3 i6 c1 c2 c3 ⊢
    rfl'
    refine ⟨.ty _, .base (.str _), (kit_ty (by decide +kernel) : PySem.W.kitOne K (.type "str") (.type "str") = some true), ?_⟩
    have nl2 : (numT y).cps.toList.length ≤ 37 := by rw [← len_cps]; exact nl
    rfl'
    refine ⟨⟨Nat.le_trans (show W.length ≤ 43 by omega) (by decide), rfl⟩, ?_⟩
    rfl'
    rw [decide_eq_false (show ¬ ((W.length : Int) < 7) by omega)]
    rfl'
    rw [c1]
    refine ⟨y, rfl, hy, fun H1 s1 => ?_⟩
    rfl'
    rw [c2]
    refine ⟨m, rfl, m1, fun H2 s2 => ?_⟩
    rfl'
    rw [c3]
    refine ⟨d, rfl, d1, fun H3 s3 => ?_⟩
    have zn : ∀ n : Nat, 1 ≤ n → decide (V.int (n : Int) = V.int 0) = false := fun n hn => decide_eq_false fun z => by
      have := V.int.inj z
      omega
    rfl'
    rw [zn m m0]
    rfl'
    rw [zn d d0]
    rfl'
    rename_i t nt H4 s4 f4
    exact k t H4 (((s1.trans s2).trans s3).trans s4) f4
  )]); intro f; simpa using My.gz f 5 true
theorem c_parts_in {X : Cx} {k : Nat} {t : TA} {e : Expr} {es : List Expr} {np pos : Pos} (T : Tx K mg) (hr : Room k X.A) (ha : PA X (e :: es) t) (hk : 2 ≤ k := by decide) (hK : X.K = K := by rfl) (hm : X.mg = mg := by rfl)
    (hg : Gl X "parts_in" := by rfl) (hse : starEach (e :: es) X.env = (false, eval e X.env) :: starEach es X.env := by rfl) (hpl : (backTo pos (starEach es X.env)).any (·.1) = false := by rfl) :
    PE X (.Call (.Name "parts_in" np) (e :: es) [] pos) (tFn (sp_pin K) E0 t) := by
  subst hK
  subst hm
  exact pe_fR (ok_parts_in T) T.kp_parts_in T.g_parts_in (hr.mono hk) pass0 ha hg (by decide) hse hpl
def sp_cdtx (K : Fg) : Sp := fun vs H Q _ => ∃ (c : Addr) (C : Cal) (d : Int), vs = [.ref c, .int d] ∧ CalX K H c C ∧ (C.yr d).natAbs < 10 ^ 60 ∧ ∀ H' : Hp, Same H H' → Q (.str (dtT (C.yr d) (C.mth d) (C.day d))) H'
theorem okC_date_text (T : Tx K mg) : FnR P w K mg base CX0 4 (He.ma K (CA K) "date_text") (sp_cdtx K) := by
  apply My.two; (focus intro zzI; simp only [↓ My.mkB zzI (by
  clear zzI
  refine (T.fnR 20 (st := s_Calendar_date_text) (at_ := fun K => He.ma K (He.ga K "Calendar") "date_text") rfl sc_Calendar_date_text (fun _ _ _ _ _ _ us hl => match us, hl with | [_, _], _ => rfl)) (fun vs H Q E h => ?_) (fun cdv A outer s H vs Q E hr h => ?_)
  · obtain ⟨c, C, d, rfl, _⟩ := h
    rfl
  · obtain ⟨c, C, d, rfl, hX, hy, k⟩ := h
    refine ⟨_, (pss_one (ps_ret (c_date_text_of T hr (pa_cons (mC_parts T hr (pv 0) (pa_cons (pv 1) pa_nil)) pa_nil)))), ?_⟩
    obtain ⟨ws, hw, dx, ay, rr, fr, l, st, hc, B, ok⟩ := id hX
    have k1 : (b8 ay rr fr l st C ++ ws).lookup ("parts" : Str) = none := b8_none hw
    have o1 := ok.m1
    obtain ⟨a0, a1⟩ := ok.mth0 d
    obtain ⟨b0, b1⟩ := ok.day0 d
    have lb := ml_le ok.ne ok.top (C.num d)
    rfl'
    rename_i t H1 s1 nt
    intro e1
    exact ⟨t, _, _, _, rfl, SqT.of e1, hy, by omega, by omega, by omega, by omega, fun H2 s2 => k H2 (s1.trans s2)⟩
  )]); intro f; simpa using My.gz f 5 true
theorem mC_date_text {X : Cx} {k : Nat} {o e : Expr} {es : List Expr} {ta : TE} {t : TA} {apos pos : Pos} {pl : Sem Bool} (T : Tx K mg) (hr : Room k X.A) (he : PE X o ta) (ha : PA X (e :: es) t) (hk : 4 ≤ k := by decide) (hK : X.K = K := by rfl) (hm : X.mg = mg := by rfl)
    (hst : starEach (e :: es) X.env = (false, eval e X.env) :: starEach es X.env := by rfl) (hpl : (backTo pos (starEach es X.env)).any (·.1) = false := by rfl)
    (ht : eval (.Call (.Attribute o "date_text" apos) (e :: es) [] pos) X.env = (do
      let ov ← eval o X.env
      standAt apos.atName
      let (f, first) ← holding [ov] (getMethod ov "date_text" pl)
      callWith pos f first (backTo pos (starEach (e :: es) X.env)) (backToKw pos (keywordEach [] X.env))) := by rfl) :
    PE X (.Call (.Attribute o "date_text" apos) (e :: es) [] pos) (tMethR (CA K) "date_text" (sp_cdtx K) E0 ta t) := by
  subst hK
  subst hm
  exact pe_methR he T.cl_CA T.me_CA_date_text (okC_date_text T) (hr.mono hk) pass0 ha hst hpl ht
def sp_crd (K : Fg) : Sp := fun vs H Q _ => ∃ (c : Addr) (C : Cal) (y : Int) (m d : Nat), vs = [.ref c, .str (dtT y m d)] ∧ CalX K H c C ∧ y.natAbs < 10 ^ 36 ∧ 1 ≤ m ∧ (m : Int) ≤ (C.mon : Int) ∧ 1 ≤ d ∧ (d : Int) ≤ ml C.ls (y * (C.mon : Int) + m - 1) ∧ ∀ H' : Hp, Same H H' → Q (.int (ms C.ls (y * (C.mon : Int) + m - 1) + d - 1)) H'
theorem okC_read_date (T : Tx K mg) : FnR P w K mg base CX0 5 (He.ma K (CA K) "read_date") (sp_crd K) := by
  apply My.two; (focus intro zzI; simp only [↓ My.mkB zzI (by
  clear zzI
  refine (T.fnR 21 (st := s_Calendar_read_date) (at_ := fun K => He.ma K (He.ga K "Calendar") "read_date") rfl sc_Calendar_read_date (fun _ _ _ _ _ _ us hl => match us, hl with | [_, _], _ => rfl)) (fun vs H Q E h => ?_) (fun cdv A outer s H vs Q E hr h => ?_)
  · obtain ⟨c, C, y, m, d, rfl, _⟩ := h
    rfl
  · obtain ⟨c, C, y, m, d, rfl, hX, hy, m0, m1, d0, d1, k⟩ := h
    refine ⟨_, (pss_cons (ps_asg (c_parts_in T hr (pa_cons (pv 1) pa_nil)) (pgt T (n := 3) rfl (pgs_cons (pg_name (i := 2) sc_Calendar_read_date.nd rfl (Or.inl rfl)) (pgs_cons (pg_name (i := 3) sc_Calendar_read_date.nd rfl (Or.inl rfl)) (pgs_cons (pg_name (i := 4) sc_Calendar_read_date.nd rfl (Or.inl rfl)) pgs_nil)))))
 (pss_cons (ps_if (PW.pt (pw_or (pt_cmpR op_gt (pv 3) (pC_months T hr (pv 0)) (nomark _)) (pw_or1 (pt_cmpR op_gt (pv 4) (mC_month_length T hr (pv 0) (pa_cons (pv 2) (pa_cons (pv 3) pa_nil))) (nomark _)))))
 (pss_one ps_never)
 pss_nil)
 (pss_one (ps_ret (mC_date_of T hr (pv 0) (pa_cons (pv 2) (pa_cons (pv 3) (pa_cons (pv 4) pa_nil)))))))), ?_⟩
    have lb := ml_le hX.ok.ne hX.ok.top (y * (C.mon : Int) + m - 1)
    have o1 := hX.ok.m1
    refine ⟨_, rfl, y, m, d, rfl, hy, m0, by omega, d0, by omega, fun t H1 s1 e1 => ?_⟩
    have hX1 := hX.same s1
    obtain ⟨ws, hw, dx, ay, rr, fr, l, st, hc, B, ok⟩ := id hX1
    have k1 : (b8 ay rr fr l st C ++ ws).lookup ("months" : Str) = none := b8_none hw
    have k2 : (b8 ay rr fr l st C ++ ws).lookup ("month_length" : Str) = none := b8_none hw
    have k3 : (b8 ay rr fr l st C ++ ws).lookup ("date_of" : Str) = none := b8_none hw
    rfl'
    rw [decide_eq_false (show ¬ ((C.mon : Int) < (m : Int)) by omega)]
    rfl'
    rw [decide_eq_false (show ¬ (ml C.ls (y * (C.mon : Int) + (m : Int) - 1) < (d : Int)) by omega)]
    rfl'
    exact k _ s1
  )]); intro f; simpa using My.gz f 5 true
theorem mC_read_date {X : Cx} {k : Nat} {o e : Expr} {es : List Expr} {ta : TE} {t : TA} {apos pos : Pos} {pl : Sem Bool} (T : Tx K mg) (hr : Room k X.A) (he : PE X o ta) (ha : PA X (e :: es) t) (hk : 5 ≤ k := by decide) (hK : X.K = K := by rfl) (hm : X.mg = mg := by rfl)
    (hst : starEach (e :: es) X.env = (false, eval e X.env) :: starEach es X.env := by rfl) (hpl : (backTo pos (starEach es X.env)).any (·.1) = false := by rfl)
    (ht : eval (.Call (.Attribute o "read_date" apos) (e :: es) [] pos) X.env = (do
      let ov ← eval o X.env
      standAt apos.atName
      let (f, first) ← holding [ov] (getMethod ov "read_date" pl)
      callWith pos f first (backTo pos (starEach (e :: es) X.env)) (backToKw pos (keywordEach [] X.env))) := by rfl) :
    PE X (.Call (.Attribute o "read_date" apos) (e :: es) [] pos) (tMethR (CA K) "read_date" (sp_crd K) E0 ta t) := by
  subst hK
  subst hm
  exact pe_methR he T.cl_CA T.me_CA_read_date (okC_read_date T) (hr.mono hk) pass0 ha hst hpl ht
end
end Lw
namespace Lw
open PySem PySem.Spec PyProof.Rows L2 My
section
variable {P : Program} {w : World} {K : Fg} {mg : Str → Option Value} {base : Heap}
/-- the Gregorian calendar with rest days and holidays -/
def gregR (rs : List Int) (hs : List (Int × Int)) : Cal := ⟨gregL, 7, 5, rs, hs⟩
structure GrOk (rs : List Int) (hs : List (Int × Int)) : Prop where
  r : ∀ x ∈ rs, 0 ≤ x ∧ x < 7
  nd : rs.Nodup
  l : rs.length ≤ 6
  h : hs = [] ∨ ∃ z : Int × Int, hs = [z] ∧ 1 ≤ z.1 ∧ z.1 ≤ 12 ∧ 1 ≤ z.2 ∧ z.2 ≤ 31
theorem gregR_ok {rs : List Int} {hs : List (Int × Int)} (g : GrOk rs hs) : (gregR rs hs).Ok where
  yr := greg_ok.yr
  w0 := by show 0 < 7; decide
  w1 := by show 7 ≤ 10; decide
  f := by show 5 < 7; decide
  rest := fun x hx => g.r x hx
  rnd := g.nd
  rl := by
    have := g.l
    show rs.length < 64
    omega
  hol := fun p hp => by
    show (1 : Int) ≤ p.1 ∧ p.1 ≤ ((gregL.getD 0 []).length : Int) ∧ 1 ≤ p.2 ∧ p.2 ≤ 40
    rw [greg_0]
    rcases g.h with e | ⟨z, e, h1, h2, h3, h4⟩
    · have hp' : p ∈ hs := hp
      rw [e] at hp'
      cases hp'
    · have hp' : p ∈ hs := hp
      rw [e] at hp'
      obtain rfl := List.mem_singleton.mp hp'
      exact ⟨h1, h2, h3, by omega⟩
  hnd := by
    show hs.Nodup
    rcases g.h with e | ⟨z, e, _⟩ <;> rw [e] <;> simp
  hl := by
    show hs.length < 64
    rcases g.h with e | ⟨z, e, _⟩ <;> rw [e] <;> simp
  per := greg_ok.per
theorem gregR_day {rs : List Int} {hs : List (Int × Int)} (g : GrOk rs hs) {d : Int} (d0 : 0 ≤ d) (d1 : d < 31) : (gregR rs hs).mth d = 1 ∧ (gregR rs hs).day d = d + 1 := by
  apply My.two; (focus intro zzI; simp only [↓ My.mkB zzI (by
  clear zzI
  have o := gregR_ok g
  have z : ms (gregR rs hs).ls 0 = 0 := by
    unfold ms
    simp [pre_zero]
  have m1 := ms_succ o.ne 0
  have m31 : ml (gregR rs hs).ls 0 = 31 := by
    unfold ml
    rw [show ((0 : Int) % ((gregR rs hs).ls.length : Int)).toNat = 0 by simp]
    show (((gregL.flatten).getD 0 0 : Nat) : Int) = 31
    have : gregL.flatten.getD 0 0 = 31 := by decide +kernel
    rw [this]
    rfl
  have n0 : (gregR rs hs).num d = 0 := mn_of o.ne o.pos (by omega) (by omega)
  unfold Cal.mth Cal.day
  rw [n0, z]
  exact ⟨by simp, by omega⟩
  )]); intro f; simpa using My.gz f 5 true
theorem gregR_works {rs : List Int} {hs : List (Int × Int)} (g : GrOk rs hs) : (gregR rs hs).works ≠ [] := by
  apply My.two; (focus intro zzI; simp only [↓ My.mkB zzI (by
  clear zzI
  obtain ⟨t, t0, t1, tn⟩ : ∃ t : Int, 0 ≤ t ∧ t < 7 ∧ t ∉ rs := by
    by_cases c : ∀ t ∈ ([0, 1, 2, 3, 4, 5, 6] : List Int), t ∈ rs
    · have := List.Nodup.length_le_of_subset (show ([0, 1, 2, 3, 4, 5, 6] : List Int).Nodup by decide) c
      have l := g.l
      simp at this
      omega
    · obtain ⟨t, c2⟩ := Classical.not_forall.mp c
      obtain ⟨ht, hn⟩ := Classical.not_imp.mp c2
      refine ⟨t, ?_, ?_, hn⟩ <;> · simp at ht; omega
  have key : ∀ d : Nat, d < 31 → ((d : Int) + 5) % 7 = t → (∀ z ∈ hs, z ≠ (1, (d : Int) + 1)) → (gregR rs hs).isW (d : Int) = true := fun d hd hw hz => by
    obtain ⟨e1, e2⟩ := gregR_day g (d := (d : Int)) (by omega) (by omega)
    unfold Cal.isW
    rw [e1, e2]
    have n1 : ¬ ((gregR rs hs).wkd (d : Int) ∈ (gregR rs hs).rest) := fun z => tn (by
      have : (gregR rs hs).wkd (d : Int) = t := hw
      rw [this] at z
      exact z)
    have n2 : ¬ (((1 : Int), (d : Int) + 1) ∈ (gregR rs hs).hol) := fun z => hz _ z rfl
    rw [decide_eq_false n1, decide_eq_false n2]
    rfl
  obtain ⟨d, hd, hw⟩ : ∃ d : Nat, d < 31 ∧ (gregR rs hs).isW (d : Int) = true := by
    have q : ∃ d : Nat, d < 7 ∧ ((d : Int) + 5) % 7 = t := ⟨((t + 2) % 7).toNat, by omega, by omega⟩
    obtain ⟨d, hd, hw⟩ := q
    by_cases c : ∀ z ∈ hs, z ≠ (1, (d : Int) + 1)
    · exact ⟨d, by omega, key d (by omega) hw c⟩
    · refine ⟨d + 7, by omega, key (d + 7) (by omega) (by omega) fun z hz e => c fun y hy e2 => ?_⟩
      rcases g.h with e3 | ⟨z0, e3, _⟩
      · rw [e3] at hz
        cases hz
      · rw [e3] at hz hy
        rw [List.mem_singleton.mp hz] at e
        rw [List.mem_singleton.mp hy, e] at e2
        have := congrArg Prod.snd e2
        simp at this
        omega
  have pp : (gregR rs hs).per = 146097 := greg_per
  have m : d ∈ (gregR rs hs).wrkN 146097 := Cal.mem_wrkN.mpr ⟨by omega, hw⟩
  unfold Cal.works
  rw [pp, if_neg (by decide)]
  intro z
  cases e : (gregR rs hs).wrkN 146097 with
  | nil =>
    rw [e] at m
    cases m
  | cons x xs =>
    rw [e] at z
    cases z
  )]); intro f; simpa using My.gz f 5 true
def sp_gregR (K : Fg) : Sp := fun vs H Q _ => ∃ (r h : Addr) (ts : List Addr) (rs : List Int) (hs : List (Int × Int)), vs = [.ref (CA K), .ref r, .ref h] ∧ SeqK K H r (rs.map V.int) ∧ SeqK K H h (ts.map V.ref) ∧ PrT H ts hs ∧ GrOk rs hs ∧
  ∀ (c : Addr) (rs' : List Int) (hs' : List (Int × Int)) (H' : Hp), Same H H' → H c = none → CalAt K H' c (gregR rs' hs') → rs'.Perm rs → rs'.Pairwise (· ≤ ·) → hs'.Perm hs → Q (.ref c) H'
theorem oka_gregR (T : Tx K mg) : FnA P w K mg base 8 (He5.wf K (CA K) "classmethod" "gregorian") "gregorian" "Calendar.gregorian" s_Calendar_gregorian [] [("cls" : Str), ("rest" : Str), ("holidays" : Str)] (sp_gregR K) := by
  apply My.two; (focus intro zzI; simp only [↓ My.mkB zzI (by
  clear zzI
  refine (T.fnA 2 (st := s_Calendar_gregorian) (at_ := fun K => He5.wf K (He.ga K "Calendar") "classmethod" "gregorian") rfl sc_Calendar_gregorian) (fun vs H Q E h => ?_) (fun cdv A outer s H vs Q E hr h => ?_)
  · obtain ⟨r, hh, ts, rs, hs, rfl, _⟩ := h
    rfl
  · obtain ⟨r, hh, ts, rs, hs, rfl, hr5, hh0, hps, g, k⟩ := h
    refine ⟨_, (pss_one (ps_ret (ck_cls_first_rest_holidays T hr (pa_cons (c_gregorian_years T hr pa_nil) (pa_cons pe_int pa_nil)) (pk_cons pe_int (pk_cons (pv 1) (pk_cons (pv 2) pk_nil)))))), ?_⟩
    rfl'
    intro y tsy H1 s1 hy hrw
    rfl'
    intro x dx nx nd ne
    have s0 : Same H1 (upd (upd H1 dx (.own x)) x (.ins (CA K) dx [])) := fun b u e => by
      rw [upd_ne (ne_of_none e nx), upd_ne (ne_of_none e nd)]
      exact e
    refine ⟨x, dx, y, r, hh, tsy, ts, gregR rs hs, rfl, upd_same, .inl (s0 _ _ hy), hrw.same s0, (hr5.same s1).same s0, (hh0.same s1).same s0, (hps.same s1).same s0, gregR_ok g, gregR_works g, fun rs' ps' H' p1 pw1 p2 pw2 ca kx => ⟨rfl, ?_⟩⟩
    exact k x rs' ps' H' (fun b u e => kx b u (s0 b u (s1 b u e)) (ne_of_none (s1 b u e) nx)) (s1.free nx) ca.at_ p1 pw1 p2
  )]); intro f; simpa using My.gz f 5 true
theorem okC_gregR (T : Tx K mg) : FnKw P w K mg base 8 (He5.wf K (CA K) "classmethod" "gregorian") 1 [("rest" : Str), ("holidays" : Str)] [0, 1, 2] (sp_gregR K) :=
  (oka_gregR T).kw0 1 [("rest" : Str), ("holidays" : Str)] [0, 1, 2] rfl fun _ _ _ _ _ _ us ws h1 h2 => match us, ws, h1, h2 with | [_], [_, _], _, _ => rfl
theorem cmk_gregorian_rest_holidays {X : Cx} {k : Nat} {o : Expr} {ta : TE} {tk : TA} {kws : List Keyword} {apos pos : Pos} {pl : Sem Bool} (T : Tx K mg) (hr : Room k X.A) (he : PE X o ta) (hkw : PK X kws tk) (hk : 8 ≤ k := by decide) (hK : X.K = K := by rfl) (hm : X.mg = mg := by rfl)
    (hall : (backToKw pos (keywordEach kws X.env)).all (·.1.isSome) = true := by rfl) (hks : (backToKw pos (keywordEach kws X.env)).filterMap (·.1) = [("rest" : Str), ("holidays" : Str)] := by rfl)
    (hpl : ((backTo pos (starEach [] X.env)).any (·.1) || (backToKw pos (keywordEach kws X.env)).any (·.1.isNone)) = false := by rfl)
    (ht : eval (.Call (.Attribute o "gregorian" apos) [] kws pos) X.env = (do
      let ov ← eval o X.env
      standAt apos.atName
      let (f, first) ← holding [ov] (getMethod ov "gregorian" pl)
      callWith pos f first (backTo pos (starEach [] X.env)) (backToKw pos (keywordEach kws X.env))) := by rfl) :
    PE X (.Call (.Attribute o "gregorian" apos) [] kws pos) (tCMK0 (CA K) 2 [0, 1, 2] (sp_gregR K) E0 ta tk) := by
  subst hK
  subst hm
  exact pe_cmK0 (ks := [("rest" : Str), ("holidays" : Str)]) he T.cr_CA T.cm_CA_gregorian (okC_gregR T) (hr.mono hk) pass0 hkw hall hks hpl ht
end
end Lw
namespace Lw
open PySem PySem.Spec PyProof.Rows L2 My
def penD (l : Addr) (t z : Int) : List (Key × V) := [(.inr "cells", .ref l), (.inr "turn", .int t), (.inr "left", .int z)]
theorem k_ct : ¬ (("cells" : Str) = "turn") := by decide +kernel
theorem k_cl : ¬ (("cells" : Str) = "left") := by decide +kernel
theorem k_tl : ¬ (("turn" : Str) = "left") := by decide +kernel
theorem kk {a b : Str} (h : ¬ a = b) : ¬ ((Sum.inr a : Key) = Sum.inr b) := fun e => h (Sum.inr.inj e)
section
variable {l : Addr} {t z t' z' : Int} {H : Hp} {p : Addr}
theorem pen_cells : valV (penD l t z) (.inr "cells") = some (.ref l) := valV_pos rfl
theorem pen_turn : valV (penD l t z) (.inr "turn") = some (.int t) := (valV_neg (kk k_ct)).trans (valV_pos rfl)
theorem pen_left : valV (penD l t z) (.inr "left") = some (.int z) := (valV_neg (kk k_cl)).trans ((valV_neg (kk k_tl)).trans (valV_pos rfl))
theorem pen_setT : putK (penD l t z) (.inr "turn") (.int t') = penD l t' z := by
  have h1 : ¬ (("left" : Str) = "turn") := fun e => k_tl e.symm
  simp [putK, penD, k_ct, h1]
theorem pen_setL : putK (penD l t z) (.inr "left") (.int z') = penD l t z' := by
  simp [putK, penD, k_cl, k_tl]
theorem dg_cells (h : H p = some (.dK (penD l t z))) : DGet H p (.str "cells") (some (.ref l)) := by
  rw [← pen_cells]
  exact DGet.k (k := .inr "cells") h
theorem dg_turn (h : H p = some (.dK (penD l t z))) : DGet H p (.str "turn") (some (.int t)) := by
  rw [← pen_turn (l := l) (t := t) (z := z)]
  exact DGet.k (k := .inr "turn") h
theorem dg_left (h : H p = some (.dK (penD l t z))) : DGet H p (.str "left") (some (.int z)) := by
  rw [← pen_left (l := l) (t := t) (z := z)]
  exact DGet.k (k := .inr "left") h
theorem dp_turn (h : H p = some (.dK (penD l t z))) : DPut H p (.str "turn") (.int t') (upd H p (.dK (penD l t' z))) := by
  apply My.two; (focus intro zzI; simp only [↓ My.mkB zzI (by
  clear zzI
  have e := DPut.k (k := .inr "turn") (v := .int t') h (by show 3 < sizeLine; decide)
  rw [pen_setT] at e
  exact e
  )]); intro f; simpa using My.gz f 5 true
theorem dp_left (h : H p = some (.dK (penD l t z))) : DPut H p (.str "left") (.int z') (upd H p (.dK (penD l t z'))) := by
  apply My.two; (focus intro zzI; simp only [↓ My.mkB zzI (by
  clear zzI
  have e := DPut.k (k := .inr "left") (v := .int z') h (by show 3 < sizeLine; decide)
  rw [pen_setL] at e
  exact e
  )]); intro f; simpa using My.gz f 5 true
end
/-- a pen at p, its cells at l, that has drawn from at most n cells -/
def PenAt (H : Hp) (p l : Addr) (n : Nat) : Prop := ∃ (cs : List Int) (t z : Int), H p = some (.dK (penD l t z)) ∧ H l = some (.lst (cs.map V.int)) ∧ cs.length ≤ 63 ∧ 0 ≤ t ∧ t ≤ (n : Int) ∧ 0 ≤ z
section
variable {H H' : Hp} {p l q : Addr} {n m : Nat}
theorem PenAt.mono (h : PenAt H p l n) (hm : n ≤ m) : PenAt H p l m := by
  obtain ⟨cs, t, z, h1, h2, h3, h4, h5, h6⟩ := h
  exact ⟨cs, t, z, h1, h2, h3, h4, by omega, h6⟩
theorem PenAt.same (h : PenAt H p l n) (s : Same H H') : PenAt H' p l n := by
  obtain ⟨cs, t, z, h1, h2, h3⟩ := h
  exact ⟨cs, t, z, s _ _ h1, s _ _ h2, h3⟩
theorem PenAt.dict (h : PenAt H p l n) : ∃ kvs, H p = some (.dK kvs) := by
  obtain ⟨cs, t, z, h1, _⟩ := h
  exact ⟨_, h1⟩
theorem PenAt.cells (h : PenAt H p l n) : ∃ xs, H l = some (.lst xs) := by
  obtain ⟨cs, t, z, h1, h2, _⟩ := h
  exact ⟨_, h2⟩
theorem PenAt.ne (h : PenAt H p l n) {o : HO} (hq : H q = some o) (ho : ∀ kvs, o ≠ .dK kvs) : q ≠ p := by
  obtain ⟨kvs, hk⟩ := h.dict
  exact ne_dict hk hq (ho kvs)
theorem PenAt.free (h : PenAt H' p l n) (k : Kx p H H') {a : Addr} (ha : H' a = none) : H a = none := by
  obtain ⟨kvs, hk⟩ := h.dict
  exact k.free (by rw [hk]; intro e; cases e) ha
/-- a new address is none of the pen's -/
theorem PenAt.new (h : PenAt H p l n) {a : Addr} (ha : H a = none) : a ≠ p ∧ a ≠ l := by
  apply My.two; (focus intro zzI; simp only [↓ My.mkB zzI (by
  clear zzI
  obtain ⟨kvs, hk⟩ := h.dict
  obtain ⟨xs, hx⟩ := h.cells
  exact ⟨(ne_of_none hk ha).symm, (ne_of_none hx ha).symm⟩
  )]); intro f; simpa using My.gz f 5 true
/-- another object is written -/
theorem PenAt.set (h : PenAt H p l n) {a : Addr} {o : HO} (h1 : a ≠ p) (h2 : a ≠ l) : PenAt (upd H a o) p l n := by
  obtain ⟨cs, t, z, e1, e2, h3⟩ := h
  exact ⟨cs, t, z, by rw [upd_ne h1.symm]; exact e1, by rw [upd_ne h2.symm]; exact e2, h3⟩
theorem PenAt.keepL (h : PenAt H p l n) (k : Kx p H H') {xs : List V} (hq : H q = some (.lst xs)) : H' q = some (.lst xs) := k _ _ hq (h.ne hq (by intro kvs z; cases z))
theorem PenAt.keepT (h : PenAt H p l n) (k : Kx p H H') {xs : List V} (hq : H q = some (.tup xs)) : H' q = some (.tup xs) := k _ _ hq (h.ne hq (by intro kvs z; cases z))
end
theorem kx_new {p D : Addr} {H H1 : Hp} {o : HO} (k : Kx p H H1) (hD : H D = none) : Kx p H (upd H1 D o) := fun b u e n => by
  rw [upd_ne (ne_of_none e hD)]
  exact k b u e n
def primesL : List Int := [2147483629, 2147483647, 2147483587, 2147483563, 2147483579]
theorem primes_at : ∀ j : Nat, j < 5 → ∃ q : Int, primesL[j]? = some q ∧ 0 < q ∧ q < 2147483648
  | 0, _ => ⟨_, rfl, by decide, by decide⟩
  | 1, _ => ⟨_, rfl, by decide, by decide⟩
  | 2, _ => ⟨_, rfl, by decide, by decide⟩
  | 3, _ => ⟨_, rfl, by decide, by decide⟩
  | 4, _ => ⟨_, rfl, by decide, by decide⟩
  | n + 5, h => absurd h (by omega)
section
variable {P : Program} {w : World} {K : Fg} {mg : Str → Option Value} {base : Heap}
def sp_pen (K : Fg) : Sp := fun vs H Q _ => ∃ (a : Addr) (ns : List Int), vs = [.ref a] ∧ SqL K H a (ns.map V.int) ∧ ∀ (p l : Addr) (H' : Hp), Same H H' → H p = none → PenAt H' p l 0 → Q (.ref p) H'
theorem ok__law_pen (T : Tx K mg) : FnR P w K mg base CX0 1 (He.ga K "_law_pen") (sp_pen K) := by
  apply My.two; (focus intro zzI; simp only [↓ My.mkB zzI (by
  clear zzI
  refine (T.fnR 38 (st := s__law_pen) (at_ := fun K => He.ga K "_law_pen") rfl sc__law_pen (fun _ _ _ _ _ _ us hl => match us, hl with | [_], _ => rfl)) (fun vs H Q E h => ?_) (fun cdv A outer s H vs Q E hr h => ?_)
  · obtain ⟨a, ns, rfl, _⟩ := h
    rfl
  · obtain ⟨a, ns, rfl, hS, k⟩ := h
    refine ⟨_, (pss_one (ps_ret (pe_disp (pps_cons pe_str (pe_callTy (lst_k T) (by rfl) T.n_list (by decide +kernel) (pa_cons (pe_slice (sll T) (pv 0) po_none (po_some pe_int)) pa_nil)) (pps_cons pe_str pe_int (pps_cons pe_str pe_int pps_nil))) (by rfl) (by rfl) (fun z => by cases z) (by decide)))), ?_⟩
    intro p hp
    have s1 := same_upd (o := .dK []) hp
    refine ⟨_, rfl, _, rfl, a, _, rfl, s1.seq hS, fun l hl => ?_⟩
    have s2 := same_upd (o := .lst (cutV (ns.map V.int) none (some 63))) hl
    refine ⟨l, _, rfl, .inl (SqL.of upd_same), fun l2 hl2 => ?_⟩
    have s3 := same_upd (o := .lst (cutV (ns.map V.int) none (some 63))) hl2
    have hp3 := (s2.trans s3) _ _ (upd_same (H := H) (a := p) (o := .dK []))
    have hne : p ≠ l2 := ne_of_none (s2 _ _ (upd_same (H := H) (a := p) (o := .dK []))) hl2
    refine ⟨hp3, penD l2 0 0, rfl, (by show 3 ≤ 15; decide), ?_⟩
    have em : mergeK [] (penD l2 0 0) = penD l2 0 0 := by
      simp [mergeK, penD, putK, k_ct, k_cl, k_tl]
    rw [em]
    refine k p l2 _ ?_ hp ⟨ns.take 63, 0, 0, upd_same, ?_, ?_, by omega, by omega, by omega⟩
    · exact same_under (s1.trans (s2.trans s3)) hp
    · rw [upd_ne hne.symm, upd_same, show (63 : Int) = ((63 : Nat) : Int) from rfl, cut_to, mapInt_take]
    · rw [List.length_take]
      omega
  )]); intro f; simpa using My.gz f 5 true
theorem c__law_pen {X : Cx} {k : Nat} {t : TA} {e : Expr} {es : List Expr} {np pos : Pos} (T : Tx K mg) (hr : Room k X.A) (ha : PA X (e :: es) t) (hk : 1 ≤ k := by decide) (hK : X.K = K := by rfl) (hm : X.mg = mg := by rfl)
    (hg : Gl X "_law_pen" := by rfl) (hse : starEach (e :: es) X.env = (false, eval e X.env) :: starEach es X.env := by rfl) (hpl : (backTo pos (starEach es X.env)).any (·.1) = false := by rfl) :
    PE X (.Call (.Name "_law_pen" np) (e :: es) [] pos) (tFn (sp_pen K) E0 t) := by
  subst hK
  subst hm
  exact pe_fR (ok__law_pen T) T.kp__law_pen T.g__law_pen (hr.mono hk) pass0 ha hg (by decide) hse hpl
def sp_draw : Sp := fun vs H Q _ => ∃ (p l : Addr) (many : Int) (n : Nat), vs = [.ref p, .int many] ∧ PenAt H p l n ∧ n ≤ 1000000000000 ∧ 0 < many ∧ many < 1073741824 ∧
  ∀ (r : Int) (H' : Hp), 0 ≤ r → r < many → PenAt H' p l (n + 1) → Kx p H H' → Q (.int r) H'
theorem ok__law_draw (T : Tx K mg) : FnR P w K mg base CX0 1 (He.ga K "_law_draw") sp_draw := by
  apply My.two; (focus intro zzI; simp only [↓ My.mkB zzI (by
  clear zzI
  refine (T.fnR 39 (st := s__law_draw) (at_ := fun K => He.ga K "_law_draw") rfl sc__law_draw (fun _ _ _ _ _ _ us hl => match us, hl with | [_, _], _ => rfl)) (fun vs H Q E h => ?_) (fun cdv A outer s H vs Q E hr h => ?_)
  · obtain ⟨p, l, many, n, rfl, _⟩ := h
    rfl
  · obtain ⟨p, l, many, n, rfl, ⟨cs, t, z, hp, hl, hc, ht0, htn, hz⟩, hn, hm0, hm1, k⟩ := h
    refine ⟨_, (pss_cons (ps_if (pt_cmpR op_gt (pe_dget (hu_of hr) (pv 0) pe_str (fun _ _ => rfl)) pe_int (nomark _))
 (pss_cons (ps_set (i := 2) sc__law_draw.nd rfl (Or.inl rfl) (pe_op op_mod (pe_dget (hu_of hr) (pv 0) pe_str (fun _ _ => rfl)) (pv 1)))
 (pss_cons (ps_dput (hu_of hr) (pv 0) pe_str (pe_op op_fdiv (pe_dget (hu_of hr) (pv 0) pe_str (fun _ _ => rfl)) (pv 1)) rfl)
 (pss_one (ps_ret (pv 2)))))
 pss_nil)
 (pss_cons (ps_set (i := 3) sc__law_draw.nd rfl (Or.inl rfl) (pe_dget (hu_of hr) (pv 0) pe_str (fun _ _ => rfl)))
 (pss_cons (ps_dput (hu_of hr) (pv 0) pe_str (pe_op op_add (pv 3) pe_int) rfl)
 (pss_cons (ps_set (i := 4) sc__law_draw.nd rfl (Or.inl rfl) (pe_op op_add (pe_op op_mul pe_int (pv 3)) pe_int))
 (pss_mid (ps_if (pt_cmpR (nei T hr.units) (pe_dget (hu_of hr) (pv 0) pe_str (fun _ _ => rfl)) (pe_lst pa_nil) (nomark _))
 (pss_one (ps_set (i := 4) sc__law_draw.nd rfl (Or.inl rfl) (pe_ix (ixl T) (pe_dget (hu_of hr) (pv 0) pe_str (fun _ _ => rfl)) (pe_op op_mod (pv 3) (pe_callB (len_k T) (by rfl) T.n_len (by decide +kernel) (pa_cons (pe_dget (hu_of hr) (pv 0) pe_str (fun _ _ => rfl)) pa_nil))) (fun _ _ => rfl))))
 pss_nil)
 (pss_mid (ps_if (PW.pt (pw_and (pt_cmpR op_lt (pv 3) (pe_callB (len_k T) (by rfl) T.n_len (by decide +kernel) (pa_cons (pe_dget (hu_of hr) (pv 0) pe_str (fun _ _ => rfl)) pa_nil)) (nomark _)) (pw_and1 (pt_cmpR op_ge (pe_callB call_abs (by rfl) T.n_abs (by decide +kernel) (pa_cons (pv 4) pa_nil)) (pe_op op_pow pe_int pe_int) (nomark _)))))
 (pss_cons (ps_dput (hu_of hr) (pv 0) pe_str (pe_op op_fdiv (pe_op op_sub (pe_callB call_abs (by rfl) T.n_abs (by decide +kernel) (pa_cons (pv 4) pa_nil)) (pe_op op_pow pe_int pe_int)) (pv 1)) rfl)
 (pss_one (ps_ret (pe_op op_mod (pe_op op_sub (pe_callB call_abs (by rfl) T.n_abs (by decide +kernel) (pa_cons (pv 4) pa_nil)) (pe_op op_pow pe_int pe_int)) (pv 1)))))
 pss_nil)
 (pss_cons (ps_set (i := 5) sc__law_draw.nd rfl (Or.inl rfl) (pe_lst (pa_cons pe_int (pa_cons pe_int (pa_cons pe_int (pa_cons pe_int (pa_cons pe_int pa_nil)))))))
 (pss_cons (ps_set (i := 6) sc__law_draw.nd rfl (Or.inl rfl) (pe_ix (ixl T) (pv 5) (pe_op op_mod (pv 3) pe_int) (fun _ _ => rfl)))
 (pss_cons (ps_set (i := 7) sc__law_draw.nd rfl (Or.inl rfl) (pe_op op_mod (pe_op op_add (pe_op op_add (pe_op op_add (pe_op op_mul (pe_op op_mod (pv 4) (pv 6)) pe_int) (pe_op op_mul (pe_op op_mul pe_int (pv 3)) (pv 3))) (pe_op op_mul pe_int (pv 3))) pe_int) (pv 6)))
 (pss_cons (ps_set (i := 7) sc__law_draw.nd rfl (Or.inl rfl) (pe_op op_mod (pe_op op_mul (pv 7) (pe_op op_add (pv 7) pe_int)) (pe_ix (ixl T) (pv 5) (pe_op op_mod (pe_op op_add (pv 3) pe_int) pe_int) (fun _ _ => rfl))))
 (pss_one (ps_ret (pe_op op_mod (pe_op op_fdiv (pe_op op_mod (pe_op op_add (pe_op op_add (pe_op op_mul (pv 7) (pv 7)) (pe_op op_mul pe_int (pv 7))) (pv 3)) pe_int) pe_int) (pv 1)))))))))))))), ?_⟩
    have hlp : l ≠ p := ne_dict hp hl (by intro q; cases q)
    refine ⟨_, rfl, p, _, rfl, dg_left hp, _, _, rfl, rfl, _, rfl, ?_⟩
    refine ite2 (fun hc1 => ?_) (fun hc1 => ?_)
    · refine ⟨_, rfl, p, _, rfl, dg_left hp, _, rfl, _, _, rfl, rfl, hm0, ?_⟩
      refine ⟨_, rfl, p, _, rfl, dg_left hp, _, rfl, _, _, rfl, rfl, ⟨hm0, hm1⟩, _, rfl, p, _, rfl, dp_left hp, ?_⟩
      refine ⟨_, rfl, ?_⟩
      refine k _ _ (Int.emod_nonneg _ (by omega)) (Int.emod_lt_of_pos _ hm0) ⟨cs, t, z / many, upd_same, by rw [upd_ne hlp]; exact hl, hc, ht0, by omega, Int.ediv_nonneg hz (by omega)⟩ kx_upd
    · refine ⟨_, rfl, p, _, rfl, dg_turn hp, ?_⟩
      refine ⟨_, rfl, _, _, rfl, rfl, _, rfl, p, _, rfl, dp_turn hp, ?_⟩
      have hp1 : upd H p (.dK (penD l (t + 1) z)) p = some (.dK (penD l (t + 1) z)) := upd_same
      have hl1 : upd H p (.dK (penD l (t + 1) z)) l = some (.lst (cs.map V.int)) := by rw [upd_ne hlp]; exact hl
      have kx1 : Kx p H (upd H p (.dK (penD l (t + 1) z))) := kx_upd
      generalize upd H p (.dK (penD l (t + 1) z)) = H1 at hp1 hl1 kx1
      refine ⟨_, rfl, _, _, rfl, rfl, .inl ⟨by decide, by decide⟩, _, _, rfl, rfl, ?_⟩
      refine ⟨fun σ H2 => ∃ cell : Int, σ = [some (.ref p), some (.int many), none, some (.int t), some (.int cell), none, none, none] ∧ Same H1 H2, ?_, ?_⟩
      · refine ⟨_, rfl, p, _, rfl, dg_cells hp1, by show 0 ≤ sizeLine; decide, fun e he => ?_⟩
        have s2 := same_upd (o := .lst []) he
        refine ⟨l, e, cs, [], rfl, rfl, .inl ⟨SqL.of (s2 _ _ hl1), SqL.of upd_same⟩, _, rfl, ?_⟩
        refine ite2 (fun hne => ?_) (fun hne => ?_)
        · have hcs : 0 < cs.length := by
            cases cs with
            | nil => simp at hne
            | cons c r => simp
          have h0 : 0 ≤ t % (cs.length : Int) := Int.emod_nonneg _ (by omega)
          have hx := off_get hcs t
          refine ⟨_, rfl, p, _, rfl, dg_cells (s2 _ _ hp1), _, rfl, _, rfl, p, _, rfl, dg_cells (s2 _ _ hp1), l, _, rfl, .inl (SqL.of (s2 _ _ hl1)), _, _, rfl, rfl, ?_, l, _, _, V.int (off cs t), rfl, rfl, SqL.of (s2 _ _ hl1), at_of (j := (t % (cs.length : Int)).toNat) ?_ (mapInt_get hx), ?_⟩
          · rw [List.length_map]
            omega
          · rw [List.length_map, Int.toNat_of_nonneg h0]
          · exact ⟨_, rfl, s2⟩
        · exact ⟨_, rfl, s2⟩
      · rintro σ H2 ⟨cell, rfl, s2⟩
        have hp2 := s2 _ _ hp1
        have hl2 := s2 _ _ hl1
        have kx2 := kx1.trans (kx_same s2)
        refine ⟨fun σ H3 => σ = [some (.ref p), some (.int many), none, some (.int t), some (.int cell), none, none, none] ∧ H3 = H2, ?_, ?_⟩
        · refine ⟨_, rfl, _, rfl, p, _, rfl, dg_cells hp2, l, _, rfl, .inl (SqL.of hl2), _, _, rfl, rfl, _, rfl, ?_⟩
          refine ite2 (fun h1 => ?_) (fun h1 => ?_)
          · refine ⟨_, rfl, _, rfl, _, _, rfl, rfl, ⟨by decide, by decide, by decide⟩, _, _, rfl, rfl, _, rfl, ?_⟩
            refine ite2 (fun h2 => ?_) (fun h2 => ?_)
            · have hge : (0 : Int) ≤ (if cell < 0 then -cell else cell) - 10 ^ (18 : Int).toNat := by
                have h3 := of_decide_eq_true h2
                omega
              refine ⟨_, rfl, _, rfl, _, _, rfl, rfl, ⟨by decide, by decide, by decide⟩, _, _, rfl, rfl, _, rfl, _, _, rfl, rfl, ⟨hm0, hm1⟩, _, rfl, p, _, rfl, dp_left hp2, ?_⟩
              have hlp2 : l ≠ p := hlp
              refine ⟨_, rfl, _, rfl, _, _, rfl, rfl, ⟨by decide, by decide, by decide⟩, _, _, rfl, rfl, _, rfl, _, _, rfl, rfl, hm0, ?_⟩
              refine k _ _ (Int.emod_nonneg _ (by omega)) (Int.emod_lt_of_pos _ hm0) ⟨cs, t + 1, _, upd_same, by rw [upd_ne hlp2]; exact hl2, hc, by omega, by omega, Int.ediv_nonneg hge (by omega)⟩ (kx2.trans kx_upd)
            · exact ⟨rfl, rfl⟩
          · exact ⟨rfl, rfl⟩
        · rintro σ H3 ⟨rfl, rfl⟩
          refine ⟨by show 5 ≤ sizeLine; decide, fun pl hpl => ?_⟩
          have s3 := same_upd (o := .lst [V.int 2147483629, V.int 2147483647, V.int 2147483587, V.int 2147483563, V.int 2147483579]) hpl
          have hP : upd H3 pl (.lst [V.int 2147483629, V.int 2147483647, V.int 2147483587, V.int 2147483563, V.int 2147483579]) pl = some (.lst (primesL.map V.int)) := upd_same
          have h5 : 0 ≤ t % 5 := Int.emod_nonneg _ (by decide)
          have h55 : t % 5 < 5 := Int.emod_lt_of_pos _ (by decide)
          have h6 : 0 ≤ (t + 2) % 5 := Int.emod_nonneg _ (by decide)
          have h66 : (t + 2) % 5 < 5 := Int.emod_lt_of_pos _ (by decide)
          obtain ⟨q1, e1, a1, b1⟩ := primes_at (t % 5).toNat (by omega)
          obtain ⟨q2, e2, a2, b2⟩ := primes_at ((t + 2) % 5).toNat (by omega)
          have hp3 := s3 _ _ hp2
          have hl3 := s3 _ _ hl2
          have kx3 := kx2.trans (kx_same s3)
          generalize upd H3 pl (.lst [V.int 2147483629, V.int 2147483647, V.int 2147483587, V.int 2147483563, V.int 2147483579]) = H4 at hP hp3 hl3 kx3
          refine ⟨_, rfl, _, rfl, _, _, rfl, rfl, (by show (0 : Int) < 5; decide), pl, _, _, V.int q1, rfl, rfl, SqL.of hP, at_of (j := (t % 5).toNat) (by rw [Int.toNat_of_nonneg h5]) (mapInt_get e1), ?_⟩
          refine ⟨_, rfl, _, rfl, _, _, rfl, rfl, a1, _, _, rfl, rfl, .inr ⟨by decide, by decide⟩, _, rfl, _, _, rfl, rfl, .inl ⟨by decide, by decide⟩, _, rfl, _, _, rfl, rfl, .inr ⟨by omega, by omega⟩, _, _, rfl, rfl, _, rfl, _, _, rfl, rfl, .inl ⟨by decide, by decide⟩, _, _, rfl, rfl, _, _, rfl, rfl, _, rfl, _, _, rfl, rfl, a1, ?_⟩
          have d0 : 0 ≤ (cell % q1 * 39373 + 30011 * t * t + 8117 * t + 23) % q1 := Int.emod_nonneg _ (by omega)
          have d1 : (cell % q1 * 39373 + 30011 * t * t + 8117 * t + 23) % q1 < q1 := Int.emod_lt_of_pos _ a1
          generalize hd : (cell % q1 * 39373 + 30011 * t * t + 8117 * t + 23) % q1 = dr at d0 d1
          dsimp only
          rw [hd]
          refine ⟨_, rfl, _, rfl, _, _, rfl, rfl, _, _, rfl, rfl, .inl ⟨by omega, by omega⟩, _, rfl, _, rfl, _, _, rfl, rfl, _, _, rfl, rfl, (by show (0 : Int) < 5; decide), pl, _, _, V.int q2, rfl, rfl, SqL.of hP, at_of (j := ((t + 2) % 5).toNat) (by rw [Int.toNat_of_nonneg h6]) (mapInt_get e2), _, _, rfl, rfl, a2, ?_⟩
          have f0 : 0 ≤ dr * (dr + 69621) % q2 := Int.emod_nonneg _ (by omega)
          have f1 : dr * (dr + 69621) % q2 < q2 := Int.emod_lt_of_pos _ a2
          generalize hf : dr * (dr + 69621) % q2 = df at f0 f1
          dsimp only
          rw [hf]
          refine ⟨_, rfl, _, rfl, _, _, rfl, rfl, .inl ⟨by omega, by omega⟩, _, rfl, _, _, rfl, rfl, .inl ⟨by decide, by decide⟩, _, _, rfl, rfl, _, rfl, _, _, rfl, rfl, _, _, rfl, rfl, (by show (0 : Int) < 2147483549; decide), _, _, rfl, rfl, ⟨by decide, by decide⟩, _, rfl, _, _, rfl, rfl, hm0, ?_⟩
          exact k _ _ (Int.emod_nonneg _ (by omega)) (Int.emod_lt_of_pos _ hm0) ⟨cs, t + 1, z, hp3, hl3, hc, by omega, by omega, hz⟩ kx3
  )]); intro f; simpa using My.gz f 5 true
theorem c__law_draw {X : Cx} {k : Nat} {t : TA} {e : Expr} {es : List Expr} {np pos : Pos} (T : Tx K mg) (hr : Room k X.A) (ha : PA X (e :: es) t) (hk : 1 ≤ k := by decide) (hK : X.K = K := by rfl) (hm : X.mg = mg := by rfl)
    (hg : Gl X "_law_draw" := by rfl) (hse : starEach (e :: es) X.env = (false, eval e X.env) :: starEach es X.env := by rfl) (hpl : (backTo pos (starEach es X.env)).any (·.1) = false := by rfl) :
    PE X (.Call (.Name "_law_draw" np) (e :: es) [] pos) (tFn sp_draw E0 t) := by
  subst hK
  subst hm
  exact pe_fR (ok__law_draw T) T.kp__law_draw T.g__law_draw (hr.mono hk) pass0 ha hg (by decide) hse hpl
end
end Lw
namespace Lw
open PySem PySem.Spec PyProof.Rows L2 My
section
variable {P : Program} {w : World} {K : Fg} {mg : Str → Option Value} {base : Heap}
def sp_pick (K : Fg) : Sp := fun vs H Q _ => ∃ (p l a : Addr) (xs : List V) (n : Nat), vs = [.ref p, .ref a] ∧ PenAt H p l n ∧ H a = some (.lst xs) ∧ n ≤ 1000000000000 ∧ 0 < xs.length ∧ xs.length ≤ 1000000 ∧
  ∀ (v : V) (j : Nat) (H' : Hp), xs[j]? = some v → PenAt H' p l (n + 1) → Kx p H H' → Q v H'
theorem ok__law_pick (T : Tx K mg) : FnR P w K mg base CX0 2 (He.ga K "_law_pick") (sp_pick K) := by
  apply My.two; (focus intro zzI; simp only [↓ My.mkB zzI (by
  clear zzI
  refine (T.fnR 40 (st := s__law_pick) (at_ := fun K => He.ga K "_law_pick") rfl sc__law_pick (fun _ _ _ _ _ _ us hl => match us, hl with | [_, _], _ => rfl)) (fun vs H Q E h => ?_) (fun cdv A outer s H vs Q E hr h => ?_)
  · obtain ⟨p, l, a, xs, n, rfl, _⟩ := h
    rfl
  · obtain ⟨p, l, a, xs, n, rfl, hp, ha, hn, h0, h1, k⟩ := h
    refine ⟨_, (pss_one (ps_ret (pe_ix (ixl T) (pv 1) (c__law_draw T hr (pa_cons (pv 0) (pa_cons (pe_callB (len_k T) (by rfl) T.n_len (by decide +kernel) (pa_cons (pv 1) pa_nil)) pa_nil))) (fun _ _ => rfl)))), ?_⟩
    refine ⟨_, rfl, _, rfl, _, rfl, a, _, rfl, .inl (SqL.of ha), p, l, _, n, rfl, hp, hn, by omega, by omega, fun r H1 r0 r1 hp1 k1 => ?_⟩
    have hj : r.toNat < xs.length := by omega
    refine ⟨a, xs, r, xs[r.toNat], rfl, rfl, SqL.of (hp.keepL k1 ha), at_of (j := r.toNat) (by omega) (List.getElem?_eq_getElem hj), ?_⟩
    exact k _ r.toNat H1 (List.getElem?_eq_getElem hj) hp1 k1
  )]); intro f; simpa using My.gz f 5 true
theorem c__law_pick {X : Cx} {k : Nat} {t : TA} {e : Expr} {es : List Expr} {np pos : Pos} (T : Tx K mg) (hr : Room k X.A) (ha : PA X (e :: es) t) (hk : 2 ≤ k := by decide) (hK : X.K = K := by rfl) (hm : X.mg = mg := by rfl)
    (hg : Gl X "_law_pick" := by rfl) (hse : starEach (e :: es) X.env = (false, eval e X.env) :: starEach es X.env := by rfl) (hpl : (backTo pos (starEach es X.env)).any (·.1) = false := by rfl) :
    PE X (.Call (.Name "_law_pick" np) (e :: es) [] pos) (tFn (sp_pick K) E0 t) := by
  subst hK
  subst hm
  exact pe_fR (ok__law_pick T) T.kp__law_pick T.g__law_pick (hr.mono hk) pass0 ha hg (by decide) hse hpl
def sp_great : Sp := fun vs H Q _ => ∃ (p l : Addr) (d n : Nat), vs = [.ref p, .int (d : Int)] ∧ PenAt H p l n ∧ n + d ≤ 1000000000000 ∧ d ≤ 1000000 ∧
  ∀ (r : Int) (H' : Hp), 0 ≤ r → r < 10 ^ d → PenAt H' p l (n + d) → Kx p H H' → Q (.int r) H'
theorem ok__law_great (T : Tx K mg) : FnR P w K mg base CX0 2 (He.ga K "_law_great") sp_great := by
  apply My.two; (focus intro zzI; simp only [↓ My.mkB zzI (by
  clear zzI
  refine (T.fnR 41 (st := s__law_great) (at_ := fun K => He.ga K "_law_great") rfl sc__law_great (fun _ _ _ _ _ _ us hl => match us, hl with | [_, _], _ => rfl)) (fun vs H Q E h => ?_) (fun cdv A outer s H vs Q E hr h => ?_)
  · obtain ⟨p, l, d, n, rfl, _⟩ := h
    rfl
  · obtain ⟨p, l, d, n, rfl, hp, hn, hd, k⟩ := h
    refine ⟨_, (pss_cons (ps_set (i := 2) sc__law_great.nd rfl (Or.inl rfl) pe_int)
 (pss_cons (ps_for PassesOwn.never rfl (pi_range1 rfl T.n_range (pa_cons (pv 1) pa_nil)) (pg_name (i := 3) sc__law_great.nd rfl (Or.inl rfl))
 (pss_one (ps_set (i := 2) sc__law_great.nd rfl (Or.inl rfl) (pe_op op_add (pe_op op_mul pe_int (pv 2)) (c__law_draw T hr (pa_cons (pv 0) (pa_cons pe_int pa_nil)))))))
 (pss_one (ps_ret (pv 2))))), ?_⟩
    refine ⟨_, rfl, _, rfl, by omega, by omega, ?_⟩
    refine for_range (n := (d : Int).toNat) (fun i σ H' => ∃ (r : Int) (v : Option V), σ = [some (.ref p), some (.int (d : Int)), some (.int r), v] ∧ 0 ≤ r ∧ r < 10 ^ i ∧ PenAt H' p l (n + i) ∧ Kx p H H') ⟨0, none, rfl, by omega, by simp, hp, Kx.refl _⟩ ?_ ?_
    · rintro i σ H' hi ⟨r, v, rfl, r0, r1, hp', kx⟩
      refine ⟨_, rfl, _, _, rfl, rfl, .inl ⟨by decide, by decide⟩, _, rfl, p, l, _, n + i, rfl, hp', by omega, by decide, by decide, fun q H2 q0 q1 hp2 k2 => ?_⟩
      refine ⟨_, _, rfl, rfl, ?_⟩
      refine ⟨_, _, rfl, by omega, ?_, hp2, kx.trans k2⟩
      rw [Int.pow_succ]
      omega
    · rintro σ H' ⟨r, v, rfl, r0, r1, hp', kx⟩
      rw [Int.toNat_natCast] at r1 hp'
      exact ⟨_, rfl, k r H' r0 r1 hp' kx⟩
  )]); intro f; simpa using My.gz f 5 true
theorem c__law_great {X : Cx} {k : Nat} {t : TA} {e : Expr} {es : List Expr} {np pos : Pos} (T : Tx K mg) (hr : Room k X.A) (ha : PA X (e :: es) t) (hk : 2 ≤ k := by decide) (hK : X.K = K := by rfl) (hm : X.mg = mg := by rfl)
    (hg : Gl X "_law_great" := by rfl) (hse : starEach (e :: es) X.env = (false, eval e X.env) :: starEach es X.env := by rfl) (hpl : (backTo pos (starEach es X.env)).any (·.1) = false := by rfl) :
    PE X (.Call (.Name "_law_great" np) (e :: es) [] pos) (tFn sp_great E0 t) := by
  subst hK
  subst hm
  exact pe_fR (ok__law_great T) T.kp__law_great T.g__law_great (hr.mono hk) pass0 ha hg (by decide) hse hpl
end
end Lw
namespace Lw
open PySem PySem.Spec PyProof.Rows L2 My
def Stay (p : Addr) (F : Hp → Prop) : Prop := ∀ (H H' : Hp) (l : Addr) (n : Nat), PenAt H p l n → Kx p H H' → F H → F H'
structure Bd (H : Hp) (p l : Addr) (n : Nat) (Fs : List (Hp → Prop)) : Prop where
  pen : PenAt H p l n
  all : ∀ F ∈ Fs, Stay p F ∧ F H
section
variable {H H' : Hp} {p l q a : Addr} {n m : Nat} {Fs Gs : List (Hp → Prop)} {F : Hp → Prop} {K : Fg} {f : Int → Int} {xs : List V}
theorem Bd.start (h : PenAt H p l n) : Bd H p l n [] := ⟨h, fun F h => by cases h⟩
theorem Bd.drawn (b : Bd H p l n Fs) (k : Kx p H H') (hp : PenAt H' p l m) : Bd H' p l m Fs := ⟨hp, fun F h => ⟨(b.all F h).1, (b.all F h).1 H H' l n b.pen k (b.all F h).2⟩⟩
theorem Bd.same (b : Bd H p l n Fs) (s : Same H H') : Bd H' p l n Fs := b.drawn (kx_same s) (b.pen.same s)
theorem Bd.mono (b : Bd H p l n Fs) (h : n ≤ m) : Bd H p l m Fs := ⟨b.pen.mono h, b.all⟩
theorem Bd.add (b : Bd H p l n Fs) (s : Stay p F) (h : F H) : Bd H p l n (F :: Fs) := ⟨b.pen, fun G hG => by
  rcases List.mem_cons.mp hG with rfl | hG
  · exact ⟨s, h⟩
  · exact b.all G hG⟩
theorem Bd.at_ (b : Bd H p l n Fs) (i : Nat) (h : Fs[i]? = some F := by rfl) : F H := (b.all F (List.mem_of_getElem? h)).2
theorem Bd.sub (b : Bd H p l n Fs) (h : ∀ F ∈ Gs, F ∈ Fs) : Bd H p l n Gs := ⟨b.pen, fun F hF => b.all F (h F hF)⟩
theorem Bd.last (b : Bd H p l n (Fs ++ Gs)) : Bd H p l n Gs := b.sub fun F h => List.mem_append_right _ h
theorem Bd.tl (b : Bd H p l n (F :: Fs)) : Bd H p l n Fs := b.sub fun F h => List.mem_cons_of_mem _ h
theorem stay_lst : Stay p (fun H => H a = some (.lst xs)) := fun _ _ _ _ hp k h => hp.keepL k h
theorem stay_tup : Stay p (fun H => H a = some (.tup xs)) := fun _ _ _ _ hp k h => hp.keepT k h
theorem Bd.addL (b : Bd H p l n Fs) (h : H a = some (.lst xs)) : Bd H p l n ((fun H => H a = some (.lst xs)) :: Fs) := b.add stay_lst h
theorem Bd.addT (b : Bd H p l n Fs) (h : H a = some (.tup xs)) : Bd H p l n ((fun H => H a = some (.tup xs)) :: Fs) := b.add stay_tup h
end
def Stil (F : Hp → Prop) : Prop := ∀ H H' : Hp, Same H H' → F H → F H'
def Bs (H : Hp) (Fs : List (Hp → Prop)) : Prop := ∀ F ∈ Fs, Stil F ∧ F H
section
variable {H H' : Hp} {q a : Addr} {Fs Gs : List (Hp → Prop)} {F : Hp → Prop} {K : Fg} {f : Int → Int} {xs : List V}
theorem Bs.same (b : Bs H Fs) (s : Same H H') : Bs H' Fs := fun F h => ⟨(b F h).1, (b F h).1 H H' s (b F h).2⟩
theorem Bs.add (b : Bs H Fs) (s : Stil F) (h : F H) : Bs H (F :: Fs) := fun G hG => by
  rcases List.mem_cons.mp hG with rfl | hG
  · exact ⟨s, h⟩
  · exact b G hG
theorem Bs.at_ (b : Bs H Fs) (i : Nat) (h : Fs[i]? = some F := by rfl) : F H := (b F (List.mem_of_getElem? h)).2
theorem Bs.tl (b : Bs H (F :: Fs)) : Bs H Fs := fun G hG => b G (List.mem_cons_of_mem _ hG)
theorem Bs.addL (b : Bs H Fs) (h : H a = some (.lst xs)) : Bs H ((fun H => H a = some (.lst xs)) :: Fs) := b.add (fun _ _ s h => s _ _ h) h
theorem Bs.addT (b : Bs H Fs) (h : H a = some (.tup xs)) : Bs H ((fun H => H a = some (.tup xs)) :: Fs) := b.add (fun _ _ s h => s _ _ h) h
end
end Lw
namespace Lw
open PySem PySem.Spec PyProof.Rows L2 My
section
variable {H H' H1 : Hp} {p l q a : Addr} {n m : Nat} {Fs : List (Hp → Prop)} {F : Hp → Prop} {K : Fg} {f : Int → Int} {xs : List V} {o : HO}
theorem stay_ins {C dx : Addr} {fs : List (Str × V)} : Stay p (fun H => H a = some (.ins C dx fs)) := fun _ _ _ _ hp k h => k _ _ h (hp.ne h (by intro kvs z; cases z))
theorem map1 {a1 : Int} (h : H a = some (.lst [V.int a1])) : H a = some (.lst ([a1].map V.int)) := h
theorem map2 {a1 a2 : Int} (h : H a = some (.lst [V.int a1, V.int a2])) : H a = some (.lst ([a1, a2].map V.int)) := h
theorem map3 {a1 a2 a3 : Int} (h : H a = some (.lst [V.int a1, V.int a2, V.int a3])) : H a = some (.lst ([a1, a2, a3].map V.int)) := h
theorem map4 {a1 a2 a3 a4 : Int} (h : H a = some (.lst [V.int a1, V.int a2, V.int a3, V.int a4])) : H a = some (.lst ([a1, a2, a3, a4].map V.int)) := h
theorem map5 {a1 a2 a3 a4 a5 : Int} (h : H a = some (.lst [V.int a1, V.int a2, V.int a3, V.int a4, V.int a5])) : H a = some (.lst ([a1, a2, a3, a4, a5].map V.int)) := h
theorem sqNil (h : H a = some (.lst [])) : SqL K H a (([] : List Int).map V.int) := SqL.of h
/-- in a text's hypotheses: the walker keeps of each list that it was new -/
def KeepNone : Prop := True
theorem Bd.ob (i : Nat) (b : Bd H p l n Fs) (h : Fs[i]? = some fun H => H a = some o) : H a = some o := b.at_ (F := fun H => H a = some o) i h
theorem Bd.newL (b : Bd H p l n Fs) (e : upd H a (.lst xs) = H') (h : H a = none) : Bd H' p l n ((fun H => H a = some (.lst xs)) :: Fs) := (b.same (newS e h)).addL (newO e)
theorem Bd.newT (b : Bd H p l n Fs) (e : upd H a (.tup xs) = H') (h : H a = none) : Bd H' p l n ((fun H => H a = some (.tup xs)) :: Fs) := (b.same (newS e h)).addT (newO e)
theorem stay_dct {kvs : List (Key × V)} (ne : a ≠ p) : Stay p (fun H => H a = some (.dK kvs)) := fun _ _ _ _ _ k h => k _ _ h ne
theorem Bd.newD {kvs : List (Key × V)} (b : Bd H p l n Fs) (e : upd H a (.dK kvs) = H') (h : H a = none) : Bd H' p l n ((fun H => H a = some (.dK kvs)) :: Fs) := (b.same (newS e h)).add (stay_dct (b.pen.new h).1) (newO e)
theorem stay_kx {H0 : Hp} : Stay p (fun H => Kx p H0 H) := fun _ _ _ _ _ k h => h.trans k
theorem Bd.begin (h : PenAt H p l n) : Bd H p l n [fun H1 => Kx p H H1] := (Bd.start h).add stay_kx (Kx.refl H)
end
end Lw
end
section
local macro_rules | `(tactic| fail "k") => `(tactic| first | (refine My.Kx.trans (My.kx_same (by assumption)) ?_; fail "k") | fail_if_success skip)
local macro_rules | `(tactic| fail "k") => `(tactic| first | (refine My.Kx.trans (by assumption) ?_; fail "k") | fail_if_success skip)
local macro_rules | `(tactic| fail "k") => `(tactic| first | exact My.Kx.refl _ | fail_if_success skip)
local macro_rules | `(tactic| fail "f") => `(tactic| first | (apply My.Same.use; (focus assumption); fail "f") | fail_if_success skip)
local macro_rules | `(tactic| fail "f") => `(tactic| first | (apply Lw.Bd.ob 9; (focus assumption); exact rfl) | fail_if_success skip)
local macro_rules | `(tactic| fail "f") => `(tactic| first | (apply Lw.Bd.ob 8; (focus assumption); exact rfl) | fail_if_success skip)
local macro_rules | `(tactic| fail "f") => `(tactic| first | (apply Lw.Bd.ob 7; (focus assumption); exact rfl) | fail_if_success skip)
local macro_rules | `(tactic| fail "f") => `(tactic| first | (apply Lw.Bd.ob 6; (focus assumption); exact rfl) | fail_if_success skip)
local macro_rules | `(tactic| fail "f") => `(tactic| first | (apply Lw.Bd.ob 5; (focus assumption); exact rfl) | fail_if_success skip)
local macro_rules | `(tactic| fail "f") => `(tactic| first | (apply Lw.Bd.ob 4; (focus assumption); exact rfl) | fail_if_success skip)
local macro_rules | `(tactic| fail "f") => `(tactic| first | (apply Lw.Bd.ob 3; (focus assumption); exact rfl) | fail_if_success skip)
local macro_rules | `(tactic| fail "f") => `(tactic| first | (apply Lw.Bd.ob 2; (focus assumption); exact rfl) | fail_if_success skip)
local macro_rules | `(tactic| fail "f") => `(tactic| first | (apply Lw.Bd.ob 1; (focus assumption); exact rfl) | fail_if_success skip)
local macro_rules | `(tactic| fail "f") => `(tactic| first | (apply Lw.Bd.ob 0; (focus assumption); exact rfl) | fail_if_success skip)
local macro_rules | `(tactic| fail "f") => `(tactic| first | assumption | fail_if_success skip)
local macro_rules | `(tactic| fail "a") => `(tactic| first | (apply L2.SqL.of; apply Lw.map5; fail "f") | fail_if_success skip)
local macro_rules | `(tactic| fail "a") => `(tactic| first | (apply Lw.map5; fail "f") | fail_if_success skip)
local macro_rules | `(tactic| fail "a") => `(tactic| first | (apply L2.SqL.of; apply Lw.map4; fail "f") | fail_if_success skip)
local macro_rules | `(tactic| fail "a") => `(tactic| first | (apply Lw.map4; fail "f") | fail_if_success skip)
local macro_rules | `(tactic| fail "a") => `(tactic| first | (apply L2.SqL.of; apply Lw.map3; fail "f") | fail_if_success skip)
local macro_rules | `(tactic| fail "a") => `(tactic| first | (apply Lw.map3; fail "f") | fail_if_success skip)
local macro_rules | `(tactic| fail "a") => `(tactic| first | (apply L2.SqL.of; apply Lw.map2; fail "f") | fail_if_success skip)
local macro_rules | `(tactic| fail "a") => `(tactic| first | (apply Lw.map2; fail "f") | fail_if_success skip)
local macro_rules | `(tactic| fail "a") => `(tactic| first | (apply L2.SqL.of; apply Lw.map1; fail "f") | fail_if_success skip)
local macro_rules | `(tactic| fail "a") => `(tactic| first | (apply Lw.map1; fail "f") | fail_if_success skip)
local macro_rules | `(tactic| fail "a") => `(tactic| first | (apply Or.inl; refine ⟨?_, ?_⟩; (focus apply L2.SqL.of; fail "f"); apply Lw.sqNil; fail "f") | fail_if_success skip)
local macro_rules | `(tactic| fail "a") => `(tactic| first | (apply My.szl; first | omega | (simp <;> omega)) | fail_if_success skip)
local macro_rules | `(tactic| fail "a") => `(tactic| first | (apply My.sz; first | omega | (simp <;> omega)) | fail_if_success skip)
local macro_rules | `(tactic| fail "a") => `(tactic| first | (apply My.log10 (B := 60) (by decide); omega) | fail_if_success skip)
local macro_rules | `(tactic| fail "a") => `(tactic| first | (show List.length _ ≤ _; simp; done) | fail_if_success skip)
local macro_rules | `(tactic| fail "a") => `(tactic| first | (show 0 < List.length _; simp; done) | fail_if_success skip)
local macro_rules | `(tactic| fail "a") => `(tactic| first | (apply My.mulL; omega) | fail_if_success skip)
local macro_rules | `(tactic| fail "a") => `(tactic| first | (apply My.mulR; omega) | fail_if_success skip)
local macro_rules | `(tactic| fail "a") => `(tactic| first | exact ⟨by omega, by omega⟩ | fail_if_success skip)
local macro_rules | `(tactic| fail "a") => `(tactic| first | decide | fail_if_success skip)
local macro_rules | `(tactic| fail "a") => `(tactic| first | omega | fail_if_success skip)
local macro_rules | `(tactic| fail "a") => `(tactic| first | (show L2.Same _ _; refine My.Same.via (by assumption) ?_; fail "a") | fail_if_success skip)
local macro_rules | `(tactic| fail "a") => `(tactic| first | exact L2.Same.refl _ | fail_if_success skip)
local macro_rules | `(tactic| fail "a") => `(tactic| first | (apply Or.inl; refine ⟨rfl, ?_⟩; apply Exists.intro; apply L2.SqL.of; fail "f") | fail_if_success skip)
local macro_rules | `(tactic| fail "a") => `(tactic| first | (apply My.at_add; assumption) | fail_if_success skip)
local macro_rules | `(tactic| fail "a") => `(tactic| first | (apply L2.at_of rfl; assumption) | fail_if_success skip)
local macro_rules | `(tactic| fail "a") => `(tactic| first | (apply Or.inr; fail "f") | fail_if_success skip)
local macro_rules | `(tactic| fail "a") => `(tactic| first | (apply Or.inl; fail "f") | fail_if_success skip)
local macro_rules | `(tactic| fail "a") => `(tactic| first | (apply Lw.Bd.pen; assumption) | fail_if_success skip)
local macro_rules | `(tactic| fail "a") => `(tactic| first | (apply Lw.CalAt.same; (focus assumption); fail "a") | fail_if_success skip)
local macro_rules | `(tactic| fail "a") => `(tactic| first | (apply Lw.CalX.same; (focus assumption); fail "a") | fail_if_success skip)
local macro_rules | `(tactic| fail "a") => `(tactic| first | (apply Lw.Tx.no_CA_works; assumption) | fail_if_success skip)
local macro_rules | `(tactic| fail "a") => `(tactic| first | (apply Lw.Tx.no_CA_turn; assumption) | fail_if_success skip)
local macro_rules | `(tactic| fail "a") => `(tactic| first | (apply Lw.Tx.no_CA_starts; assumption) | fail_if_success skip)
local macro_rules | `(tactic| fail "a") => `(tactic| first | (apply Lw.Tx.no_CA_lengths; assumption) | fail_if_success skip)
local macro_rules | `(tactic| fail "a") => `(tactic| first | (apply Lw.Tx.no_CA_free_days; assumption) | fail_if_success skip)
local macro_rules | `(tactic| fail "a") => `(tactic| first | (apply Lw.Tx.no_CA_rests; assumption) | fail_if_success skip)
local macro_rules | `(tactic| fail "a") => `(tactic| first | (apply Lw.Tx.no_CA_begins; assumption) | fail_if_success skip)
local macro_rules | `(tactic| fail "a") => `(tactic| first | (apply Lw.Tx.no_CA_days_of_week; assumption) | fail_if_success skip)
local macro_rules | `(tactic| fail "a") => `(tactic| first | (apply Lw.Tx.no_CA_all_years; assumption) | fail_if_success skip)
local macro_rules | `(tactic| fail "a") => `(tactic| first | (show PySem.W.notFirst _ _ _ = true; apply And.right; apply Lw.Tx.fst_CA; assumption) | fail_if_success skip)
local macro_rules | `(tactic| fail "a") => `(tactic| first | (apply Lw.Tx.cl_CA; assumption) | fail_if_success skip)
local macro_rules | `(tactic| fail "a") => `(tactic| first | (show ∃ xs : List L2.V, L2.SqT _ _ _ xs; apply Exists.intro; apply L2.SqT.of; fail "f") | fail_if_success skip)
local macro_rules | `(tactic| fail "a") => `(tactic| first | (show ∃ xs : List L2.V, L2.SqL _ _ _ xs; apply Exists.intro; apply L2.SqL.of; fail "f") | fail_if_success skip)
local macro_rules | `(tactic| fail "a") => `(tactic| first | (apply Or.inr; apply L2.SqT.of; fail "f") | fail_if_success skip)
local macro_rules | `(tactic| fail "a") => `(tactic| first | (apply Or.inl; apply L2.SqL.of; fail "f") | fail_if_success skip)
local macro_rules | `(tactic| fail "a") => `(tactic| first | (apply L2.SqT.of; fail "f") | fail_if_success skip)
local macro_rules | `(tactic| fail "a") => `(tactic| first | (apply L2.SqL.of; fail "f") | fail_if_success skip)
local macro_rules | `(tactic| fail "a") => `(tactic| first | (show _ = some _; fail "f") | fail_if_success skip)
local macro_rules | `(tactic| fail "a") => `(tactic| first | assumption | fail_if_success skip)
local macro_rules | `(tactic| fail "a") => `(tactic| first | ((with_reducible show (_ : Int) ≤ _); omega) | fail_if_success skip)
local macro_rules | `(tactic| fail "a") => `(tactic| first | ((with_reducible show (_ : Int) < _); omega) | fail_if_success skip)
local macro_rules | `(tactic| fail "a") => `(tactic| first | with_reducible assumption | fail_if_success skip)
local macro_rules | `(tactic| fail "a") => `(tactic| first | exact rfl | fail_if_success skip)
local macro_rules | `(tactic| fail "c") => `(tactic| first | (apply And.intro; (focus fail "a")) | fail_if_success skip)
local macro_rules | `(tactic| fail "c") => `(tactic| first | (apply Exists.intro; fail "c") | fail_if_success skip)
local macro_rules | `(tactic| rfl') => `(tactic| first | skip | fail_if_success skip)
local macro_rules | `(tactic| rfl') => `(tactic| first | ((with_reducible refine L2.iteF ?_); rfl') | fail_if_success skip)
local macro_rules | `(tactic| rfl') => `(tactic| first | ((with_reducible refine L2.iteT ?_); rfl') | fail_if_success skip)
local macro_rules | `(tactic| rfl') => `(tactic| first | (intro H' (s : L2.Same _ _); rfl') | fail_if_success skip)
local macro_rules | `(tactic| rfl') => `(tactic| first | (intro o H' (s : L2.Same _ _) ho; rfl') | fail_if_success skip)
local macro_rules | `(tactic| rfl') => `(tactic| first | (intro o H' s ho; have B := Lw.Bd.same (by assumption) s; clear s; rfl') | fail_if_success skip)
local macro_rules | `(tactic| rfl') => `(tactic| first | (intro t H' s nt e; have B := Lw.Bd.addL (Lw.Bd.same (by assumption) s) e; clear s e nt; rfl') | fail_if_success skip)
local macro_rules | `(tactic| rfl') => `(tactic| first | (intro t H' s nt e; have B := Lw.Bd.addT (Lw.Bd.same (by assumption) s) e; clear s e nt; rfl') | fail_if_success skip)
local macro_rules | `(tactic| rfl') => `(tactic| first | (intro b r H' r0 r1 rb hb e hp hk; have B := Lw.Bd.addL (Lw.Bd.drawn (by assumption) hk hp) e; clear hb e hp hk; rfl') | fail_if_success skip)
local macro_rules | `(tactic| rfl') => `(tactic| first | (intro t H' s e; have B := Lw.Bd.addL (Lw.Bd.same (by assumption) s) e; clear s e; rfl') | fail_if_success skip)
local macro_rules | `(tactic| rfl') => `(tactic| first | (intro t H' s e; have B := Lw.Bd.addT (Lw.Bd.same (by assumption) s) e; clear s e; rfl') | fail_if_success skip)
local macro_rules | `(tactic| rfl') => `(tactic| first | (intro x H' s hx m; have B := Lw.Bd.addM (Lw.Bd.same (by assumption) s) m; clear s hx m; rfl') | fail_if_success skip)
local macro_rules | `(tactic| rfl') => `(tactic| first | (intro H' s; have B := Lw.Bd.same (by assumption) s; clear s; rfl') | fail_if_success skip)
local macro_rules | `(tactic| rfl') => `(tactic| first | (intro v j H' hv hp hk; have B := Lw.Bd.drawn (by assumption) hk hp; clear hp hk) | fail_if_success skip)
local macro_rules | `(tactic| rfl') => `(tactic| first | (intro y H' yb hp hk; have B := Lw.Bd.drawn (by assumption) hk hp; clear hp hk; rfl') | fail_if_success skip)
local macro_rules | `(tactic| rfl') => `(tactic| first | (intro r H' r0 r1 hp hk; have B := Lw.Bd.drawn (by assumption) hk hp; clear hp hk; rfl') | fail_if_success skip)
local macro_rules | `(tactic| rfl') => `(tactic| first | (intro (v : L2.V) (j : Nat) H' hv hp hk; have B := Lw.Bd.drawn (by assumption) hk hp; clear hp hk) | fail_if_success skip)
local macro_rules | `(tactic| rfl') => `(tactic| first | (intro p hp; generalize e : L2.upd _ _ _ = H'; (fail_if_success (refine @Exists.intro (Nat → _) _ ?_ ?_)); (have s := My.newS e hp); (have f := My.newO e); clear e; rfl') | fail_if_success skip)
local macro_rules | `(tactic| rfl') => `(tactic| first | (intro q hq; generalize e : L2.upd _ _ _ = H'; (fail_if_success (refine @Exists.intro (Nat → _) _ ?_ ?_)); have B := Lw.Bd.newD (by assumption) e hq; clear e hq; rfl') | fail_if_success skip)
local macro_rules | `(tactic| rfl') => `(tactic| first | (intro q hq; refine And.intro (show L2.upd _ _ (L2.HO.dK []) _ = some (L2.HO.dK []) from L2.upd_same) ?_) | fail_if_success skip)
local macro_rules | `(tactic| rfl') => `(tactic| first | (intro q hq; generalize e : L2.upd _ _ _ = H'; (fail_if_success (refine @Exists.intro (Nat → _) _ ?_ ?_)); have B := Lw.Bd.newT (by assumption) e hq; clear e hq; rfl') | fail_if_success skip)
local macro_rules | `(tactic| rfl') => `(tactic| first | (intro q hq; generalize e : L2.upd _ _ _ = H'; (fail_if_success (refine @Exists.intro (Nat → _) _ ?_ ?_)); have B := Lw.Bd.newL (by assumption) e hq; clear e hq; rfl') | fail_if_success skip)
local macro_rules | `(tactic| rfl') => `(tactic| first | ((have kn : Lw.KeepNone := by assumption); intro q hq; generalize e : L2.upd _ _ _ = H'; (fail_if_success (refine @Exists.intro (Nat → _) _ ?_ ?_)); have B := Lw.Bd.newL (by assumption) e hq; clear e kn; rfl') | fail_if_success skip)
local macro_rules | `(tactic| rfl') => `(tactic| first | (fail "c"; rfl') | fail_if_success skip)
namespace Lw
open PySem PySem.Spec PyProof.Rows L2 My
section
variable {P : Program} {w : World} {K : Fg} {mg : Str → Option Value} {base : Heap}
theorem greg_ls : gregC.ls.length = 4800 := by
  show gregL.flatten.length = 4800
  rw [flat_len (m := 12) (rows := gregL) fun r hr => by rcases greg_row r hr with rfl | rfl <;> rfl, greg_len]
theorem greg_lsum : gregC.ls.sum = 146097 := greg_sum
theorem greg_mon : gregC.mon = 12 := by
  apply My.two; (focus intro zzI; simp only [↓ My.mkB zzI (by
  clear zzI
  show (gregL.getD 0 []).length = 12
  rw [greg_0]
  rfl
  )]); intro f; simpa using My.gz f 5 true
theorem greg_at {i : Nat} (hi : i < 400) : gregL[i]? = some (if i % 4 = 0 ∧ (i % 100 ≠ 0 ∨ i = 0) then leapL else evenL) := by
  unfold gregL
  rw [List.getElem?_map, List.getElem?_range hi, Option.map_some]
def Lp (y : Int) : Prop := y % 4 = 0 ∧ (y % 100 ≠ 0 ∨ y % 400 = 0)
theorem greg_get {r j : Nat} (hr : r < 400) (hj : j < 12) : gregC.ls.getD (r * 12 + j) 0 = (if r % 4 = 0 ∧ (r % 100 ≠ 0 ∨ r = 0) then leapL else evenL).getD j 0 :=
  flat_at (m := 12) (rows := gregL) (fun r hr => by rcases greg_row r hr with rfl | rfl <;> rfl) (greg_at hr) hj
theorem greg_pre12 {r : Nat} (hr : r < 400) : ∀ j, j ≤ 12 → pre gregC.ls (r * 12 + j) = pre gregC.ls (r * 12) + ((if r % 4 = 0 ∧ (r % 100 ≠ 0 ∨ r = 0) then leapL else evenL).take j).sum
  | 0, _ => rfl
  | j + 1, h => by
    apply My.two; (focus intro zzI; simp only [↓ My.mkB zzI (by
    clear zzI
    have e := greg_get hr (show j < 12 by omega)
    have ih := greg_pre12 hr j (by omega)
    have n := greg_ls
    have s : pre gregC.ls (r * 12 + j + 1) = pre gregC.ls (r * 12 + j) + gregC.ls.getD (r * 12 + j) 0 := pre_succ (by omega)
    have t : ∀ (l : List Nat), l.length = 12 → (l.take (j + 1)).sum = (l.take j).sum + l.getD j 0 := fun l hl => pre_succ (ls := l) (by omega)
    rw [t _ (by split <;> rfl), ← e]
    refine s.trans ?_
    rw [ih, Nat.add_assoc]
    )]); intro f; simpa using My.gz f 5 true
theorem dv4 (r : Int) : (r + 1 + 3) / 4 = (r + 3) / 4 + (if r % 4 = 0 then 1 else 0) := by split <;> omega
theorem dv100 (r : Int) : (r + 1 + 99) / 100 = (r + 99) / 100 + (if r % 100 = 0 then 1 else 0) := by split <;> omega
theorem dv400 (r : Int) : (r + 1 + 399) / 400 = (r + 399) / 400 + (if r % 400 = 0 then 1 else 0) := by split <;> omega
theorem greg_pre : ∀ r : Nat, r ≤ 400 → (pre gregC.ls (r * 12) : Int) = 365 * (r : Int) + (((r : Int) + 3) / 4 - ((r : Int) + 99) / 100 + ((r : Int) + 399) / 400)
  | 0, _ => by
    show (((0 : Nat)) : Int) = _
    decide
  | r + 1, h => by
    apply My.two; (focus intro zzI; simp only [↓ My.mkB zzI (by
    clear zzI
    have ih := greg_pre r (by omega)
    have s := greg_pre12 (show r < 400 by omega) 12 (by omega)
    rw [show (r + 1) * 12 = r * 12 + 12 by omega, s, Int.natCast_add, ih]
    have z : (((if r % 4 = 0 ∧ (r % 100 ≠ 0 ∨ r = 0) then leapL else evenL).take 12).sum : Int) = 365 + ((if (r : Int) % 4 = 0 then 1 else 0) - (if (r : Int) % 100 = 0 then 1 else 0) + (if (r : Int) % 400 = 0 then 1 else 0)) := by
      by_cases c : r % 4 = 0 ∧ (r % 100 ≠ 0 ∨ r = 0)
      · rw [if_pos c, show (leapL.take 12).sum = 366 by decide]
        repeat' split
        all_goals omega
      · rw [if_neg c, show (evenL.take 12).sum = 365 by decide]
        repeat' split
        all_goals omega
    rw [z, Int.natCast_add, show ((1 : Nat) : Int) = 1 from rfl, dv4, dv100, dv400]
    generalize ((r : Int) + 3) / 4 = a1
    generalize ((r : Int) + 99) / 100 = a2
    generalize ((r : Int) + 399) / 400 = a3
    omega
    )]); intro f; simpa using My.gz f 5 true
theorem greg_ms (y : Int) : ms gregC.ls (y * 12) = 365 * y + ((y + 3) / 4 - (y + 99) / 100 + (y + 399) / 400) := by
  apply My.two; (focus intro zzI; simp only [↓ My.mkB zzI (by
  clear zzI
  unfold ms
  rw [greg_ls, greg_lsum]
  have e : (y * 12 % ((4800 : Nat) : Int)).toNat = (y % 400).toNat * 12 := by omega
  rw [e, greg_pre _ (by omega)]
  omega
  )]); intro f; simpa using My.gz f 5 true
def gregD (b : Bool) : List Int := [31, 28 + (if b = true then 1 else 0), 31, 30, 31, 30, 31, 31, 30, 31, 30, 31]
theorem greg_day {y : Int} {i : Nat} {b : Bool} (hi : i < 12) (hb : b = true ↔ Lp y) : ml gregC.ls (y * 12 + (i : Int)) = (gregD b).getD i 0 := by
  apply My.two; (focus intro zzI; simp only [↓ My.mkB zzI (by
  clear zzI
  unfold ml
  rw [greg_ls]
  have e : ((y * 12 + (i : Int)) % ((4800 : Nat) : Int)).toNat = (y % 400).toNat * 12 + i := by omega
  rw [e, greg_get (by omega) hi]
  unfold Lp at hb
  cases b
  · rw [if_neg (fun z => by
      have := hb.mpr ⟨by omega, by omega⟩
      cases this)]
    exact (by decide : ∀ i, i < 12 → ((evenL.getD i 0 : Nat) : Int) = (gregD false).getD i 0) i hi
  · have := hb.mp rfl
    rw [if_pos (by omega)]
    exact (by decide : ∀ i, i < 12 → ((leapL.getD i 0 : Nat) : Int) = (gregD true).getD i 0) i hi
  )]); intro f; simpa using My.gz f 5 true
end
end Lw
namespace Lw
open PySem PySem.Spec PyProof.Rows L2 My
section
variable {P : Program} {w : World} {K : Fg} {mg : Str → Option Value} {base : Heap}
def sp_leap : Sp := fun vs H Q _ => ∃ y : Int, vs = [.int y] ∧ ∀ b : Bool, (b = true ↔ Lp y) → Q (.bl b) H
theorem ok__law_is_leap (T : Tx K mg) : FnR P w K mg base CX0 1 (He.ga K "_law_is_leap") sp_leap := by
  apply My.two; (focus intro zzI; simp only [↓ My.mkB zzI (by
  clear zzI
  refine (T.fnR 42 (st := s__law_is_leap) (at_ := fun K => He.ga K "_law_is_leap") rfl sc__law_is_leap (fun _ _ _ _ _ _ us hl => match us, hl with | [_], _ => rfl)) (fun vs H Q E h => ?_) (fun cdv A outer s H vs Q E hr h => ?_)
  · obtain ⟨y, rfl, _⟩ := h
    rfl
  · obtain ⟨y, rfl, k⟩ := h
    refine ⟨_, (pss_one (ps_ret (pe_and (pe_cmpR op_eq (pe_op op_mod (pv 0) pe_int) pe_int (nomark _)) (pe_one (pe_or (pe_cmpR op_ne (pe_op op_mod (pv 0) pe_int) pe_int (nomark _)) (pe_one (pe_cmpR op_eq (pe_op op_mod (pv 0) pe_int) pe_int (nomark _)))))))), ?_⟩
    unfold Lp at k
    rfl'
    refine ite2 (fun c => ?_) (fun c => ?_)
    · have c1 : y % 4 = 0 := V.int.inj (of_decide_eq_true c)
      rfl'
      refine ite2 (fun d => ?_) (fun d => ?_)
      · have d1 : ¬ (y % 100 = 0) := fun z => by
          rw [decide_eq_true (show (fun i j : Int => V.int (i % j)) y 100 = V.int 0 from congrArg V.int z)] at d
          cases d
        exact k true ⟨fun _ => ⟨c1, .inl d1⟩, fun _ => rfl⟩
      · have d1 : y % 100 = 0 := by
          by_cases z : y % 100 = 0
          · exact z
          · exact absurd (by rw [decide_eq_false fun x => z (V.int.inj x)]; rfl) d
        rfl'
        refine k _ ?_
        rw [decide_eq_true_iff]
        exact ⟨fun z => ⟨c1, .inr (V.int.inj z)⟩, fun z => congrArg V.int (z.2.resolve_left fun n => n d1)⟩
    · have c1 : ¬ (y % 4 = 0) := fun z => c (decide_eq_true (congrArg V.int z))
      exact k false ⟨fun z => (by cases z), fun z => absurd z.1 c1⟩
  )]); intro f; simpa using My.gz f 5 true
theorem c__law_is_leap {X : Cx} {k : Nat} {t : TA} {e : Expr} {es : List Expr} {np pos : Pos} (T : Tx K mg) (hr : Room k X.A) (ha : PA X (e :: es) t) (hk : 1 ≤ k := by decide) (hK : X.K = K := by rfl) (hm : X.mg = mg := by rfl)
    (hg : Gl X "_law_is_leap" := by rfl) (hse : starEach (e :: es) X.env = (false, eval e X.env) :: starEach es X.env := by rfl) (hpl : (backTo pos (starEach es X.env)).any (·.1) = false := by rfl) :
    PE X (.Call (.Name "_law_is_leap" np) (e :: es) [] pos) (tFn sp_leap E0 t) := by
  subst hK
  subst hm
  exact pe_fR (ok__law_is_leap T) T.kp__law_is_leap T.g__law_is_leap (hr.mono hk) pass0 ha hg (by decide) hse hpl
def sp_newy : Sp := fun vs H Q _ => ∃ y : Int, vs = [.int y] ∧ Q (.int (ms gregC.ls (y * 12))) H
theorem ok__law_new_year (T : Tx K mg) : FnR P w K mg base CX0 1 (He.ga K "_law_new_year") sp_newy := by
  apply My.two; (focus intro zzI; simp only [↓ My.mkB zzI (by
  clear zzI
  refine (T.fnR 43 (st := s__law_new_year) (at_ := fun K => He.ga K "_law_new_year") rfl sc__law_new_year (fun _ _ _ _ _ _ us hl => match us, hl with | [_], _ => rfl)) (fun vs H Q E h => ?_) (fun cdv A outer s H vs Q E hr h => ?_)
  · obtain ⟨y, rfl, _⟩ := h
    rfl
  · obtain ⟨y, rfl, k⟩ := h
    refine ⟨_, (pss_one (ps_ret (pe_op op_add (pe_op op_sub (pe_op op_add (pe_op op_mul pe_int (pv 0)) (pe_op op_fdiv (pe_op op_add (pv 0) pe_int) pe_int)) (pe_op op_fdiv (pe_op op_add (pv 0) pe_int) pe_int)) (pe_op op_fdiv (pe_op op_add (pv 0) pe_int) pe_int)))), ?_⟩
    have cm : CMul 365 y := .inl ⟨by decide, by decide⟩
    rw [greg_ms, show 365 * y + ((y + 3) / 4 - (y + 99) / 100 + (y + 399) / 400) = 365 * y + (y + 3) / 4 - (y + 99) / 100 + (y + 399) / 400 by
      generalize (y + 3) / 4 = a1
      generalize (y + 99) / 100 = a2
      generalize (y + 399) / 400 = a3
      omega] at k
    rfl'
    exact k
  )]); intro f; simpa using My.gz f 5 true
theorem c__law_new_year {X : Cx} {k : Nat} {t : TA} {e : Expr} {es : List Expr} {np pos : Pos} (T : Tx K mg) (hr : Room k X.A) (ha : PA X (e :: es) t) (hk : 1 ≤ k := by decide) (hK : X.K = K := by rfl) (hm : X.mg = mg := by rfl)
    (hg : Gl X "_law_new_year" := by rfl) (hse : starEach (e :: es) X.env = (false, eval e X.env) :: starEach es X.env := by rfl) (hpl : (backTo pos (starEach es X.env)).any (·.1) = false := by rfl) :
    PE X (.Call (.Name "_law_new_year" np) (e :: es) [] pos) (tFn sp_newy E0 t) := by
  subst hK
  subst hm
  exact pe_fR (ok__law_new_year T) T.kp__law_new_year T.g__law_new_year (hr.mono hk) pass0 ha hg (by decide) hse hpl
def sp_lyear : Sp := fun vs H Q _ => ∃ (p l : Addr) (n : Nat), vs = [.ref p] ∧ PenAt H p l n ∧ n + 100 ≤ 1000000000000 ∧ ∀ (y : Int) (H' : Hp), y.natAbs < 10 ^ 36 → PenAt H' p l (n + 100) → Kx p H H' → Q (.int y) H'
theorem ok__law_year (T : Tx K mg) : FnR P w K mg base CX0 3 (He.ga K "_law_year") sp_lyear := by
  apply My.two; (focus intro zzI; simp only [↓ My.mkB zzI (by
  clear zzI
  refine (T.fnR 44 (st := s__law_year) (at_ := fun K => He.ga K "_law_year") rfl sc__law_year (fun _ _ _ _ _ _ us hl => match us, hl with | [_], _ => rfl)) (fun vs H Q E h => ?_) (fun cdv A outer s H vs Q E hr h => ?_)
  · obtain ⟨p, l, n, rfl, _⟩ := h
    rfl
  · obtain ⟨p, l, n, rfl, hp, hn, k⟩ := h
    refine ⟨_, (pss_cons (ps_set (i := 1) sc__law_year.nd rfl (Or.inl rfl) (pe_op op_sub (pe_op op_add (pe_op op_mul (c__law_pick T hr (pa_cons (pv 0) (pa_cons (pe_lst (pa_cons pe_int (pa_cons pe_int (pa_cons pe_int pa_nil)))) pa_nil))) (pe_op op_sub (c__law_draw T hr (pa_cons (pv 0) (pa_cons pe_int pa_nil))) pe_int)) (c__law_draw T hr (pa_cons (pv 0) (pa_cons pe_int pa_nil)))) pe_int))
 (pss_one (ps_ret (c__law_pick T hr (pa_cons (pv 0) (pa_cons (pe_lst (pa_cons (pv 1) (pa_cons (pv 1) (pa_cons (pe_op op_add pe_int (c__law_draw T hr (pa_cons (pv 0) (pa_cons pe_int pa_nil)))) (pa_cons (pe_op op_mul (c__law_great T hr (pa_cons (pv 0) (pa_cons pe_int pa_nil))) (c__law_pick T hr (pa_cons (pv 0) (pa_cons (pe_lst (pa_cons pe_int (pa_cons (pe_un un_neg pe_int) pa_nil))) pa_nil)))) pa_nil))))) pa_nil)))))), ?_⟩
    have B := Bd.begin hp
    rfl'
    rename_i q1 H1 B1 v1 j1 H2 hv B2
    obtain ⟨f, rfl, f0, f1⟩ : ∃ f : Int, v1 = .int f ∧ 4 ≤ f ∧ f ≤ 400 := by
      have hm := List.mem_of_getElem? hv
      simp only [List.mem_cons, List.not_mem_nil, or_false] at hm
      rcases hm with rfl | rfl | rfl
      · exact ⟨4, rfl, by decide, by decide⟩
      · exact ⟨100, rfl, by decide, by decide⟩
      · exact ⟨400, rfl, by decide, by decide⟩
    replace B2 := B2.tl
    clear hv B1 B hp
    rfl'
    rename_i r3 H3 a3 b3 B3 r4 H4 a4 b4 B4 r5 H5 a5 b5 B5
    have u1 : f * (r3 - 2000) ≤ f * 2001 := Int.mul_le_mul_of_nonneg_left (by omega) (by omega)
    have u2 : f * (-2000) ≤ f * (r3 - 2000) := Int.mul_le_mul_of_nonneg_left (by omega) (by omega)
    refine ⟨?_, by decide, fun r6 H6 a6 b6 p6 k6 => ?_⟩
    · show n + 1 + 1 + 1 + 1 + 36 ≤ 1000000000000
      omega
    replace b6 : r6 < 10 ^ 36 := b6
    have B6 := (B5.drawn k6 p6).mono (show _ ≤ n + 50 by show n + 1 + 1 + 1 + 1 + 36 ≤ _; omega)
    clear B5 B4 B3 B2 p6 k6
    generalize f * (r3 - 2000) = g at u1 u2 ⊢
    rfl'
    rename_i q7 H7 B7 v7 j7 H8 hv B8
    obtain ⟨t, rfl, ht⟩ : ∃ t : Int, v7 = .int t ∧ (t = 1 ∨ t = -1) := by
      have hm := List.mem_of_getElem? hv
      simp only [List.mem_cons, List.not_mem_nil, or_false] at hm
      rcases hm with rfl | rfl
      · exact ⟨1, rfl, .inl rfl⟩
      · exact ⟨-1, rfl, .inr rfl⟩
    replace B8 := B8.tl
    clear hv B7 B6
    have cm : CMul r6 t := .inr ⟨by omega, by omega⟩
    have bt : (r6 * t).natAbs < 10 ^ 36 := by
      rcases ht with rfl | rfl
      · rw [Int.mul_one]
        omega
      · rw [Int.mul_neg, Int.mul_one]
        omega
    generalize hrt : r6 * t = w6 at bt
    rfl'
    rename_i q9 H9 B9 v9 j9 H10 hv B10
    obtain ⟨y, rfl, hy⟩ : ∃ y : Int, v9 = .int y ∧ y.natAbs < 10 ^ 36 := by
      have hm := List.mem_of_getElem? hv
      simp only [List.mem_cons, List.not_mem_nil, or_false] at hm
      rcases hm with rfl | rfl | rfl | rfl
      · exact ⟨_, rfl, by show (g + r4 - 1).natAbs < 10 ^ 36; omega⟩
      · exact ⟨_, rfl, by show (g + r4 - 1).natAbs < 10 ^ 36; omega⟩
      · exact ⟨_, rfl, by show (1980 + r5).natAbs < 10 ^ 36; omega⟩
      · exact ⟨_, rfl, by show (r6 * t).natAbs < 10 ^ 36; rw [hrt]; exact bt⟩
    exact k y H10 hy (B10.pen.mono (by omega)) (B10.at_ 1)
  )]); intro f; simpa using My.gz f 5 true
theorem c__law_year {X : Cx} {k : Nat} {t : TA} {e : Expr} {es : List Expr} {np pos : Pos} (T : Tx K mg) (hr : Room k X.A) (ha : PA X (e :: es) t) (hk : 3 ≤ k := by decide) (hK : X.K = K := by rfl) (hm : X.mg = mg := by rfl)
    (hg : Gl X "_law_year" := by rfl) (hse : starEach (e :: es) X.env = (false, eval e X.env) :: starEach es X.env := by rfl) (hpl : (backTo pos (starEach es X.env)).any (·.1) = false := by rfl) :
    PE X (.Call (.Name "_law_year" np) (e :: es) [] pos) (tFn sp_lyear E0 t) := by
  subst hK
  subst hm
  exact pe_fR (ok__law_year T) T.kp__law_year T.g__law_year (hr.mono hk) pass0 ha hg (by decide) hse hpl
end
end Lw
namespace Lw
open PySem PySem.Spec PyProof.Rows L2 My
section
variable {P : Program} {w : World} {K : Fg} {mg : Str → Option Value} {base : Heap}
theorem stay_prT {p : Addr} {ts : List Addr} {ps : List (Int × Int)} : Stay p (fun H => PrT H ts ps) := fun _ _ _ _ hp k h => by
  obtain ⟨kvs, hk⟩ := hp.dict
  have U : ∀ {a : Addr} {xs : List V}, _ → _ := fun {a xs} h => k a (.tup xs) h (ne_dict hk h (by intro z; cases z))
  induction h with
  | nil => exact .nil
  | cons h _ ih => exact .cons (U h) ih
theorem stay_sq {p a : Addr} {xs : List V} : Stay p (fun H => SqL K H a xs) := fun _ _ _ _ hp k h => by
  obtain ⟨kvs, e⟩ := hp.dict
  rcases h with (h | ⟨o, h⟩) | h
  · exact .inl (.inl (k _ _ h (ne_dict e h (by intro z; cases z))))
  · exact .inl (.inr ⟨o, k _ _ h (ne_dict e h (by intro z; cases z))⟩)
  · exact .inr h
theorem CalAt.keep {p l : Addr} {n : Nat} {H H' : Hp} {c : Addr} {C : Cal} (hp : PenAt H p l n) (k : Kx p H H') (h : CalAt K H c C) : CalAt K H' c C := by
  apply My.two; (focus intro zzI; simp only [↓ My.mkB zzI (by
  clear zzI
  obtain ⟨kvs, hk⟩ := hp.dict
  have L : ∀ {a : Addr} {xs : List V}, H a = some (.lst xs) → H' a = some (.lst xs) := fun h => k _ _ h (ne_dict hk h (by intro z; cases z))
  have U : ∀ {a : Addr} {xs : List V}, H a = some (.tup xs) → H' a = some (.tup xs) := fun h => k _ _ h (ne_dict hk h (by intro z; cases z))
  have R : ∀ {ts : List Addr} {rows : List (List Nat)}, RowsT H ts rows → RowsT H' ts rows := fun {ts rows} h => by
    induction h with
    | nil => exact .nil
    | cons h _ ih => exact .cons (U h) ih
  have Pr : ∀ {ts : List Addr} {ps : List (Int × Int)}, PrT H ts ps → PrT H' ts ps := fun {ts ps} h => by
    induction h with
    | nil => exact .nil
    | cons h _ ih => exact .cons (U h) ih
  obtain ⟨a, ⟨dx, ay, rr, fr, l, s, e, ⟨⟨t1, a1, a2⟩, b1, ⟨t2, c1, c2⟩, d1, e1⟩, ok⟩, wk, nw⟩ := h
  exact ⟨a, ⟨dx, ay, rr, fr, l, s, k _ _ e (ne_dict hk e (by intro z; cases z)), ⟨⟨t1, U a1, R a2⟩, U b1, ⟨t2, U c1, Pr c2⟩, L d1, L e1⟩, ok⟩, L wk, nw⟩
  )]); intro f; simpa using My.gz f 5 true
theorem stay_cal {p c : Addr} {C : Cal} : Stay p (fun H => CalAt K H c C) := fun _ _ _ _ hp k h => CalAt.keep hp k h
/-- the rest days so far -/
def IdlI (H5 : Hp) (D p l : Addr) (m i : Nat) (H' : Hp) : Prop := Kx p H5 H' ∧ PenAt H' p l (m + i) ∧ ∃ ds : List Int, H' D = some (.lst (ds.map V.int)) ∧ (∀ x ∈ ds, 0 ≤ x ∧ x < (i : Int)) ∧ ds.Pairwise (· < ·) ∧ ds.length ≤ i
theorem IdlI.skip {H5 H' H2 : Hp} {D p l : Addr} {m i : Nat} (h : IdlI H5 D p l m i H') (k : Kx p H' H2) (hp : PenAt H2 p l (m + i + 1)) : IdlI H5 D p l m (i + 1) H2 := by
  obtain ⟨k1, p1, ds, e, hx, nd, hl⟩ := h
  exact ⟨k1.trans k, hp, ds, p1.keepL k e, fun x hd => by have := hx x hd; omega, nd, by omega⟩
theorem IdlI.push {H5 H' H2 : Hp} {D p l : Addr} {m i : Nat} (h : IdlI H5 D p l m i H') (k : Kx p H' H2) (hp : PenAt H2 p l (m + i + 1)) (nD : H5 D = none) (pn : PenAt H5 p l m) (hi : i < 1000) :
    ∃ acc, H2 D = some (.lst acc) ∧ acc.length < sizeLine ∧ IdlI H5 D p l m (i + 1) (upd H2 D (.lst (acc ++ [V.int (0 + (i : Int))]))) := by
  apply My.two; (focus intro zzI; simp only [↓ My.mkB zzI (by
  clear zzI
  obtain ⟨k1, p1, ds, e, hx, nd, hl⟩ := h
  have nn := pn.new nD
  refine ⟨_, p1.keepL k e, by rw [List.length_map, sizeLine_eq]; omega, kx_new (k1.trans k) nD, hp.set nn.1 nn.2, ds ++ [(i : Int)], by rw [upd_same, List.map_append, Int.zero_add]; rfl, fun x hd => ?_, ?_, by rw [List.length_append, List.length_singleton]; omega⟩
  · rcases List.mem_append.mp hd with hd | hd
    · have := hx x hd
      omega
    · rw [List.mem_singleton.mp hd]
      omega
  · rw [List.pairwise_append]
    refine ⟨nd, List.pairwise_singleton .., fun a ha b hb => ?_⟩
    rw [List.mem_singleton.mp hb]
    exact (hx a ha).2
  )]); intro f; simpa using My.gz f 5 true
theorem two_houses {σ : L2.St} {H : Hp} {Q : VK} {li fr : Addr} {ds : List Int} {z : Int × Int} {b : Bool} (h3 : σ[3]? = some (some (V.ref li))) (h4 : σ[4]? = some (some (V.ref fr))) (el : H li = some (.lst (ds.map V.int))) (ef : H fr = some (.tup [.int z.1, .int z.2])) (g : GrOk ds [z]) (asc : ds.Pairwise (· < ·))
    (h : ∀ (c : Addr) (rs : List Int) (hs : List (Int × Int)) (H' : Hp), Same H H' → CalAt K H' c (gregR rs hs) → GrOk rs hs → (b = true ∧ rs = [5, 6] ∧ hs = [] ∨ b = false ∧ rs = ds ∧ hs = [z]) → Q (.ref c) H') :
    if b = true then (ClX.tCMeth (CA K) (sp_greg K) E0 (tC (V.ref (He.ga K "Calendar"))) tNil) σ H Q else (tCMK0 (CA K) 2 [0, 1, 2] (sp_gregR K) E0 (tC (V.ref (He.ga K "Calendar"))) (tCons (tVar 3) (tCons (tLst (tCons (tVar 4) tNil)) tNil))) σ H Q := by
  apply My.two; (focus intro zzI; simp only [↓ My.mkB zzI (by
  clear zzI
  cases b
  · refine ⟨rfl, _, h3, _, h4, by show 1 ≤ sizeLine; rw [sizeLine_eq]; decide, fun q nq => ?_⟩
    have s1 := same_upd (o := .lst [V.ref fr]) nq
    refine ⟨rfl, li, q, [fr], ds, [z], rfl, .inl (.inl (s1 _ _ el)), .inl (.inl upd_same), .cons (s1 _ _ ef) .nil, g, fun c rs hs H' s2 nc ca p1 p2 p3 => ?_⟩
    have e1 : rs = ds := List.Perm.eq_of_pairwise (fun _ _ _ _ h h' => Int.le_antisymm h h') p2 (asc.imp fun h => Int.le_of_lt h) p1
    have e2 : hs = [z] := List.perm_singleton.mp p3
    subst e1
    subst e2
    exact h c _ _ H' (s1.trans s2) ca g (.inr ⟨rfl, rfl, rfl⟩)
  · refine ⟨rfl, rfl, fun c H' s nc ca => h c [5, 6] [] H' s ca ⟨by decide, by decide, by decide, .inl rfl⟩ (.inl ⟨rfl, rfl, rfl⟩)⟩
  )]); intro f; simpa using My.gz f 5 true
theorem two_tups {σ : L2.St} {H : Hp} {Q : VK} {li : Addr} {rs ds : List Int} {b : Bool} (h6 : σ[6]? = some (some (V.bl b))) (h3 : σ[3]? = some (some (V.ref li))) (el : H li = some (.lst (ds.map V.int))) (way : b = true ∧ rs = [5, 6] ∨ b = false ∧ rs = ds)
    (h : ∀ (t : Addr) (H' : Hp), Same H H' → H' t = some (.tup (rs.map V.int)) → Q (.ref t) H') : tIf (tB (tVar 6)) (tTup (tCons (tC (V.int 5)) (tCons (tC (V.int 6)) tNil))) (tCB (rTupQ K) (tCons (tVar 3) tNil)) σ H Q := by
  apply My.two; (focus intro zzI; simp only [↓ My.mkB zzI (by
  clear zzI
  rcases way with ⟨rfl, rfl⟩ | ⟨rfl, rfl⟩
  · refine ⟨_, h6, _, rfl, ?_⟩
    refine ⟨by show 2 ≤ sizeLine; rw [sizeLine_eq]; decide, fun t nt => h t _ (same_upd nt) upd_same⟩
  · refine ⟨_, h6, _, rfl, ?_⟩
    refine ⟨_, h3, li, _, rfl, .inl ⟨SqL.of el, fun t nt => h t _ (same_upd nt) upd_same⟩⟩
  )]); intro f; simpa using My.gz f 5 true
theorem ms_sum {y : Int} {b : Bool} (hb : b = true ↔ Lp y) : ∀ j : Nat, j ≤ 12 → ms gregC.ls (y * 12) + ((gregD b).take j).sum = ms gregC.ls (y * 12 + (j : Int))
  | 0, _ => by simp
  | j + 1, h => by
    apply My.two; (focus intro zzI; simp only [↓ My.mkB zzI (by
    clear zzI
    have ih := ms_sum hb j (by omega)
    have hl : j < (gregD b).length := h
    have gd := greg_day (y := y) (i := j) (by omega) hb
    have st := ms_succ greg_ok.ne (y * 12 + (j : Int))
    rw [gd, List.getD_eq_getElem?_getD, List.getElem?_eq_getElem hl, Option.getD_some] at st
    rw [List.take_add_one, List.getElem?_eq_getElem hl, List.sum_append, ← Int.add_assoc, ih, show y * 12 + ((j + 1 : Nat) : Int) = y * 12 + (j : Int) + 1 by omega, st]
    simp
    )]); intro f; simpa using My.gz f 5 true
theorem rj2 : ∀ m : Nat, m ≤ 40 → Txt.rjustF (numT (m : Int)) 2 (("0" : Str).cps.getD 0 0) = d2T (m : Int) ∧ (d2T (m : Int)).length ≤ 2 := by decide +kernel
theorem spot_num {C : Cal} (o : C.Ok) {m day : Int} (h0 : 0 ≤ day) (h1 : day < ml C.ls m) : C.num (ms C.ls m + day) = m := by
  apply My.two; (focus intro zzI; simp only [↓ My.mkB zzI (by
  clear zzI
  refine mn_of o.ne o.pos (by omega) ?_
  rw [ms_succ o.ne]
  omega
  )]); intro f; simpa using My.gz f 5 true
theorem show_dt {H : Hp} {a b : Addr} {n : Int} {r : List Int} {Q : VK} (hA : SqL K H a [.int n, .ref b]) (hB : SqT K H b (r.map V.int)) (hn : n.natAbs < 10 ^ 60) (hl : r.length ≤ 10) (h : ∀ v ∈ r, v.natAbs < 10 ^ 60) {z : Str} (hz : (PyData.list [.int n, .tuple (r.map .int)]).shown = z) (q : Q (.str z) H) : rShow K [.ref a] H Q := by
  apply My.two; (focus intro zzI; simp only [↓ My.mkB zzI (by
  clear zzI
  subst hz
  refine show_any (.lst hA (.cons (.int n) (.cons (.tup hB (shws_ints r)) .nil))) (.lst (m := 1) (.cons (.int hn) (by decide) (.cons (.tup (m := 0) (fits_ints r h)) (by decide) .nil))) (by decide) ?_ (by decide) q
  have : (60 + 3) * r.length ≤ (60 + 3) * 10 := Nat.mul_le_mul_left _ hl
  omega
  )]); intro f; simpa using My.gz f 5 true
theorem ms_bd {y : Int} (h : y.natAbs < 10 ^ 36) : (ms gregC.ls (y * 12)).natAbs < 10 ^ 50 := by
  apply My.two; (focus intro zzI; simp only [↓ My.mkB zzI (by
  clear zzI
  rw [greg_ms]
  have a1 : -(10 ^ 37) ≤ (y + 3) / 4 ∧ (y + 3) / 4 ≤ 10 ^ 37 := by omega
  have a2 : -(10 ^ 37) ≤ (y + 99) / 100 ∧ (y + 99) / 100 ≤ 10 ^ 37 := by omega
  have a3 : -(10 ^ 37) ≤ (y + 399) / 400 ∧ (y + 399) / 400 ≤ 10 ^ 37 := by omega
  generalize (y + 3) / 4 = q1 at a1 ⊢
  generalize (y + 99) / 100 = q2 at a2 ⊢
  generalize (y + 399) / 400 = q3 at a3 ⊢
  omega
  )]); intro f; simpa using My.gz f 5 true
theorem dt_repr {y : Int} {m d : Nat} (hy : y.natAbs < 10 ^ 36) (hm : m ≤ 40) (hd : d ≤ 40) : (reprText (dtT y (m : Int) (d : Int))).length ≤ 500 := by
  apply My.two; (focus intro zzI; simp only [↓ My.mkB zzI (by
  clear zzI
  obtain ⟨a, b, k1⟩ := d2_two hm
  obtain ⟨c, e, k2⟩ := d2_two hd
  have dl := dt_list y k1 k2
  obtain ⟨l1, f1, _⟩ := two_facts m hm
  obtain ⟨l2, f2, _⟩ := two_facts d hd
  rw [k1] at f1
  rw [k2] at f2
  simp only [List.all_cons, List.all_nil, Bool.and_true, Bool.and_eq_true, decide_eq_true_eq] at f1 f2
  have hs := PySem.PyData.shown_int y
  have len := numT_lenL (n := y) (k := 36) (by decide) hy
  rw [len_cps] at len
  have ln : (dtT y (m : Int) (d : Int)).length ≤ 43 := by
    rw [len_cps, dl, List.length_append]
    show _ + 6 ≤ 43
    omega
  have rl := StrLaws.reprText_len (dtT y (m : Int) (d : Int)) fun x hx => by
    rw [dl] at hx
    rcases List.mem_append.mp hx with hx | hx
    · have := sg_int_fig y x (by unfold sg; rw [hs]; exact hx)
      rcases this with rfl | h
      · decide
      · omega
    · simp only [List.mem_cons, List.not_mem_nil, or_false] at hx
      rcases hx with rfl | rfl | rfl | rfl | rfl | rfl
      · decide
      · omega
      · omega
      · decide
      · omega
      · omega
  omega
  )]); intro f; simpa using My.gz f 5 true
theorem rest_test {σ : L2.St} {H : Hp} {Q : VK} {z m d : Int} {f : Int × Int} {rs : List Int} {hs : List (Int × Int)} {fr : Addr} (h6 : σ[6]? = some (some (V.bl hs.isEmpty))) (h9 : σ[9]? = some (some (V.int m))) (h2 : σ[2]? = some (some (V.int d))) (h4 : σ[4]? = some (some (V.ref fr))) (ef : H fr = some (.tup [.int f.1, .int f.2])) (way : hs = [] ∨ hs = [f])
    (h : ∀ (x : Bool) (H' : Hp), Same H H' → (!x) = (!decide (z ∈ rs) && !decide ((m, d) ∈ hs)) → Q (.bl x) H') :
    if decide (z ∈ rs) = true then Q (.bl true) H else tAndV (tNotV (tVar 6)) (tOp (rEqI K false) (tTup (tCons (tVar 9) (tCons (tVar 2) tNil))) (tVar 4)) σ H Q := by
  apply My.two; (focus intro zzI; simp only [↓ My.mkB zzI (by
  clear zzI
  refine ite2 (fun c1 => ?_) (fun c1 => ?_)
  · refine h true H (Same.refl _) ?_
    rw [c1]
    rfl
  have c2 := Bool.eq_false_iff.mpr c1
  rw [c2] at h
  refine ⟨_, h6, _, rfl, _, rfl, ?_⟩
  rcases way with rfl | rfl
  · exact h false H (Same.refl _) rfl
  · refine ⟨_, h9, _, h2, by show 2 ≤ sizeLine; rw [sizeLine_eq]; decide, fun t nt => ?_⟩
    have s1 := same_upd (o := .tup [V.int m, V.int d]) nt
    refine ⟨_, h4, t, fr, [m, d], [f.1, f.2], rfl, rfl, .inr ⟨SqT.of upd_same, SqT.of (s1 _ _ ef)⟩, ?_⟩
    refine h _ _ s1 ?_
    rw [if_neg (show ¬ (false = true) by decide)]
    have : decide ([m, d] = [f.1, f.2]) = decide ((m, d) ∈ [f]) := by
      obtain ⟨f1, f2⟩ := f
      rw [decide_eq_decide]
      simp
    rw [this]
    rfl
  )]); intro f; simpa using My.gz f 5 true
 set_option maxHeartbeats 20000000 in
theorem ok_law (T : Tx K mg) : LawG P w K mg 10 (He.ga K "law") := by
  apply My.two; (focus intro zzI; simp only [↓ My.mkB zzI (by
  clear zzI
  refine T.lawG 45 (st := s_law) (at_ := fun K => He.ga K "law") rfl sc_law (fun _ _ _ _ _ _ us hl => match us, hl with | [_], _ => rfl) (fun base cdv A outer s H a ns Q E hG hr hS hl k => ?_)
  refine ⟨_, (pss_cons (ps_set (i := 1) sc_law.nd rfl (Or.inr rfl) (c__law_pen T hr (pa_cons (pv 0) pa_nil)))
 (pss_cons (ps_set (i := 3) sc_law.nd rfl (Or.inl rfl) (pe_slice (sll T) (pe_lc (own := [("_law_day", 2)]) rfl sc_law.nd (pi_range1 rfl T.n_range (pa_cons pe_int pa_nil)) (blkOk_by (own := [("_law_day", 2)]) (N := N_law) (sc := defScope s_law) (by decide +kernel)) (fun _ _ _ _ _ => (pg_name (i := 2) sc_law.nd rfl (Or.inl rfl))) (fun _ _ _ _ _ => (pts_one (pt_cmpR op_eq (c__law_draw T hr (pa_cons (pv 1) (pa_cons pe_int pa_nil))) pe_int (nomark _)))) (fun _ _ _ _ _ => (pv 2))) po_none (po_some pe_int)))
 (pss_cons (ps_set (i := 4) sc_law.nd rfl (Or.inl rfl) (pe_tup (pa_cons (pe_op op_add pe_int (c__law_draw T hr (pa_cons (pv 1) (pa_cons pe_int pa_nil)))) (pa_cons (pe_op op_add pe_int (c__law_draw T hr (pa_cons (pv 1) (pa_cons pe_int pa_nil)))) pa_nil))))
 (pss_cons (ps_set (i := 5) sc_law.nd rfl (Or.inl rfl) (pe_ifExp (pt_cmpR op_eq (c__law_draw T hr (pa_cons (pv 1) (pa_cons pe_int pa_nil))) pe_int (nomark _)) (cm_gregorian T hr (pe_glob (v := .ref (He.ga K "Calendar")) rfl T.g_Calendar rfl)) (cmk_gregorian_rest_holidays T hr (pe_glob (v := .ref (He.ga K "Calendar")) rfl T.g_Calendar rfl) (pk_cons (pv 3) (pk_cons (pe_lst (pa_cons (pv 4) pa_nil)) pk_nil)))))
 (pss_cons (ps_set (i := 6) sc_law.nd rfl (Or.inl rfl) (pe_cmpR (eqd T hr.units) (pC_holidays T hr (pv 5)) (pe_tup pa_nil) (nomark _)))
 (pss_cons (ps_if (pt_cmpR op_ne (pe_callB (show_k T hG hr) (by rfl) T.n_repr (by decide +kernel) (pa_cons (pe_lst (pa_cons (pC_period T hr (pv 5)) (pa_cons (pC_cycle_days T hr (pv 5)) (pa_cons (pC_months T hr (pv 5)) (pa_cons (pC_week T hr (pv 5)) (pa_cons (pC_first T hr (pv 5)) pa_nil)))))) pa_nil)) pe_str (nomark _))
 (pss_one (ps_ret pe_bl))
 pss_nil)
 (pss_cons (ps_if (PW.pt (pw_or (pt_cmpR (nei T hr.units) (pC_rest T hr (pv 5)) (pe_ifExp (pt_val (pv 6)) (pe_tup (pa_cons pe_int (pa_cons pe_int pa_nil))) (pe_callTy (tup_k T) (by rfl) T.n_tuple (by decide +kernel) (pa_cons (pv 3) pa_nil))) (nomark _)) (pw_or1 (pt_cmpR op_ne (mC_weekday T hr (pv 5) (pa_cons (mC_date_of T hr (pv 5) (pa_cons pe_int (pa_cons pe_int (pa_cons pe_int pa_nil)))) pa_nil)) pe_int (nomark _)))))
 (pss_one (ps_ret pe_bl))
 pss_nil)
 (pss_cons (ps_for PassesOwn.never rfl (pi_range1 rfl T.n_range (pa_cons (pe_op op_add pe_int (pe_callB (call_min2 rfl) (by rfl) T.n_min (by decide +kernel) (pa_cons pe_int (pa_cons (pe_callB (len_k T) (by rfl) T.n_len (by decide +kernel) (pa_cons (pv 0) pa_nil)) pa_nil)))) pa_nil)) (pg_name (i := 7) sc_law.nd rfl (Or.inl rfl))
 (pss_cons (ps_par (i := 8) (j := 9) (by rfl) sc_law.nd rfl rfl (by decide) rfl rfl (pa_cons (c__law_year T hr (pa_cons (pv 1) pa_nil)) (pa_cons (pe_op op_add pe_int (c__law_draw T hr (pa_cons (pv 1) (pa_cons pe_int pa_nil)))) pa_nil)) (by rfl))
 (pss_cons (ps_set (i := 10) sc_law.nd rfl (Or.inl rfl) (pe_lst (pa_cons pe_int (pa_cons (pe_op op_add pe_int (pe_callTy call_int1 (by rfl) T.n_int (by decide +kernel) (pa_cons (c__law_is_leap T hr (pa_cons (pv 8) pa_nil)) pa_nil))) (pa_cons pe_int (pa_cons pe_int (pa_cons pe_int (pa_cons pe_int (pa_cons pe_int (pa_cons pe_int (pa_cons pe_int (pa_cons pe_int (pa_cons pe_int (pa_cons pe_int pa_nil))))))))))))))
 (pss_cons (ps_par (i := 2) (j := 11) (by rfl) sc_law.nd rfl rfl (by decide) rfl rfl (pa_cons (pe_op op_add pe_int (c__law_draw T hr (pa_cons (pv 1) (pa_cons (pe_ix (ixl T) (pv 10) (pe_op op_sub (pv 9) pe_int) (fun _ _ => rfl)) pa_nil)))) (pa_cons (c__law_new_year T hr (pa_cons (pv 8) pa_nil)) pa_nil)) (by rfl))
 (pss_cons (ps_set (i := 12) sc_law.nd rfl (Or.inl rfl) (pe_op op_sub (pe_op op_add (pe_op op_add (pv 11) (pe_callB (cr_sum rfl) (by rfl) T.n_sum (by decide +kernel) (pa_cons (pe_slice (sll T) (pv 10) po_none (po_some (pe_op op_sub (pv 9) pe_int))) pa_nil))) (pv 2)) pe_int))
 (pss_cons (ps_if (pt_cmpR op_ne (pe_callB (show_k T hG hr) (by rfl) T.n_repr (by decide +kernel) (pa_cons (pe_lst (pa_cons (mC_date_of T hr (pv 5) (pa_cons (pv 8) (pa_cons (pv 9) (pa_cons (pv 2) pa_nil)))) (pa_cons (mC_parts T hr (pv 5) (pa_cons (pv 12) pa_nil)) pa_nil))) pa_nil)) (pe_callB (show_k T hG hr) (by rfl) T.n_repr (by decide +kernel) (pa_cons (pe_lst (pa_cons (pv 12) (pa_cons (pe_tup (pa_cons (pv 8) (pa_cons (pv 9) (pa_cons (pv 2) pa_nil)))) pa_nil))) pa_nil)) (nomark _))
 (pss_one (ps_ret pe_bl))
 pss_nil)
 (pss_cons (ps_if (pt_cmpR op_ne (pe_callB (show_k T hG hr) (by rfl) T.n_repr (by decide +kernel) (pa_cons (pe_lst (pa_cons (mC_month_length T hr (pv 5) (pa_cons (pv 8) (pa_cons (pv 9) pa_nil))) (pa_cons (mC_weekday T hr (pv 5) (pa_cons (pv 12) pa_nil)) pa_nil))) pa_nil)) (pe_callB (show_k T hG hr) (by rfl) T.n_repr (by decide +kernel) (pa_cons (pe_lst (pa_cons (pe_ix (ixl T) (pv 10) (pe_op op_sub (pv 9) pe_int) (fun _ _ => rfl)) (pa_cons (pe_op op_mod (pe_op op_add (pv 12) pe_int) pe_int) pa_nil))) pa_nil)) (nomark _))
 (pss_one (ps_ret pe_bl))
 pss_nil)
 (pss_cons (ps_set (i := 13) sc_law.nd rfl (Or.inl rfl) (pe_op op_add_str (pe_op op_add_str (pe_op op_add_str (pe_op op_add_str (pe_callTy call_str_int (by rfl) T.n_str (by decide +kernel) (pa_cons (pv 8) pa_nil)) pe_str) (bmk T PySem.F.plainAttrs_str PySem.F.slot_str_rjust PySem.F.type_str_rjust mt_rjustF (pe_callTy call_str_int (by rfl) T.n_str (by decide +kernel) (pa_cons (pv 9) pa_nil)) (pa_cons pe_int (pa_cons pe_str pa_nil)))) pe_str) (bmk T PySem.F.plainAttrs_str PySem.F.slot_str_rjust PySem.F.type_str_rjust mt_rjustF (pe_callTy call_str_int (by rfl) T.n_str (by decide +kernel) (pa_cons (pv 2) pa_nil)) (pa_cons pe_int (pa_cons pe_str pa_nil)))))
 (pss_cons (ps_if (pt_cmpR op_ne (pe_callB (show_k T hG hr) (by rfl) T.n_repr (by decide +kernel) (pa_cons (pe_lst (pa_cons (mC_date_text T hr (pv 5) (pa_cons (pv 12) pa_nil)) (pa_cons (mC_read_date T hr (pv 5) (pa_cons (pv 13) pa_nil)) pa_nil))) pa_nil)) (pe_callB (show_k T hG hr) (by rfl) T.n_repr (by decide +kernel) (pa_cons (pe_lst (pa_cons (pv 13) (pa_cons (pv 12) pa_nil))) pa_nil)) (nomark _))
 (pss_one (ps_ret pe_bl))
 pss_nil)
 (pss_cons (ps_set (i := 14) sc_law.nd rfl (Or.inl rfl) (pe_or (pe_cmpR (inq T) (pe_op op_mod (pe_op op_add (pv 12) pe_int) pe_int) (pC_rest T hr (pv 5)) (by rfl)) (pe_one (pe_and (pe_not (pv 6)) (pe_one (pe_cmpR (eqi T hr.units) (pe_tup (pa_cons (pv 9) (pa_cons (pv 2) pa_nil))) (pv 4) (nomark _)))))))
 (pss_one (ps_if (pt_cmpR op_ne (pe_callB (show_k T hG hr) (by rfl) T.n_repr (by decide +kernel) (pa_cons (mC_is_work T hr (pv 5) (pa_cons (pv 12) pa_nil)) pa_nil)) (pe_callB (show_k T hG hr) (by rfl) T.n_repr (by decide +kernel) (pa_cons (pe_not (pv 14)) pa_nil)) (nomark _))
 (pss_one (ps_ret pe_bl))
 pss_nil))))))))))))
 (pss_one (ps_ret pe_bl)))))))))), ?_⟩
  refine ⟨_, rfl, a, ns, rfl, hS, fun p l H1 s1 hp0 hp => ?_⟩
  have hS1 := sqL_same hS s1
  have B := (Bd.start hp).add stay_sq hS1
  rfl'
  intro D hD
  have pn := B.pen
  refine walk_w walk_range (IdlI H1 D p l 0) ⟨kx_same (same_upd hD), pn.same (same_upd hD), [], upd_same, by simp, by simp, by simp⟩ (fun _ _ _ _ => trivial) ?_ ?_
  · rintro i x _ H2 hi I2 ⟨rfl, rfl⟩
    have hi7 : i < 7 := hi
    have B2 := (Bd.start I2.2.1).add stay_kx (Kx.refl H2)
    rfl'
    rename_i rb Hb b0 b1 Bb
    refine ite2 (fun c => ?_) (fun c => ?_)
    · rfl'
      exact I2.push (Bb.at_ 0) Bb.pen hD pn (by omega)
    · exact I2.skip (Bb.at_ 0) Bb.pen
  rintro H2 ⟨k2, p2, ds, e2, hds, pds, lds⟩
  have B2 := ((B.drawn k2 p2).addL e2).mono (show 0 + Int.toNat 7 ≤ 20 by decide)
  clear B pn k2 p2 e2 hS hp hp0 s1 hS1
  rfl'
  rename_i Li H3 B3 r4 H4 a4 b4 B4 r5 H5 a5 b5 B5 fr H6 B6 r7 H7 a7 b7 B7
  have cut6 : cutV (ds.map V.int) none (some 6) = (ds.take 6).map V.int := by
    show cutV _ none (some ((6 : Nat) : Int)) = _
    rw [cut_to, List.map_take]
  have el : H7 Li = some (.lst ((ds.take 6).map V.int)) := by
    rw [← cut6]
    exact B7.at_ 1
  have asc : (ds.take 6).Pairwise (· < ·) := pds.sublist (List.take_sublist ..)
  have hgr : GrOk (ds.take 6) [(1 + r4, 1 + r5)] := ⟨fun x hx => hds x (List.mem_of_mem_take hx), asc.imp fun h => by omega, by rw [List.length_take]; omega, .inr ⟨_, rfl, by show 1 ≤ 1 + r4; omega, by show 1 + r4 ≤ 12; omega, by show 1 ≤ 1 + r5; omega, by show 1 + r5 ≤ 31; omega⟩⟩
  refine two_houses (z := (1 + r4, 1 + r5)) rfl rfl el (B7.at_ 0) hgr asc fun c rs hs H8 s8 ca gr way => ?_
  obtain ⟨wa, ⟨dx, ay, rr, frq, l2, st2, hcI, BB, okC⟩, hw, ne⟩ := id ca
  have kk1 : (b8 ay rr frq l2 st2 (gregR rs hs) ++ [(("works" : Str), V.ref wa)]).lookup ("date_of" : Str) = none := b8_none (.inr ⟨_, rfl⟩)
  have kk2 : (b8 ay rr frq l2 st2 (gregR rs hs) ++ [(("works" : Str), V.ref wa)]).lookup ("parts" : Str) = none := b8_none (.inr ⟨_, rfl⟩)
  have kk3 : (b8 ay rr frq l2 st2 (gregR rs hs) ++ [(("works" : Str), V.ref wa)]).lookup ("month_length" : Str) = none := b8_none (.inr ⟨_, rfl⟩)
  have kk4 : (b8 ay rr frq l2 st2 (gregR rs hs) ++ [(("works" : Str), V.ref wa)]).lookup ("weekday" : Str) = none := b8_none (.inr ⟨_, rfl⟩)
  have kk5 : (b8 ay rr frq l2 st2 (gregR rs hs) ++ [(("works" : Str), V.ref wa)]).lookup ("date_text" : Str) = none := b8_none (.inr ⟨_, rfl⟩)
  have kk6 : (b8 ay rr frq l2 st2 (gregR rs hs) ++ [(("works" : Str), V.ref wa)]).lookup ("read_date" : Str) = none := b8_none (.inr ⟨_, rfl⟩)
  have kk7 : (b8 ay rr frq l2 st2 (gregR rs hs) ++ [(("works" : Str), V.ref wa)]).lookup ("is_work" : Str) = none := b8_none (.inr ⟨_, rfl⟩)
  have kk8 : (b8 ay rr frq l2 st2 (gregR rs hs) ++ [(("works" : Str), V.ref wa)]).lookup ("holidays" : Str) = none := b8_none (.inr ⟨_, rfl⟩)
  have cx := ca.x
  have kk9 : (b8 ay rr frq l2 st2 (gregR rs hs) ++ [(("works" : Str), V.ref wa)]).lookup ("period" : Str) = none := b8_none (.inr ⟨_, rfl⟩)
  have kk10 : (b8 ay rr frq l2 st2 (gregR rs hs) ++ [(("works" : Str), V.ref wa)]).lookup ("cycle_days" : Str) = none := b8_none (.inr ⟨_, rfl⟩)
  have kk11 : (b8 ay rr frq l2 st2 (gregR rs hs) ++ [(("works" : Str), V.ref wa)]).lookup ("months" : Str) = none := b8_none (.inr ⟨_, rfl⟩)
  have kk12 : (b8 ay rr frq l2 st2 (gregR rs hs) ++ [(("works" : Str), V.ref wa)]).lookup ("week" : Str) = none := b8_none (.inr ⟨_, rfl⟩)
  have kk13 : (b8 ay rr frq l2 st2 (gregR rs hs) ++ [(("works" : Str), V.ref wa)]).lookup ("first" : Str) = none := b8_none (.inr ⟨_, rfl⟩)
  have kk14 : (b8 ay rr frq l2 st2 (gregR rs hs) ++ [(("works" : Str), V.ref wa)]).lookup ("rest" : Str) = none := b8_none (.inr ⟨_, rfl⟩)
  generalize b8 ay rr frq l2 st2 (gregR rs hs) ++ [(("works" : Str), V.ref wa)] = fs at hcI kk1 kk2 kk3 kk4 kk5 kk6 kk7 kk8 kk9 kk10 kk11 kk12 kk13 kk14
  have B8 := ((B7.same s8).add stay_cal ca).add (F := fun H => H c = some (.ins (CA K) dx fs)) stay_ins hcI
  have pe : (gregR rs hs).per = 146097 := greg_per
  have gls : (gregR rs hs).ls = gregC.ls := rfl
  have gmon : (gregR rs hs).mon = 12 := greg_mon
  clear BB hw ne B7 s8 ca el
  rfl'
  intro fr2 ts2 hf2 hp2
  have B9 := (B8.addT hf2).add stay_prT hp2
  clear hf2 hp2 B8
  rfl'
  rename_i q9 H9 BA
  refine ⟨.tuple (hs.map prP), .tuple [], .tup (SqT.of (BA.at_ 2)) ((BA.at_ 1 : PrT H9 ts2 hs).prs).dp, .tup (SqT.of (BA.at_ 0)) .nil, prPs_shaped _, by decide, ?_⟩
  rw [prPs_nil]
  have cx9 : CalX K H9 c (gregR rs hs) := (BA.at_ 4 : CalAt K H9 c (gregR rs hs)).x
  have hc9 : H9 c = some (.ins (CA K) dx fs) := BA.at_ 3
  clear cx hcI B9
  rfl'
  rename_i q10 H10 BB
  have sh5 : H10 q10 = some (.lst (([146097, 146097, 12, 7, 5] : List Int).map V.int)) := by
    have h := BB.at_ 0
    rw [pe, gmon, show (gregR rs hs).ls.sum = 146097 from greg_sum] at h
    exact h
  refine show_ints (r := [146097, 146097, 12, 7, 5]) (SqL.of sh5) (by decide) (by decide) ?_
  refine ⟨rfl, _, rfl, ?_⟩
  refine iteNS (by decide +kernel) ?_
  have BC := BB.tl
  have cx10 : CalX K H10 c (gregR rs hs) := (BC.at_ 4 : CalAt K H10 c (gregR rs hs)).x
  have hc10 : H10 c = some (.ins (CA K) dx fs) := BC.at_ 3
  clear sh5 BB cx9 hc9 BA
  have el10 : H10 Li = some (.lst ((ds.take 6).map V.int)) := by
    rw [← cut6]
    exact BC.at_ 6
  have way2 : hs.isEmpty = true ∧ rs = [5, 6] ∨ hs.isEmpty = false ∧ rs = ds.take 6 := way.imp (fun h => ⟨by rw [h.2.2]; rfl, h.2.1⟩) fun h => ⟨by rw [h.2.2]; rfl, h.2.1⟩
  rfl'
  intro rr2 hrr
  refine two_tups (ds := ds.take 6) (rs := rs) rfl rfl el10 way2 fun tp H11 s11 htp => ?_
  refine ⟨rr2, tp, rs, rs, rfl, rfl, .inr ⟨SqT.of (s11 _ _ hrr), SqT.of htp⟩, ?_⟩
  rw [if_pos rfl, decide_eq_true rfl]
  have BD := BC.same s11
  have cx11 : CalX K H11 c (gregR rs hs) := cx10.same s11
  have hc11 : H11 c = some (.ins (CA K) dx fs) := s11 _ _ hc10
  clear cx10 hc10 el10 BC hrr htp
  have gk := gregR_ok gr
  have mp0 := ml_pos gk.ne gk.pos (2000 * ((gregR rs hs).mon : Int) + 1 - 1)
  have w2000 : (gregR rs hs).wkd (ms (gregR rs hs).ls (2000 * ((gregR rs hs).mon : Int) + 1 - 1) + 1 - 1) = 5 := by
    unfold Cal.wkd
    rw [gmon, gls, show (2000 * ((12 : Nat) : Int) + 1 - 1) = 2000 * 12 by decide, greg_ms]
    show (365 * 2000 + ((2000 + 3) / 4 - (2000 + 99) / 100 + (2000 + 399) / 400) + 1 - 1 + ((5 : Nat) : Int)) % ((7 : Nat) : Int) = 5
    decide
  rfl'
  rw [w2000]
  refine iteF ?_
  clear mp0 w2000
  rfl'
  refine ⟨.inl (BD.at_ 8 : SqL K H11 a (ns.map V.int)), ?_⟩
  rfl'
  obtain ⟨N, hN, hN2⟩ : ∃ N : Nat, (8 + (if (((ns.map V.int).length : Nat) : Int) < 10 then (((ns.map V.int).length : Nat) : Int) else 10)).toNat = N ∧ N ≤ 18 := ⟨_, rfl, by split <;> omega⟩
  rw [hN]
  clear hN
  have BE := BD.mono (show 20 + 1 + 1 + 1 ≤ 1000 * 0 + 100 by decide)
  have BF := (((Bd.start BE.pen).addT (BE.at_ 5 : H11 fr = some (.tup [V.int (1 + r4), V.int (1 + r5)]))).add stay_cal (BE.at_ 4 : CalAt K H11 c (gregR rs hs))).add (F := fun H => H c = some (.ins (CA K) dx fs)) stay_ins hc11
  clear BD BE cx11 hc11 s11
  refine for_range (n := N) (fun i σ H' => ∃ v2 v7 v8 v9 v10 v11 v12 v13 v14 : Option V, σ = [some (.ref a), some (.ref p), v2, some (.ref Li), some (.ref fr), some (.ref c), some (.bl hs.isEmpty), v7, v8, v9, v10, v11, v12, v13, v14] ∧ Bd H' p l (1000 * i + 100) [fun H => H c = some (.ins (CA K) dx fs), fun H => CalAt K H c (gregR rs hs), fun H => H fr = some (.tup [V.int (1 + r4), V.int (1 + r5)])]) ⟨_, _, _, _, _, _, _, _, _, rfl, BF⟩ ?_ ?_
  · clear BF
    rintro i σ HA hi ⟨v2, v7, v8, v9, v10, v11, v12, v13, v14, rfl, B⟩
    rfl'
    rename_i y HB hy BB r HC ra rb BC
    clear B BB
    intro b hb
    obtain ⟨j, rfl, hj⟩ : ∃ j : Nat, r = (j : Int) ∧ j < 12 := ⟨r.toNat, by omega, by omega⟩
    have gd := greg_day hj hb
    obtain ⟨D, hD⟩ : ∃ D, ml gregC.ls (y * 12 + (j : Int)) = D := ⟨_, rfl⟩
    have mp := ml_pos greg_ok.ne greg_ok.pos (y * 12 + (j : Int))
    have mt := ml_le greg_ok.ne greg_ok.top (y * 12 + (j : Int))
    rw [hD] at gd mp mt
    have ex : atI [V.int 31, V.int (28 + (if b = true then 1 else 0)), V.int 31, V.int 30, V.int 31, V.int 30, V.int 31, V.int 31, V.int 30, V.int 31, V.int 30, V.int 31] (1 + (j : Int) - 1) = some (.int D) := by
      refine at_of (j := j) (by omega) ?_
      show ((gregD b).map V.int)[j]? = _
      have hl : j < (gregD b).length := hj
      rw [List.getElem?_map, List.getElem?_eq_getElem hl, gd, List.getD_eq_getElem?_getD, List.getElem?_eq_getElem hl]
      rfl
    have sl : cutV [V.int 31, V.int (28 + (if b = true then 1 else 0)), V.int 31, V.int 30, V.int 31, V.int 30, V.int 31, V.int 31, V.int 30, V.int 31, V.int 30, V.int 31] none (some (1 + (j : Int) - 1)) = ((gregD b).take j).map V.int := by
      rw [show 1 + (j : Int) - 1 = ((j : Nat) : Int) by omega, cut_to]
      show ((gregD b).map V.int).take j = _
      rw [List.map_take]
    have sm := ms_sum hb j (by omega)
    refine .inr ⟨_, rfl, ?_⟩
    rfl'
    rename_i q1 HD BD1 rd HE a5 b5 BE1 q2 HF BF1
    have es : HF q2 = some (.lst (((gregD b).take j).map V.int)) := by
      rw [← sl]
      exact BF1.at_ 0
    refine ⟨SqL.of es, ?_⟩
    obtain ⟨dt, hdt⟩ : ∃ dt, ms gregC.ls (y * 12) + ((gregD b).take j).sum + (1 + rd) - 1 = dt := ⟨_, rfl⟩
    have edt : dt = ms gregC.ls (y * 12 + (j : Int)) + rd := by omega
    have BG := BF1.tl
    have cxF : CalX K HF c (gregR rs hs) := (BG.at_ 2 : CalAt K HF c (gregR rs hs)).x
    have hcF : HF c = some (.ins (CA K) dx fs) := BG.at_ 1
    have mi : y * ((gregR rs hs).mon : Int) + (1 + (j : Int)) - 1 = y * 12 + (j : Int) := by
      rw [gmon]
      show y * 12 + (1 + (j : Int)) - 1 = _
      omega
    have ml1 : ml (gregR rs hs).ls (y * ((gregR rs hs).mon : Int) + (1 + (j : Int)) - 1) = D := by rw [mi, gls, hD]
    have ms1 : ms (gregR rs hs).ls (y * ((gregR rs hs).mon : Int) + (1 + (j : Int)) - 1) + (1 + rd) - 1 = dt := by
      rw [mi, gls]
      omega
    clear BF1 BE1 BD1 BC es
    have sb : 0 ≤ ((gregD b).take j).sum ∧ ((gregD b).take j).sum ≤ 400 := (by decide : ∀ b : Bool, ∀ j : Nat, j < 12 → 0 ≤ ((gregD b).take j).sum ∧ ((gregD b).take j).sum ≤ 400) b j hj
    have mb := ms_bd hy
    generalize ((gregD b).take j).sum = S at hdt sm sb
    have nm : (gregR rs hs).num dt = y * 12 + (j : Int) := by
      rw [edt]
      exact spot_num gk a5 (by rw [gls, hD]; exact b5)
    have yr1 : (gregR rs hs).yr dt = y := by
      unfold Cal.yr
      rw [nm, gmon]
      show (y * 12 + (j : Int)) / 12 = y
      omega
    have mt1 : (gregR rs hs).mth dt = 1 + (j : Int) := by
      unfold Cal.mth
      rw [nm, gmon]
      show (y * 12 + (j : Int)) % 12 + 1 = _
      omega
    have dy1 : (gregR rs hs).day dt = 1 + rd := by
      unfold Cal.day
      rw [nm, gls]
      omega
    have db : dt.natAbs < 10 ^ 60 := by omega
    have r3 : ∀ v ∈ ([y, 1 + (j : Int), 1 + rd] : List Int), v.natAbs < 10 ^ 60 := fun v hv => by
      simp only [List.mem_cons, List.not_mem_nil, or_false] at hv
      rcases hv with rfl | rfl | rfl <;> omega
    obtain ⟨z1, hz1⟩ : ∃ z1, (PyData.list [.int dt, .tuple (([y, 1 + (j : Int), 1 + rd] : List Int).map .int)]).shown = z1 := ⟨_, rfl⟩
    rfl'
    rename_i t1 HG BH1 q3 HI BI
    have c0 : HI q3 = some (.lst [V.int dt, V.ref t1]) := by
      have h := BI.at_ 0
      rw [ms1] at h
      exact h
    have c1 : HI t1 = some (.tup (([y, 1 + (j : Int), 1 + rd] : List Int).map V.int)) := by
      have h := BI.at_ 1
      rw [hdt, yr1, mt1, dy1] at h
      exact h
    refine show_dt (SqL.of c0) (SqT.of c1) db (by show 3 ≤ 10; decide) r3 hz1 ?_
    replace BI := BI.tl.tl
    clear c0 c1 BH1 BG cxF hcF
    rfl'
    rename_i t2 HJ BJ q4 HL BL
    have c0 : HL q4 = some (.lst [V.int dt, V.ref t2]) := by
      have h : HL q4 = some (.lst [V.int (ms gregC.ls (y * 12) + S + (1 + rd) - 1), V.ref t2]) := BL.at_ 0
      rw [hdt] at h
      exact h
    refine show_dt (SqL.of c0) (SqT.of (BL.at_ 1 : HL t2 = some (.tup (([y, 1 + (j : Int), 1 + rd] : List Int).map V.int)))) db (by show 3 ≤ 10; decide) r3 hz1 ?_
    refine ⟨rfl, _, rfl, ?_⟩
    refine iteNS rfl ?_
    replace BL := BL.tl.tl
    have cxL : CalX K HL c (gregR rs hs) := (BL.at_ 2 : CalAt K HL c (gregR rs hs)).x
    have hcL : HL c = some (.ins (CA K) dx fs) := BL.at_ 1
    obtain ⟨z2, hz2⟩ : ∃ z2, (PyData.list (([D, (dt + 5) % 7] : List Int).map .int)).shown = z2 := ⟨_, rfl⟩
    have r2 : ∀ v ∈ ([D, (dt + 5) % 7] : List Int), v.natAbs < 10 ^ 60 := fun v hv => by
      simp only [List.mem_cons, List.not_mem_nil, or_false] at hv
      rcases hv with rfl | rfl <;> omega
    have wk1 : (gregR rs hs).wkd dt = (dt + 5) % 7 := rfl
    clear c0 BJ BI hz1 r3 z1
    rfl'
    rename_i q5 HM BM
    have c0 : HM q5 = some (.lst (([D, (dt + 5) % 7] : List Int).map V.int)) := by
      have h := BM.at_ 0
      rw [hdt, ml1, wk1] at h
      exact h
    refine show_ints (r := [D, (dt + 5) % 7]) (SqL.of c0) (by show 2 ≤ 200000; decide) r2 ?_
    rw [hz2]
    replace BM := BM.tl
    clear c0 BL cxL hcL
    rfl'
    rename_i q6 HN BN
    have c0 : HN q6 = some (.lst (([D, (dt + 5) % 7] : List Int).map V.int)) := by
      have h : HN q6 = some (.lst [V.int D, V.int ((ms gregC.ls (y * 12) + S + (1 + rd) - 1 + 5) % 7)]) := BN.at_ 0
      rw [hdt] at h
      exact h
    refine show_ints (r := [D, (dt + 5) % 7]) (SqL.of c0) (by show 2 ≤ 200000; decide) r2 ?_
    rw [hz2]
    refine ⟨rfl, _, rfl, ?_⟩
    refine iteNS rfl ?_
    replace BN := BN.tl
    clear c0 BM hz2 r2 z2
    have yl : (Str.ofString (toString y)).length ≤ 37 := numT_lenL (n := y) (k := 36) (by decide) hy
    have ly : y.natAbs.log2 < 1920 := log10 (B := 36) (by decide) hy
    have lgj : (1 + (j : Int)).natAbs.log2 < 1920 := log10 (B := 60) (by decide) (by omega)
    have lgd : (1 + rd).natAbs.log2 < 1920 := log10 (B := 60) (by decide) (by omega)
    have l1 : ("-" : Str).length = 1 := by decide +kernel
    obtain ⟨e, hde, he⟩ : ∃ e : Nat, 1 + rd = (e : Int) ∧ e ≤ 40 := ⟨(1 + rd).toNat, by omega, by omega⟩
    obtain ⟨jr, jl⟩ := rj2 (1 + j) (by omega)
    obtain ⟨er, el2⟩ := rj2 e he
    have ej : Str.ofString (toString (1 + (j : Int))) = numT ((1 + j : Nat) : Int) := by
      unfold numT
      rw [show (1 + (j : Int)) = ((1 + j : Nat) : Int) by omega]
    have b1 : (Str.ofString (toString y) ++ ("-" : Str)).length ≤ 38 := by
      rw [strLen_append, l1]
      omega
    rfl'
    rw [ej, jr]
    refine ⟨by rw [sizeLine_eq]; omega, ?_⟩
    have b2 : (Str.ofString (toString y) ++ ("-" : Str) ++ d2T ((1 + j : Nat) : Int)).length ≤ 40 := by
      rw [strLen_append]
      omega
    have b3 : (Str.ofString (toString y) ++ ("-" : Str) ++ d2T ((1 + j : Nat) : Int) ++ ("-" : Str)).length ≤ 41 := by
      rw [strLen_append, l1]
      omega
    have ed : Str.ofString (toString (1 + rd)) = numT (e : Int) := by
      rw [hde]
      rfl
    rfl'
    rw [ed, er]
    refine ⟨by rw [sizeLine_eq]; omega, ?_⟩
    obtain ⟨u1, u2, k1⟩ := d2_two (m := 1 + j) (by omega)
    obtain ⟨u3, u4, k2⟩ := d2_two he
    have etx : Str.ofString (toString y) ++ ("-" : Str) ++ d2T ((1 + j : Nat) : Int) ++ ("-" : Str) ++ d2T (e : Int) = dtT y ((1 + j : Nat) : Int) (e : Int) := by
      refine str_ext ?_
      rw [dt_list y k1 k2]
      simp only [app_list, k1, k2, List.append_assoc]
      rw [show ("-" : Str).cps.toList = [45] by rw [minus_eq]]
      rfl
    have tr := dt_repr (y := y) (m := 1 + j) (d := e) hy (by omega) he
    rw [etx]
    have yb : ((gregR rs hs).yr dt).natAbs < 10 ^ 60 := by
      rw [yr1]
      omega
    have cxN : CalX K HN c (gregR rs hs) := (BN.at_ 2 : CalAt K HN c (gregR rs hs)).x
    have hcN : HN c = some (.ins (CA K) dx fs) := BN.at_ 1
    generalize hZ : (List.set _ _ _ : L2.St) = Z
    have eZ : Z = [some (.ref a), some (.ref p), some (.int (e : Int)), some (.ref Li), some (.ref fr), some (.ref c), some (.bl hs.isEmpty), some (.int (0 + (i : Int))), some (.int y), some (.int ((1 + j : Nat) : Int)), some (.ref q1), some (.int (ms gregC.ls (y * 12))), some (.int dt), v13, v14] := by
      rw [← hZ, ← hdt, ← hde, show ((1 + j : Nat) : Int) = 1 + (j : Int) by omega]
      rfl
    subst eZ
    clear hZ etx jr er b1 b2 b3 ej ed yl ly
    have cj : ((1 + j : Nat) : Int) = 1 + (j : Int) := by omega
    have g1 : 1 ≤ 1 + j := by omega
    have g2 : ((1 + j : Nat) : Int) ≤ (((gregR rs hs).mon : Nat) : Int) := by
      rw [gmon]
      omega
    have g3 : 1 ≤ e := by omega
    have g4 : (e : Int) ≤ ml (gregR rs hs).ls (y * (((gregR rs hs).mon : Nat) : Int) + ((1 + j : Nat) : Int) - 1) := by
      rw [cj, ml1]
      omega
    have ms2 : ms (gregR rs hs).ls (y * (((gregR rs hs).mon : Nat) : Int) + ((1 + j : Nat) : Int) - 1) + (e : Int) - 1 = dt := by
      rw [cj, ← hde]
      exact ms1
    have tE : dtT ((gregR rs hs).yr dt) ((gregR rs hs).mth dt) ((gregR rs hs).day dt) = dtT y ((1 + j : Nat) : Int) (e : Int) := by rw [yr1, mt1, dy1, cj, hde]
    refine ⟨_, rfl, ?_⟩
    rfl'
    case' h => skip
    rename_i Hd Bd2
    refine ⟨(Bd2.at_ 2 : CalAt K Hd c (gregR rs hs)).x, ?_⟩
    rfl'
    rename_i He Be2 q7 Hf Bf2
    have c0 : Hf q7 = some (.lst [V.str (dtT y ((1 + j : Nat) : Int) (e : Int)), V.int dt]) := by
      have h := Bf2.at_ 0
      rw [ms2, tE] at h
      exact h
    obtain ⟨z3, hz3⟩ : ∃ z3, (PyData.list [.str (dtT y ((1 + j : Nat) : Int) (e : Int)), .int dt]).shown = z3 := ⟨_, rfl⟩
    refine show_any (.lst (SqL.of c0) (.cons (.str _) (.cons (.int dt) .nil))) (.lst (m := 0) (.cons (.str tr) (by decide) (.cons (.int db) (by decide) .nil))) (by decide) (by decide) (by decide) ?_
    rw [hz3]
    replace Bf2 := Bf2.tl
    clear c0 Be2 Bd2 BN cxN hcN
    rfl'
    rename_i q8 Hg Bg
    have c0 : Hg q8 = some (.lst [V.str (dtT y ((1 + j : Nat) : Int) (e : Int)), V.int dt]) := Bg.at_ 0
    refine show_any (.lst (SqL.of c0) (.cons (.str _) (.cons (.int dt) .nil))) (.lst (m := 0) (.cons (.str tr) (by decide) (.cons (.int db) (by decide) .nil))) (by decide) (by decide) (by decide) ?_
    rw [hz3]
    refine ⟨rfl, _, rfl, ?_⟩
    refine iteNS rfl ?_
    replace Bg := Bg.tl
    clear c0 Bf2 hz3 z3
    have cxG : CalX K Hg c (gregR rs hs) := (Bg.at_ 2 : CalAt K Hg c (gregR rs hs)).x
    have hcG : Hg c = some (.ins (CA K) dx fs) := Bg.at_ 1
    rfl'
    intro rr3 hrr
    refine ⟨_, _, rfl, .inr (SqT.of hrr), rfl, flatC _, ?_⟩
    rw [if_neg (show ¬ (false = true) by decide), inC]
    refine ⟨_, rfl, ?_⟩
    have efG : Hg fr = some (.tup [V.int (1 + r4), V.int (1 + r5)]) := Bg.at_ 3
    refine rest_test (f := (1 + r4, 1 + r5)) (m := ((1 + j : Nat) : Int)) (d := (e : Int)) (hs := hs) rfl rfl rfl rfl efG (way.imp (fun h => h.2.2) fun h => h.2.2) fun x Hk sk hx => ?_
    have hx2 : (gregR rs hs).isW dt = !x := by
      rw [hx]
      have iw : (gregR rs hs).isW dt = (!decide ((gregR rs hs).wkd dt ∈ (gregR rs hs).rest) && !decide (((gregR rs hs).mth dt, (gregR rs hs).day dt) ∈ (gregR rs hs).hol)) := rfl
      rw [iw, wk1, mt1, dy1, cj, hde]
      rfl
    have Bk := Bg.same sk
    have cxK : CalX K Hk c (gregR rs hs) := cxG.same sk
    have hcK : Hk c = some (.ins (CA K) dx fs) := sk _ _ hcG
    clear cxG hcG Bg hrr
    generalize hZ : (List.set _ _ _ : L2.St) = Z
    have eZ : Z = [some (.ref a), some (.ref p), some (.int (e : Int)), some (.ref Li), some (.ref fr), some (.ref c), some (.bl hs.isEmpty), some (.int (0 + (i : Int))), some (.int y), some (.int ((1 + j : Nat) : Int)), some (.ref q1), some (.int (ms gregC.ls (y * 12))), some (.int dt), some (.str (dtT y ((1 + j : Nat) : Int) (e : Int))), v14] := by
      rw [← hZ]
      rfl
    subst eZ
    clear hZ
    refine ⟨_, rfl, ?_⟩
    rfl'
    rename_i Hm Bm
    rw [hx2]
    refine show_any (v := .bl (!x)) (B := 0) (.bl _) (.bl _) (by decide) (by decide) (by decide) ?_
    refine ⟨_, rfl, _, rfl, ?_⟩
    refine show_any (v := .bl (!x)) (B := 0) (.bl _) (.bl _) (by decide) (by decide) (by decide) ?_
    refine ⟨rfl, _, rfl, ?_⟩
    refine iteNS rfl ?_
    exact ⟨_, _, _, _, _, _, _, _, _, rfl, Bm.tl.mono (by omega)⟩
  · rintro σ HA ⟨v2, v7, v8, v9, v10, v11, v12, v13, v14, rfl, B⟩
    exact k HA
  )]); intro f; simpa using My.gz f 5 true
end
end Lw
end
set_option maxHeartbeats 0
open PySem PySem.W PySem.Calls PyProof.Rows
theorem PySem.Challenge.cw_dayrecipes_k03_gregorian_calendar_holds : PySem.Challenge.rw_dayrecipes_k03_gregorian_calendar.Holds := by
  w_on; o_law
  refine HandSHeadRun.head_any (r := OpenLaw.row PySem.Challenge.rw_dayrecipes_k03_gregorian_calendar) (q := view (OpenLaw.row PySem.Challenge.rw_dayrecipes_k03_gregorian_calendar).prog [51]) (H := Hd.hk) (ob := Hd.ob) (M := 20000) (loose := Hd.loose) (d := HandSHeadRun.topDef (OpenLaw.row PySem.Challenge.rw_dayrecipes_k03_gregorian_calendar).prog 51) (kwd := []) Hd.ob_eq
    (by kernel_rfl) (fun s => by kernel_rfl) Hd.run (by kernel_rfl) (by kernel_rfl) (by kernel_rfl) (by rfl) (by first | assumption | decide +kernel) (by decide +kernel) ⟨rfl, rfl, rfl, rfl, rfl, by decide +kernel⟩ ?hw ?hc
  case hw => w_witness2
  case hc =>
    refine My.walkG (l := PySem.Challenge.rw_dayrecipes_k03_gregorian_calendar) (n := 63) (k := 10) rfl (by decide) (by kernel_rfl) ⟨rfl, by decide, by decide⟩ ?F
    intro w mg fa h Y G hmg0
    obtain ⟨K, KX, c⟩ := Y
    have hmg : mg ("law" : PySem.Str) = some (.ref fa) := by
      have e : (HandSHeadRun.topDef (OpenLaw.row PySem.Challenge.rw_dayrecipes_k03_gregorian_calendar).prog 51).name = ("law" : PySem.Str) := by kernel_rfl
      rw [← e]
      exact hmg0
    have T : Lw.Tx K mg := ⟨⟨h, KX, G⟩, c⟩
    cases hmg.symm.trans T.g_law
    exact ⟨K, KX, Lw.ok_law (P := (PySem.Challenge.rw_dayrecipes_k03_gregorian_calendar).prog) (w := w) T⟩
