import PyProof.Rows.All
import Wide.All
import OpenK.AllK
import Wide.FinOn
import HandS.ForMost
import HandS.IsInst
import HandS.Wide
import HandS.NoneIn
import HandS.Style
import HandS.Deep
import HandS.TupSets
import HandS.DictTup
import HandS.TupAny
import HandS.Evl
import HandS.Conv
import KE.KDictSum
import KE.KDictCopyH
import PySem.Challenge.RW_meshcore_k70_whole_numbers_of_cells
set_option Elab.async false
set_option linter.all false
set_option maxRecDepth 100000
set_option maxHeartbeats 4000000
namespace Vk

/-- sum of an integer over a list -/
def sm {α : Type} (l : List α) (f : α → Int) : Int := (l.map f).sum

@[simp] theorem sm_nil {α : Type} (f : α → Int) : sm [] f = 0 := rfl
@[simp] theorem sm_cons {α : Type} (a : α) (l : List α) (f : α → Int) : sm (a :: l) f = f a + sm l f := by
  simp [sm]

theorem sm_append {α : Type} (l m : List α) (f : α → Int) : sm (l ++ m) f = sm l f + sm m f := by
  induction l with
  | nil => simp
  | cons a l ih => simp [ih]; omega

theorem sm_congr {α : Type} {l : List α} {f g : α → Int} (h : ∀ a, a ∈ l → f a = g a) : sm l f = sm l g := by
  induction l with
  | nil => rfl
  | cons a l ih =>
    rw [sm_cons, sm_cons, h a (by simp), ih (fun b hb => h b (by simp [hb]))]

theorem sm_add {α : Type} (l : List α) (f g : α → Int) : sm l (fun a => f a + g a) = sm l f + sm l g := by
  induction l with
  | nil => rfl
  | cons a l ih => simp only [sm_cons, ih]; omega

theorem sm_zero {α : Type} (l : List α) : sm l (fun _ => 0) = 0 := by
  induction l with
  | nil => rfl
  | cons a l ih => simp only [sm_cons, ih]; omega

theorem sm_one {α : Type} (l : List α) : sm l (fun _ => 1) = (l.length : Int) := by
  induction l with
  | nil => rfl
  | cons a l ih => simp only [sm_cons, ih, List.length_cons]; omega

theorem sm_mul {α : Type} (l : List α) (c : Int) (f : α → Int) : sm l (fun a => c * f a) = c * sm l f := by
  induction l with
  | nil => simp
  | cons a l ih => simp only [sm_cons, ih, Int.mul_add]

theorem sm_const {α : Type} (l : List α) (c : Int) : sm l (fun _ => c) = c * (l.length : Int) := by
  rw [← sm_one, ← sm_mul]; exact sm_congr (fun _ _ => by omega)

theorem sm_comm {α β : Type} (l : List α) (m : List β) (f : α → β → Int) :
    sm l (fun a => sm m (fun b => f a b)) = sm m (fun b => sm l (fun a => f a b)) := by
  induction l with
  | nil => simp [sm_zero]
  | cons a l ih => simp only [sm_cons, ih, sm_add]

/-- 1 where a thing holds, else 0 -/
noncomputable def ind (p : Prop) : Int := by classical exact if p then 1 else 0

theorem ind_t {p : Prop} (h : p) : ind p = 1 := by simp [ind, h]
theorem ind_f {p : Prop} (h : ¬ p) : ind p = 0 := by simp [ind, h]
theorem ind_congr {p q : Prop} (h : p ↔ q) : ind p = ind q := by rw [propext h]
theorem ind_cases (p : Prop) : (p ∧ ind p = 1) ∨ (¬ p ∧ ind p = 0) := by
  by_cases h : p
  · exact .inl ⟨h, ind_t h⟩
  · exact .inr ⟨h, ind_f h⟩
theorem ind_and (p q : Prop) : ind (p ∧ q) = ind p * ind q := by
  rcases ind_cases p with ⟨a, e⟩ | ⟨a, e⟩ <;> rcases ind_cases q with ⟨b, f⟩ | ⟨b, f⟩ <;> rw [e, f]
  · rw [ind_t ⟨a, b⟩]; rfl
  · rw [ind_f (fun h => b h.2)]; rfl
  · rw [ind_f (fun h => a h.1)]; rfl
  · rw [ind_f (fun h => a h.1)]; rfl
theorem ind_or {p q : Prop} (h : ¬ (p ∧ q)) : ind (p ∨ q) = ind p + ind q := by
  rcases ind_cases p with ⟨a, e⟩ | ⟨a, e⟩ <;> rcases ind_cases q with ⟨b, f⟩ | ⟨b, f⟩ <;> rw [e, f]
  · exact absurd ⟨a, b⟩ h
  · rw [ind_t (.inl a)]; rfl
  · rw [ind_t (.inr b)]; rfl
  · rw [ind_f (fun h => h.elim a b)]; rfl
theorem ind_not (p : Prop) : ind (¬ p) = 1 - ind p := by
  rcases ind_cases p with ⟨a, e⟩ | ⟨a, e⟩ <;> rw [e]
  · rw [ind_f (fun h => h a)]; rfl
  · rw [ind_t a]; rfl

/-- how many items of a list have a property -/
noncomputable def cnt {α : Type} (l : List α) (p : α → Prop) : Int := sm l (fun a => ind (p a))

theorem cnt_congr {α : Type} {l : List α} {p q : α → Prop} (h : ∀ a, a ∈ l → (p a ↔ q a)) : cnt l p = cnt l q :=
  sm_congr fun a ha => ind_congr (h a ha)

theorem cnt_nonneg {α : Type} (l : List α) (p : α → Prop) : 0 ≤ cnt l p := by
  induction l with
  | nil => simp [cnt]
  | cons a l ih =>
    show 0 ≤ sm (a :: l) _
    rw [sm_cons]
    have := ind_cases (p a)
    unfold cnt at ih
    omega

theorem cnt_zero {α : Type} {l : List α} {p : α → Prop} (h : ∀ a, a ∈ l → ¬ p a) : cnt l p = 0 := by
  unfold cnt
  rw [← sm_zero l]
  exact sm_congr fun a ha => ind_f (h a ha)

theorem cnt_pos {α : Type} {l : List α} {p : α → Prop} (h : cnt l p ≠ 0) : ∃ a, a ∈ l ∧ p a := by
  by_cases e : ∃ a, a ∈ l ∧ p a
  · exact e
  · exact absurd (cnt_zero fun a ha hp => e ⟨a, ha, hp⟩) h

theorem cnt_not {α : Type} (l : List α) (p : α → Prop) : cnt l (fun a => ¬ p a) = (l.length : Int) - cnt l p := by
  have h : cnt l (fun a => ¬ p a) + cnt l p = (l.length : Int) := by
    unfold cnt
    rw [← sm_add, ← sm_one]
    exact sm_congr fun a _ => by rw [ind_not]; omega
  omega

theorem sm_single {α : Type} {l : List α} (hn : l.Nodup) {p : α} (hp : p ∈ l) (f : α → Int) : sm l (fun a => ind (a = p) * f a) = f p := by
  induction l with
  | nil => simp at hp
  | cons b l ih =>
    rw [List.nodup_cons] at hn
    rw [sm_cons]
    by_cases e : b = p
    · subst e
      rw [ind_t rfl, show sm l (fun a => ind (a = b) * f a) = sm l (fun _ => 0) from sm_congr fun a ha => by
        rw [ind_f (show ¬ a = b from fun e => hn.1 (e ▸ ha))]; omega, sm_zero]
      omega
    · rw [ind_f e, ih hn.2 ((List.mem_cons.1 hp).resolve_left (fun h => e h.symm))]
      omega

theorem cnt_single {α : Type} {l : List α} (hn : l.Nodup) {p : α} (hp : p ∈ l) : cnt l (fun a => a = p) = 1 := by
  have := sm_single hn hp (fun _ => 1)
  unfold cnt
  rw [← this]
  exact sm_congr fun a _ => (Int.mul_one _).symm

theorem sm_erase {l : List Nat} (hn : l.Nodup) (p : Nat) (f : Nat → Int) : sm (l.erase p) f = sm l (fun a => ind (a ≠ p) * f a) := by
  induction l with
  | nil => rfl
  | cons b l ih =>
    rw [List.nodup_cons] at hn
    by_cases e : b = p
    · subst e
      rw [List.erase_cons_head, sm_cons, ind_f (fun h => h rfl)]
      rw [show sm l (fun a => ind (a ≠ b) * f a) = sm l f from sm_congr fun a ha => by
        rw [ind_t (show a ≠ b from fun e => hn.1 (e ▸ ha))]; omega]
      omega
    · rw [List.erase_cons_tail (by simpa using e), sm_cons, sm_cons, ih hn.2, ind_t e]
      omega

theorem cnt_erase {l : List Nat} (hn : l.Nodup) {p : Nat} (hp : p ∈ l) (q : Nat → Prop) : cnt (l.erase p) q = cnt l q - ind (q p) := by
  unfold cnt
  rw [sm_erase hn, ← sm_single hn hp (fun a => ind (q a))]
  have : sm l (fun a => ind (a ≠ p) * ind (q a)) + sm l (fun a => ind (a = p) * ind (q a)) = sm l (fun a => ind (q a)) := by
    rw [← sm_add]
    exact sm_congr fun a _ => by
      have := ind_not (a = p)
      rw [show (¬ a = p) = (a ≠ p) from rfl] at this
      rw [this]
      grind
  omega

theorem sm_unique {α : Type} {l : List α} (hn : l.Nodup) {P : α → Prop} (hu : ∀ S, S ∈ l → ∀ S', S' ∈ l → P S → P S' → S = S') :
    sm l (fun S => ind (P S)) = ind (∃ S, S ∈ l ∧ P S) := by
  by_cases h : ∃ S, S ∈ l ∧ P S
  · rw [ind_t h]
    obtain ⟨S, hS, hP⟩ := h
    rw [← cnt_single hn hS]
    exact sm_congr fun S' hS' => ind_congr ⟨fun h => hu S' hS' S hS h hP, fun h => h ▸ hP⟩
  · rw [ind_f h]
    exact cnt_zero fun a ha hp => h ⟨a, ha, hp⟩

/-- the least item of a list by an order that is total upon it -/
theorem least {α : Type} (le : α → α → Prop) : ∀ (l : List α), l ≠ [] → (∀ a b, a ∈ l → b ∈ l → le a b ∨ le b a) → (∀ a b c, a ∈ l → b ∈ l → c ∈ l → le a b → le b c → le a c) →
    ∃ m, m ∈ l ∧ ∀ d, d ∈ l → le m d
  | [], h, _, _ => absurd rfl h
  | [a], _, tot, _ => ⟨a, by simp, fun d hd => by
      have : d = a := by simpa using hd
      subst this
      exact (tot d d hd hd).elim id id⟩
  | a :: b :: r, _, tot, tr => by
    obtain ⟨m, hm, hl⟩ := least le (b :: r) (by simp) (fun x y hx hy => tot x y (List.mem_cons_of_mem _ hx) (List.mem_cons_of_mem _ hy))
      (fun x y z hx hy hz => tr x y z (List.mem_cons_of_mem _ hx) (List.mem_cons_of_mem _ hy) (List.mem_cons_of_mem _ hz))
    have ha : a ∈ a :: b :: r := by simp
    have hm' : m ∈ a :: b :: r := List.mem_cons_of_mem _ hm
    rcases tot a m ha hm' with h | h
    · refine ⟨a, ha, fun d hd => ?_⟩
      rcases List.mem_cons.1 hd with rfl | hd'
      · exact (tot d d hd hd).elim id id
      · exact tr _ _ _ ha hm' hd h (hl d hd')
    · refine ⟨m, hm', fun d hd => ?_⟩
      rcases List.mem_cons.1 hd with rfl | hd'
      · exact h
      · exact hl d hd'

/-- the least item among those with a property -/
theorem least_of {α : Type} (le : α → α → Prop) (l : List α) (p : α → Prop) (tot : ∀ a b, p a → p b → le a b ∨ le b a) (tr : ∀ a b c, p a → p b → p c → le a b → le b c → le a c)
    (h : ∃ a, a ∈ l ∧ p a) : ∃ m, m ∈ l ∧ p m ∧ ∀ d, d ∈ l → p d → le m d := by
  classical
  obtain ⟨a, ha, hp⟩ := h
  have mem : ∀ d, d ∈ l.filter (fun d => decide (p d)) ↔ d ∈ l ∧ p d := fun d => by simp
  obtain ⟨m, hm, hl⟩ := least le (l.filter (fun d => decide (p d))) (fun e => by
    have := (mem a).2 ⟨ha, hp⟩
    rw [e] at this
    simp at this) (fun x y hx hy => tot x y ((mem x).1 hx).2 ((mem y).1 hy).2) (fun x y z hx hy hz => tr x y z ((mem x).1 hx).2 ((mem y).1 hy).2 ((mem z).1 hz).2)
  exact ⟨m, ((mem m).1 hm).1, ((mem m).1 hm).2, fun d hd hpd => hl d ((mem d).2 ⟨hd, hpd⟩)⟩

/-- order of fractions with positive denominators -/
theorem frac_tr {a b c p q r : Int} (hp : 0 < p) (hq : 0 < q) (hr : 0 < r) (h1 : a * q ≤ b * p) (h2 : b * r ≤ c * q) : a * r ≤ c * p := by
  have e1 : (a * q) * r ≤ (b * p) * r := Int.mul_le_mul_of_nonneg_right h1 (Int.le_of_lt hr)
  have e2 : (b * r) * p ≤ (c * q) * p := Int.mul_le_mul_of_nonneg_right h2 (Int.le_of_lt hp)
  have e3 : q * (a * r) ≤ q * (c * p) := by grind
  exact Int.le_of_mul_le_mul_left e3 hq
theorem frac_tr_lt {a b c p q r : Int} (hp : 0 < p) (hq : 0 < q) (hr : 0 < r) (h1 : a * q < b * p) (h2 : b * r ≤ c * q) : a * r < c * p := by
  have e1 : (a * q) * r < (b * p) * r := Int.mul_lt_mul_of_pos_right h1 hr
  have e2 : (b * r) * p ≤ (c * q) * p := Int.mul_le_mul_of_nonneg_right h2 (Int.le_of_lt hp)
  have e3 : q * (a * r) < q * (c * p) := by grind
  exact Int.lt_of_mul_lt_mul_left e3 (Int.le_of_lt hq)
end Vk
namespace Vk
section
variable (tri : Nat → Nat → Nat → Prop) (ins : Nat → Nat → Nat → Nat → Prop) (lf : Nat → Nat → Nat → Prop)

/-- sorted triples with j points inside -/
noncomputable def cT (L : List Nat) (j : Int) : Int :=
  sm L fun a => sm L fun b => sm L fun c => ind (tri a b c ∧ cnt L (ins a b c) = j)
/-- ordered pairs with j points to the left -/
noncomputable def eT (L : List Nat) (j : Int) : Int :=
  sm L fun a => sm L fun b => ind (a ≠ b ∧ cnt L (lf a b) = j)

variable {tri ins lf}
theorem sm_mul3 {L : List Nat} (u : Int) (f : Nat → Int) : sm L (fun a => u * f a) = u * sm L f := sm_mul L u f

theorem ded_pt {n m j x pa pb pc : Int} {T : Prop} (hT : T) (hx : x = 0 ∨ x = 1) :
    ind (T ∧ m - x = j) = x * ind (m = j + 1) + (1 - x) * ind (m = j) := by
  rcases hx with rfl | rfl
  · rw [ind_congr (show (T ∧ m - 0 = j) ↔ m = j from ⟨fun h => by omega, fun h => ⟨hT, by omega⟩⟩)]; omega
  · rw [ind_congr (show (T ∧ m - 1 = j) ↔ m = j + 1 from ⟨fun h => by omega, fun h => ⟨hT, by omega⟩⟩)]; omega

theorem ind01 (p : Prop) : ind p = 0 ∨ ind p = 1 := by
  rcases ind_cases p with h | h <;> omega

theorem ind_ne (a p : Nat) : ind (a ≠ p) = 1 - ind (p = a) := by
  rw [← ind_not]; exact ind_congr ⟨fun h e => h e.symm, fun h e => h e.symm⟩

theorem ded_cT (htri : ∀ a b c, tri a b c → a ≠ b ∧ a ≠ c ∧ b ≠ c)
    (hins : ∀ a b c d, ins a b c d → d ≠ a ∧ d ≠ b ∧ d ≠ c) {L : List Nat} (hn : L.Nodup) (j : Int) :
    sm L (fun p => cT tri ins (L.erase p) j) = ((L.length : Int) - 3 - j) * cT tri ins L j + (j + 1) * cT tri ins L (j + 1) := by
  have e1 : ∀ p, p ∈ L → cT tri ins (L.erase p) j =
      sm L fun a => sm L fun b => sm L fun c => (ind (a ≠ p) * (ind (b ≠ p) * (ind (c ≠ p) * ind (tri a b c ∧ cnt L (ins a b c) - ind (ins a b c p) = j)))) := by
    intro p hp
    unfold cT
    rw [sm_erase hn]
    refine sm_congr fun a _ => ?_
    rw [sm_erase hn, ← sm_mul]
    refine sm_congr fun b _ => ?_
    rw [sm_erase hn, ← sm_mul, ← sm_mul]
    refine sm_congr fun c _ => ?_
    rw [cnt_erase hn hp]
  rw [sm_congr e1, sm_comm]
  unfold cT
  rw [← sm_mul, ← sm_mul, ← sm_add]
  refine sm_congr fun a ha => ?_
  rw [sm_comm, ← sm_mul, ← sm_mul, ← sm_add]
  refine sm_congr fun b hb => ?_
  rw [sm_comm, ← sm_mul, ← sm_mul, ← sm_add]
  refine sm_congr fun c hc => ?_
  by_cases T : tri a b c
  · obtain ⟨n1, n2, n3⟩ := htri a b c T
    have e2 : ∀ p, p ∈ L → (ind (a ≠ p) * (ind (b ≠ p) * (ind (c ≠ p) * ind (tri a b c ∧ cnt L (ins a b c) - ind (ins a b c p) = j)))) =
        (ind (cnt L (ins a b c) = j + 1) * ind (ins a b c p) + (ind (cnt L (ins a b c) = j) * 1 + (-ind (cnt L (ins a b c) = j)) * (ind (ins a b c p) + (ind (p = a) + (ind (p = b) + ind (p = c)))))) := by
      intro p _
      rw [ded_pt (n := 0) (pa := 0) (pb := 0) (pc := 0) T (ind01 _), ind_ne, ind_ne, ind_ne]
      by_cases h : ins a b c p
      · obtain ⟨m1, m2, m3⟩ := hins a b c p h
        rw [ind_t h, ind_f m1, ind_f m2, ind_f m3]
        grind
      · rw [ind_f h]
        by_cases h1 : p = a
        · rw [ind_t h1, ind_f (show ¬ p = b by omega), ind_f (show ¬ p = c by omega)]; grind
        · by_cases h2 : p = b
          · rw [ind_f h1, ind_t h2, ind_f (show ¬ p = c by omega)]; grind
          · by_cases h3 : p = c
            · rw [ind_f h1, ind_f h2, ind_t h3]; grind
            · rw [ind_f h1, ind_f h2, ind_f h3]; grind
    rw [sm_congr e2, sm_add, sm_add, sm_mul, sm_mul, sm_mul, sm_add, sm_add, sm_add, sm_one]
    have c1 := cnt_single hn ha
    have c2 := cnt_single hn hb
    have c3 := cnt_single hn hc
    have c4 : sm L (fun p => ind (ins a b c p)) = cnt L (ins a b c) := rfl
    unfold cnt at c1 c2 c3
    rw [c1, c2, c3, c4]
    generalize cnt L (ins a b c) = m
    rw [ind_congr (show (tri a b c ∧ m = j) ↔ m = j from ⟨fun h => h.2, fun h => ⟨T, h⟩⟩), ind_congr (show (tri a b c ∧ m = j + 1) ↔ m = j + 1 from ⟨fun h => h.2, fun h => ⟨T, h⟩⟩)]
    rcases ind_cases (m = j) with ⟨h, e⟩ | ⟨h, e⟩ <;> rcases ind_cases (m = j + 1) with ⟨h', e'⟩ | ⟨h', e'⟩ <;> rw [e, e'] <;> grind
  · rw [ind_f (fun h => T h.1), ind_f (fun h => T h.1), show sm L (fun p => (ind (a ≠ p) * (ind (b ≠ p) * (ind (c ≠ p) * ind (tri a b c ∧ cnt L (ins a b c) - ind (ins a b c p) = j))))) = sm L (fun _ => 0) from sm_congr fun p _ => by
      rw [ind_f (p := tri a b c ∧ _) (fun h => T h.1)]; grind, sm_zero]
    grind

theorem ded_eT (hlf : ∀ a b d, lf a b d → d ≠ a ∧ d ≠ b) {L : List Nat} (hn : L.Nodup) (j : Int) :
    sm L (fun p => eT lf (L.erase p) j) = ((L.length : Int) - 2 - j) * eT lf L j + (j + 1) * eT lf L (j + 1) := by
  have e1 : ∀ p, p ∈ L → eT lf (L.erase p) j =
      sm L fun a => sm L fun b => (ind (a ≠ p) * (ind (b ≠ p) * ind (a ≠ b ∧ cnt L (lf a b) - ind (lf a b p) = j))) := by
    intro p hp
    unfold eT
    rw [sm_erase hn]
    refine sm_congr fun a _ => ?_
    rw [sm_erase hn, ← sm_mul]
    refine sm_congr fun b _ => ?_
    rw [cnt_erase hn hp]
  rw [sm_congr e1, sm_comm]
  unfold eT
  rw [← sm_mul, ← sm_mul, ← sm_add]
  refine sm_congr fun a ha => ?_
  rw [sm_comm, ← sm_mul, ← sm_mul, ← sm_add]
  refine sm_congr fun b hb => ?_
  by_cases T : a ≠ b
  · have e2 : ∀ p, p ∈ L → (ind (a ≠ p) * (ind (b ≠ p) * ind (a ≠ b ∧ cnt L (lf a b) - ind (lf a b p) = j))) =
        (ind (cnt L (lf a b) = j + 1) * ind (lf a b p) + (ind (cnt L (lf a b) = j) * 1 + (-ind (cnt L (lf a b) = j)) * (ind (lf a b p) + (ind (p = a) + ind (p = b))))) := by
      intro p _
      rw [ded_pt (n := 0) (pa := 0) (pb := 0) (pc := 0) T (ind01 _), ind_ne, ind_ne]
      by_cases h : lf a b p
      · obtain ⟨m1, m2⟩ := hlf a b p h
        rw [ind_t h, ind_f m1, ind_f m2]
        grind
      · rw [ind_f h]
        by_cases h1 : p = a
        · rw [ind_t h1, ind_f (show ¬ p = b by omega)]; grind
        · by_cases h2 : p = b
          · rw [ind_f h1, ind_t h2]; grind
          · rw [ind_f h1, ind_f h2]; grind
    rw [sm_congr e2, sm_add, sm_add, sm_mul, sm_mul, sm_mul, sm_add, sm_add, sm_one]
    have c1 := cnt_single hn ha
    have c2 := cnt_single hn hb
    have c4 : sm L (fun p => ind (lf a b p)) = cnt L (lf a b) := rfl
    unfold cnt at c1 c2
    rw [c1, c2, c4]
    generalize cnt L (lf a b) = m
    rw [ind_congr (show (a ≠ b ∧ m = j) ↔ m = j from ⟨fun h => h.2, fun h => ⟨T, h⟩⟩), ind_congr (show (a ≠ b ∧ m = j + 1) ↔ m = j + 1 from ⟨fun h => h.2, fun h => ⟨T, h⟩⟩)]
    rcases ind_cases (m = j) with ⟨h, e⟩ | ⟨h, e⟩ <;> rcases ind_cases (m = j + 1) with ⟨h', e'⟩ | ⟨h', e'⟩ <;> rw [e, e'] <;> grind
  · rw [ind_f (fun h => T h.1), ind_f (fun h => T h.1), show sm L (fun p => (ind (a ≠ p) * (ind (b ≠ p) * ind (a ≠ b ∧ cnt L (lf a b) - ind (lf a b p) = j)))) = sm L (fun _ => 0) from sm_congr fun p _ => by
      rw [ind_f (p := a ≠ b ∧ _) (fun h => T h.1)]; grind, sm_zero]
    grind

theorem tele (n : Int) (E : Nat → Int) : ∀ k : Nat, sm (List.range k) (fun i => (n - 2 - (i : Int)) * E i + ((i : Int) + 1) * E (i + 1)) = (n - 2) * sm (List.range k) E + (k : Int) * E k
  | 0 => by simp
  | k + 1 => by
    rw [List.range_succ, sm_append, sm_append, tele n E k]
    simp only [sm_cons, sm_nil]
    have : ((k + 1 : Nat) : Int) = (k : Int) + 1 := by omega
    rw [this]
    grind

/-- circles and lines, by taking points away -/
theorem circles_lines (U : List Nat) (htri : ∀ a b c, tri a b c → a ≠ b ∧ a ≠ c ∧ b ≠ c)
    (hins : ∀ a b c d, ins a b c d → d ≠ a ∧ d ≠ b ∧ d ≠ c) (hlf : ∀ a b d, lf a b d → d ≠ a ∧ d ≠ b)
    (base : ∀ L : List Nat, L.Nodup → (∀ p, p ∈ L → p ∈ U) → 3 ≤ L.length → cT tri ins L 0 = 2 * (L.length : Int) - 2 - eT lf L 0) :
    ∀ (n : Nat) (L : List Nat), L.length = n → 2 ≤ n → L.Nodup → (∀ p, p ∈ L → p ∈ U) → ∀ k : Nat, 1 ≤ k → k ≤ n →
      cT tri ins L ((k : Int) - 1) + sm (List.range k) (fun i => eT lf L (i : Int)) = (k : Int) * (2 * (n : Int) - (k : Int) - 1)
  | 0, _, _, h, _, _, _, _, _ => by omega
  | 1, _, _, h, _, _, _, _, _ => by omega
  | 2, L, hl, _, hn, _, k, h1, h2 => by
    match L, hl, hn with
    | [u, v], _, hn =>
      have huv : u ≠ v := by simpa using hn
      have z : ∀ j, cT tri ins [u, v] j = 0 := by
        intro j
        unfold cT
        rw [← sm_zero [u, v]]
        refine sm_congr fun a ha => ?_
        rw [← sm_zero [u, v]]
        refine sm_congr fun b hb => ?_
        rw [← sm_zero [u, v]]
        refine sm_congr fun c hc => ?_
        refine ind_f fun h => ?_
        have := htri a b c h.1
        simp at ha hb hc
        omega
      have q : ∀ a b, (a = u ∨ a = v) → (b = u ∨ b = v) → a ≠ b → cnt [u, v] (lf a b) = 0 := by
        intro a b ha hb hab
        refine cnt_zero fun d hd h => ?_
        have := hlf a b d h
        simp at hd
        omega
      have e0 : eT lf [u, v] 0 = 2 := by
        unfold eT
        simp only [sm_cons, sm_nil]
        rw [ind_f (p := u ≠ u ∧ _) (fun h => h.1 rfl), ind_f (p := v ≠ v ∧ _) (fun h => h.1 rfl), ind_t ⟨huv, q u v (.inl rfl) (.inr rfl) huv⟩, ind_t ⟨huv.symm, q v u (.inr rfl) (.inl rfl) huv.symm⟩]
        omega
      have e1 : eT lf [u, v] 1 = 0 := by
        unfold eT
        simp only [sm_cons, sm_nil]
        rw [ind_f (p := u ≠ u ∧ _) (fun h => h.1 rfl), ind_f (p := v ≠ v ∧ _) (fun h => h.1 rfl), ind_f (p := u ≠ v ∧ _) (fun h => by
          rw [q u v (.inl rfl) (.inr rfl) huv] at h; omega), ind_f (p := v ≠ u ∧ _) (fun h => by
          rw [q v u (.inr rfl) (.inl rfl) huv.symm] at h; omega)]
        omega
      rw [z]
      have hk : k = 1 ∨ k = 2 := by omega
      rcases hk with rfl | rfl
      · show 0 + sm [0] _ = _
        simp only [sm_cons, sm_nil]
        show 0 + (eT lf [u, v] 0 + 0) = _
        rw [e0]; rfl
      · show 0 + sm [0, 1] _ = _
        simp only [sm_cons, sm_nil]
        show 0 + (eT lf [u, v] 0 + (eT lf [u, v] 1 + 0)) = _
        rw [e0, e1]; rfl
  | n + 3, L, hl, _, hn, hU, k, h1, h2 => by
    induction k with
    | zero => omega
    | succ k ih =>
      by_cases hk : k = 0
      · subst hk
        have b := base L hn hU (by omega)
        show cT tri ins L 0 + sm [0] _ = _
        simp only [sm_cons, sm_nil]
        show cT tri ins L 0 + (eT lf L 0 + 0) = _
        rw [b, hl]
        have : ((n + 3 : Nat) : Int) = (n : Int) + 3 := by omega
        rw [this]
        show _ = 1 * (2 * ((n : Int) + 3) - 1 - 1)
        omega
      · have ih := ih (by omega) (by omega)
        have IH : ∀ p, p ∈ L → cT tri ins (L.erase p) ((k : Int) - 1) + sm (List.range k) (fun i => eT lf (L.erase p) (i : Int)) = (k : Int) * (2 * ((n + 2 : Nat) : Int) - (k : Int) - 1) :=
          fun p hp => circles_lines U htri hins hlf base (n + 2) (L.erase p) (by rw [List.length_erase_of_mem hp]; omega) (by omega) (hn.erase p) (fun q hq => hU q (List.mem_of_mem_erase hq)) k (by omega) (by omega)
        have S := sm_congr IH
        rw [sm_add, ded_cT htri hins hn, sm_comm, sm_const, hl] at S
        rw [show sm (List.range k) (fun i => sm L fun p => eT lf (L.erase p) (i : Int)) = sm (List.range k) (fun i => (((n + 3 : Nat) : Int) - 2 - (i : Int)) * (fun i : Nat => eT lf L (i : Int)) i + ((i : Int) + 1) * (fun i : Nat => eT lf L (i : Int)) (i + 1)) from sm_congr fun i _ => by
          rw [ded_eT hlf hn, hl]; rfl, tele] at S
        rw [List.range_succ, sm_append]
        simp only [sm_cons, sm_nil]
        have c0 : ((k + 1 : Nat) : Int) = (k : Int) + 1 := by omega
        have c1 : ((n + 3 : Nat) : Int) = (n : Int) + 3 := by omega
        have c2 : ((n + 2 : Nat) : Int) = (n : Int) + 2 := by omega
        rw [c1, c2] at S
        rw [c1] at ih
        rw [c0, c1]
        rw [show (k : Int) - 1 + 1 = (k : Int) by omega] at S
        rw [show (k : Int) + 1 - 1 = (k : Int) by omega]
        generalize cT tri ins L ((k : Int) - 1) = x at *
        generalize cT tri ins L (k : Int) = y at *
        generalize sm (List.range k) (fun i => eT lf L (i : Int)) = E at *
        generalize eT lf L (k : Int) = e at *
        have hk' : (k : Int) ≠ 0 := by omega
        refine Int.eq_of_mul_eq_mul_left hk' ?_
        grind
end
end Vk
namespace Vk
/-- twice the signed area -/
def O (X Y : Nat → Int) (a b c : Nat) : Int := (X b - X a) * (Y c - Y a) - (X c - X a) * (Y b - Y a)
/-- six times the signed volume -/
def D (X Y Z : Nat → Int) (a b c d : Nat) : Int :=
  (Z d - Z a) * O X Y a b c - (Y d - Y a) * O X Z a b c + (X d - X a) * O Y Z a b c
def ins (X Y Z : Nat → Int) (a b c d : Nat) : Prop := D X Y Z a b c d * O X Y a b c < 0
def lo (X Y : Nat → Int) (s t d : Nat) : Prop := O X Y s t d * (X t - X s) < 0
/-- the slope of a plane: a fraction over a square -/
def wN (X Y Z : Nat → Int) (a b c : Nat) : Int := O X Z a b c * O X Y a b c
def wD (X Y : Nat → Int) (a b c : Nat) : Int := O X Y a b c * O X Y a b c
def blt (X Y Z : Nat → Int) (a b c a' b' c' : Nat) : Prop := wN X Y Z a b c * wD X Y a' b' c' < wN X Y Z a' b' c' * wD X Y a b c
def ble (X Y Z : Nat → Int) (a b c a' b' c' : Nat) : Prop := wN X Y Z a b c * wD X Y a' b' c' ≤ wN X Y Z a' b' c' * wD X Y a b c

theorem O_swap (X Y : Nat → Int) (a b c : Nat) : O X Y a c b = - O X Y a b c := by unfold O; grind
theorem O_swap' (X Y : Nat → Int) (a b c : Nat) : O X Y b a c = - O X Y a b c := by unfold O; grind
theorem O_rev (X Y : Nat → Int) (a b c : Nat) : O X Y c b a = - O X Y a b c := by unfold O; grind
theorem O_aa (X Y : Nat → Int) (a b : Nat) : O X Y a b a = 0 := by unfold O; grind
theorem O_bb (X Y : Nat → Int) (a b : Nat) : O X Y a b b = 0 := by unfold O; grind
theorem D_swap (X Y Z : Nat → Int) (a b c d : Nat) : D X Y Z a c b d = - D X Y Z a b c d := by unfold D O; grind
theorem D_swap' (X Y Z : Nat → Int) (a b c d : Nat) : D X Y Z b a c d = - D X Y Z a b c d := by unfold D O; grind
theorem D_a (X Y Z : Nat → Int) (a b c : Nat) : D X Y Z a b c a = 0 := by unfold D O; grind
theorem D_b (X Y Z : Nat → Int) (a b c : Nat) : D X Y Z a b c b = 0 := by unfold D O; grind
theorem D_c (X Y Z : Nat → Int) (a b c : Nat) : D X Y Z a b c c = 0 := by unfold D O; grind
theorem ins_swap (X Y Z : Nat → Int) (a b c d : Nat) : ins X Y Z a c b d ↔ ins X Y Z a b c d := by
  unfold ins; rw [O_swap, D_swap, Int.neg_mul_neg]
theorem ins_swap' (X Y Z : Nat → Int) (a b c d : Nat) : ins X Y Z b a c d ↔ ins X Y Z a b c d := by
  unfold ins; rw [O_swap', D_swap', Int.neg_mul_neg]
theorem ins_ne {X Y Z : Nat → Int} {a b c d : Nat} (h : ins X Y Z a b c d) : d ≠ a ∧ d ≠ b ∧ d ≠ c := by
  refine ⟨?_, ?_, ?_⟩ <;> rintro rfl <;> unfold ins at h
  · rw [D_a] at h; omega
  · rw [D_b] at h; omega
  · rw [D_c] at h; omega
theorem wN_swap (X Y Z : Nat → Int) (a b c : Nat) : wN X Y Z a c b = wN X Y Z a b c := by unfold wN; rw [O_swap X Y a b c, O_swap X Z a b c, Int.neg_mul_neg]
theorem wN_swap' (X Y Z : Nat → Int) (a b c : Nat) : wN X Y Z b a c = wN X Y Z a b c := by unfold wN; rw [O_swap' X Y a b c, O_swap' X Z a b c, Int.neg_mul_neg]
theorem wD_swap (X Y : Nat → Int) (a b c : Nat) : wD X Y a c b = wD X Y a b c := by unfold wD; rw [O_swap, Int.neg_mul_neg]
theorem wD_swap' (X Y : Nat → Int) (a b c : Nat) : wD X Y b a c = wD X Y a b c := by unfold wD; rw [O_swap', Int.neg_mul_neg]

theorem mp {a b : Int} (ha : a ≠ 0) (hb : b ≠ 0) : 0 < a * b ↔ (0 < a ↔ 0 < b) := by
  rcases Int.lt_or_gt_of_ne ha with h | h <;> rcases Int.lt_or_gt_of_ne hb with k | k
  · have := Int.mul_pos_of_neg_of_neg h k; grind
  · have := Int.mul_neg_of_neg_of_pos h k; grind
  · have := Int.mul_neg_of_pos_of_neg h k; grind
  · have := Int.mul_pos h k; grind
theorem mn {a b : Int} (ha : a ≠ 0) (hb : b ≠ 0) : a * b < 0 ↔ ¬ (0 < a ↔ 0 < b) := by
  rw [← mp ha hb]
  have : a * b ≠ 0 := Int.mul_ne_zero ha hb
  omega

/-- points in general position -/
structure GP (X Y Z : Nat → Int) (L : List Nat) : Prop where
  nd : L.Nodup
  hx : ∀ a b, a ∈ L → b ∈ L → a ≠ b → X a ≠ X b
  hO : ∀ a b c, a ∈ L → b ∈ L → c ∈ L → a ≠ b → a ≠ c → b ≠ c → O X Y a b c ≠ 0
  hD : ∀ a b c d, a ∈ L → b ∈ L → c ∈ L → d ∈ L → a ≠ b → a ≠ c → b ≠ c → d ≠ a → d ≠ b → d ≠ c → D X Y Z a b c d ≠ 0

section
variable {X Y Z : Nat → Int} {L : List Nat}

theorem blt_iff (s t u d : Nat) : blt X Y Z s t u s t d ↔ 0 < (X t - X s) * D X Y Z s t u d * (O X Y s t u * O X Y s t d) := by
  have e : (X t - X s) * D X Y Z s t u d * (O X Y s t u * O X Y s t d) = wN X Y Z s t d * wD X Y s t u - wN X Y Z s t u * wD X Y s t d := by
    have k : (X t - X s) * D X Y Z s t u d = O X Y s t u * O X Z s t d - O X Z s t u * O X Y s t d := by unfold D O; grind
    rw [k]
    unfold wN wD; grind
  rw [e]; unfold blt; omega

/-- which side of a plane, by the pencil of its edge -/
theorem GP.pencil (G : GP X Y Z L) {s t u d : Nat} (hs : s ∈ L) (ht : t ∈ L) (hu : u ∈ L) (hd : d ∈ L) (n1 : s ≠ t) (n2 : s ≠ u) (n3 : t ≠ u) (m1 : d ≠ s) (m2 : d ≠ t) (m3 : d ≠ u) :
    ins X Y Z s t u d ↔ (lo X Y s t d ↔ blt X Y Z s t u s t d) := by
  have h1 := G.hO s t u hs ht hu n1 n2 n3
  have h2 := G.hO s t d hs ht hd n1 m1.symm m2.symm
  have h3 := G.hD s t u d hs ht hu hd n1 n2 n3 m1 m2 m3
  have h4 : X t - X s ≠ 0 := by have := G.hx s t hs ht n1; omega
  rw [blt_iff]
  unfold ins lo
  rw [mn h3 h1, mn h2 h4, mp (Int.mul_ne_zero h4 h3) (Int.mul_ne_zero h1 h2), mp h4 h3, mp h1 h2]
  grind

theorem GP.wD_pos (G : GP X Y Z L) {a b c : Nat} (ha : a ∈ L) (hb : b ∈ L) (hc : c ∈ L) (n1 : a ≠ b) (n2 : a ≠ c) (n3 : b ≠ c) : 0 < wD X Y a b c := by
  have := G.hO a b c ha hb hc n1 n2 n3
  unfold wD
  rw [mp this this]

theorem GP.blt_tot (G : GP X Y Z L) {s t u d : Nat} (hs : s ∈ L) (ht : t ∈ L) (hu : u ∈ L) (hd : d ∈ L) (n1 : s ≠ t) (n2 : s ≠ u) (n3 : t ≠ u) (m1 : d ≠ s) (m2 : d ≠ t) (m3 : d ≠ u) :
    blt X Y Z s t u s t d ↔ ¬ blt X Y Z s t d s t u := by
  have h1 := G.hO s t u hs ht hu n1 n2 n3
  have h2 := G.hO s t d hs ht hd n1 m1.symm m2.symm
  have h3 := G.hD s t u d hs ht hu hd n1 n2 n3 m1 m2 m3
  have h4 : X t - X s ≠ 0 := by have := G.hx s t hs ht n1; omega
  have h5 : D X Y Z s t d u = - D X Y Z s t u d := by unfold D O; grind
  have h6 : D X Y Z s t d u ≠ 0 := by omega
  rw [blt_iff, blt_iff, mp (Int.mul_ne_zero h4 h3) (Int.mul_ne_zero h1 h2), mp (Int.mul_ne_zero h4 h6) (Int.mul_ne_zero h2 h1), mp h4 h3, mp h4 h6, mp h1 h2, mp h2 h1]
  grind

/-- a set meets a triple -/
structure Inc (X Y Z : Nat → Int) (L : List Nat) (S : Nat → Prop) (s t u : Nat) : Prop where
  hs : s ∈ L
  ht : t ∈ L
  hu : u ∈ L
  st : s ≠ t
  su : s ≠ u
  tu : t ≠ u
  ss : S s
  nt : ¬ S t
  rest : ∀ d, d ∈ L → d ≠ s → d ≠ t → d ≠ u → (S d ↔ ins X Y Z s t u d)

/-- a set lies below a line through two points -/
structure Low (X Y : Nat → Int) (L : List Nat) (S : Nat → Prop) (s t : Nat) : Prop where
  hs : s ∈ L
  ht : t ∈ L
  st : s ≠ t
  ss : S s
  nt : ¬ S t
  rest : ∀ d, d ∈ L → d ≠ s → d ≠ t → (S d ↔ lo X Y s t d)

/-- a set that looks like a lower set at each three points -/
def Qd (X Y : Nat → Int) (L : List Nat) (S : Nat → Prop) : Prop :=
  (∀ a b c, a ∈ L → b ∈ L → c ∈ L → X a < X b → X b < X c → S a → S c → ¬ S b → O X Y a b c < 0) ∧
  (∀ a b c, a ∈ L → b ∈ L → c ∈ L → X a < X b → X b < X c → ¬ S a → ¬ S c → S b → 0 < O X Y a b c)

/-- a set comes up at a triple -/
structure Birth (X Y Z : Nat → Int) (L : List Nat) (S : Nat → Prop) (a b c : Nat) : Prop where
  ha : a ∈ L
  hb : b ∈ L
  hc : c ∈ L
  ab : X a < X b
  bc : X b < X c
  rest : ∀ d, d ∈ L → d ≠ a → d ≠ b → d ≠ c → (S d ↔ ins X Y Z a b c d)
  kind : (S b ∧ ¬ S a ∧ ¬ S c ∧ O X Y a b c < 0) ∨ (S a ∧ S c ∧ ¬ S b ∧ 0 < O X Y a b c)

theorem ne_of_X {a b : Nat} (h : X a < X b) : a ≠ b := by rintro rfl; omega

theorem Qd.nobirth {S : Nat → Prop} (q : Qd X Y L S) {a b c : Nat} (B : Birth X Y Z L S a b c) : False := by
  rcases B.kind with ⟨h1, h2, h3, h4⟩ | ⟨h1, h2, h3, h4⟩
  · have := q.2 a b c B.ha B.hb B.hc B.ab B.bc h2 h3 h1
    omega
  · have := q.1 a b c B.ha B.hb B.hc B.ab B.bc h1 h2 h3
    omega

/-- weak separation from below -/
theorem Qd.of_ws (G : GP X Y Z L) {S : Nat → Prop} {p q r : Int} (hq : 0 < q) (h1 : ∀ d, d ∈ L → S d → p * X d + q * Y d + r ≤ 0) (h2 : ∀ d, d ∈ L → ¬ S d → 0 ≤ p * X d + q * Y d + r) : Qd X Y L S := by
  have key : ∀ a b c, (X c - X a) * (p * X b + q * Y b + r) - (X c - X b) * (p * X a + q * Y a + r) - (X b - X a) * (p * X c + q * Y c + r) = - (q * O X Y a b c) := by
    intro a b c; unfold O; grind
  refine ⟨fun a b c ha hb hc ab bc sa sc sb => ?_, fun a b c ha hb hc ab bc sa sc sb => ?_⟩
  · have k := key a b c
    have o := G.hO a b c ha hb hc (ne_of_X ab) (ne_of_X (Int.lt_trans ab bc)) (ne_of_X bc)
    have e1 := Int.mul_nonneg (show 0 ≤ X c - X a by omega) (h2 b hb sb)
    have e2 := Int.mul_nonneg (show 0 ≤ X c - X b by omega) (show 0 ≤ -(p * X a + q * Y a + r) by have := h1 a ha sa; omega)
    have e3 := Int.mul_nonneg (show 0 ≤ X b - X a by omega) (show 0 ≤ -(p * X c + q * Y c + r) by have := h1 c hc sc; omega)
    rw [Int.mul_neg] at e2 e3
    have e4 : q * O X Y a b c ≤ 0 := by omega
    have e5 : ¬ 0 < q * O X Y a b c := by omega
    rw [mp (by omega) o] at e5
    omega
  · have k := key a b c
    have o := G.hO a b c ha hb hc (ne_of_X ab) (ne_of_X (Int.lt_trans ab bc)) (ne_of_X bc)
    have e1 := Int.mul_nonneg (show 0 ≤ X c - X a by omega) (show 0 ≤ -(p * X b + q * Y b + r) by have := h1 b hb sb; omega)
    have e2 := Int.mul_nonneg (show 0 ≤ X c - X b by omega) (h2 a ha sa)
    have e3 := Int.mul_nonneg (show 0 ≤ X b - X a by omega) (h2 c hc sc)
    rw [Int.mul_neg] at e1
    have e4 : 0 ≤ q * O X Y a b c := by omega
    have e5 : ¬ q * O X Y a b c < 0 := by omega
    rw [mn (by omega) o] at e5
    have : 0 < q ↔ 0 < O X Y a b c := Classical.not_not.1 e5
    exact this.1 hq

theorem Low.qd (G : GP X Y Z L) {S : Nat → Prop} {s t : Nat} (W : Low X Y L S s t) : Qd X Y L S := by
  have h4 : X t - X s ≠ 0 := by have := G.hx s t W.hs W.ht W.st; omega
  have e : ∀ d, (-((X t - X s) * (Y t - Y s))) * X d + ((X t - X s) * (X t - X s)) * Y d + ((X t - X s) * (X s * (Y t - Y s) - (X t - X s) * Y s)) = O X Y s t d * (X t - X s) := by
    intro d; unfold O; grind
  refine Qd.of_ws G (p := -((X t - X s) * (Y t - Y s))) (q := (X t - X s) * (X t - X s)) (r := (X t - X s) * (X s * (Y t - Y s) - (X t - X s) * Y s)) ((mp h4 h4).2 Iff.rfl) (fun d hd sd => ?_) (fun d hd sd => ?_)
  · rw [e]
    by_cases h1 : d = s
    · rw [h1, O_aa]; omega
    · by_cases h2 : d = t
      · exact absurd (h2 ▸ sd) W.nt
      · have := (W.rest d hd h1 h2).1 sd
        unfold lo at this; omega
  · rw [e]
    by_cases h1 : d = s
    · exact absurd W.ss (h1 ▸ sd)
    · by_cases h2 : d = t
      · rw [h2, O_bb]; omega
      · have := mt (W.rest d hd h1 h2).2 sd
        unfold lo at this; omega

/-- down the pencil -/
theorem Inc.down (G : GP X Y Z L) {S : Nat → Prop} {s t u : Nat} (I : Inc X Y Z L S s t u) (hc : S u ↔ lo X Y s t u) :
    Qd X Y L S ∨ ∃ d, Inc X Y Z L S s t d ∧ blt X Y Z s t d s t u := by
  by_cases hX : ∃ d, d ∈ L ∧ (d ≠ s ∧ d ≠ t ∧ d ≠ u ∧ d ∈ L ∧ blt X Y Z s t d s t u)
  · right
    obtain ⟨d, hd, ⟨d1, d2, d3, _, db⟩, dm⟩ := least_of (fun d e => ¬ blt X Y Z s t d s t e) L (fun d => d ≠ s ∧ d ≠ t ∧ d ≠ u ∧ d ∈ L ∧ blt X Y Z s t d s t u)
      (fun a b ha hb => by unfold blt; omega)
      (fun a b c ha hb hc h1 h2 => by
        have p1 := G.wD_pos I.hs I.ht ha.2.2.2.1 I.st ha.1.symm ha.2.1.symm
        have p2 := G.wD_pos I.hs I.ht hb.2.2.2.1 I.st hb.1.symm hb.2.1.symm
        have p3 := G.wD_pos I.hs I.ht hc.2.2.2.1 I.st hc.1.symm hc.2.1.symm
        unfold blt at *
        have := frac_tr p3 p2 p1 (Int.not_lt.1 h2) (Int.not_lt.1 h1)
        omega) hX
    refine ⟨d, ⟨I.hs, I.ht, hd, I.st, d1.symm, d2.symm, I.ss, I.nt, fun e he e1 e2 e3 => ?_⟩, db⟩
    rw [G.pencil I.hs I.ht hd he I.st d1.symm d2.symm e1 e2 e3]
    by_cases eu : e = u
    · subst eu
      rw [hc]
      exact ⟨fun h => ⟨fun _ => db, fun _ => h⟩, fun h => h.2 db⟩
    · rw [I.rest e he e1 e2 eu, G.pencil I.hs I.ht I.hu he I.st I.su I.tu e1 e2 eu]
      by_cases hb : blt X Y Z s t e s t u
      · have f1 : ¬ blt X Y Z s t u s t e := by unfold blt at *; omega
        have f2 := dm e he ⟨e1, e2, eu, he, hb⟩
        exact ⟨fun h => ⟨fun l => absurd (h.1 l) f1, fun b => absurd b f2⟩, fun h => ⟨fun l => absurd (h.1 l) f2, fun b => absurd b f1⟩⟩
      · have f1 : blt X Y Z s t u s t e := by
          rw [G.blt_tot I.hs I.ht I.hu he I.st I.su I.tu e1 e2 eu]; exact hb
        have f2 : blt X Y Z s t d s t e := by
          unfold blt at *
          exact frac_tr_lt (G.wD_pos I.hs I.ht hd I.st d1.symm d2.symm) (G.wD_pos I.hs I.ht I.hu I.st I.su I.tu) (G.wD_pos I.hs I.ht he I.st e1.symm e2.symm) db (Int.le_of_lt f1)
        exact ⟨fun h => ⟨fun _ => f2, fun _ => h.2 f1⟩, fun h => ⟨fun _ => f1, fun _ => h.2 f2⟩⟩
  · left
    refine Low.qd G (s := s) (t := t) ⟨I.hs, I.ht, I.st, I.ss, I.nt, fun d hd d1 d2 => ?_⟩
    by_cases du : d = u
    · rw [du]; exact hc
    · rw [I.rest d hd d1 d2 du, G.pencil I.hs I.ht I.hu hd I.st I.su I.tu d1 d2 du]
      have f1 : blt X Y Z s t u s t d := by
        rw [G.blt_tot I.hs I.ht I.hu hd I.st I.su I.tu d1 d2 du]
        exact fun h => hX ⟨d, hd, d1, d2, du, hd, h⟩
      exact ⟨fun h => h.2 f1, fun h => ⟨fun _ => f1, fun _ => h⟩⟩

theorem Inc.swap {S : Nat → Prop} {s t u : Nat} (I : Inc X Y Z L S s t u) (h : ¬ S u) : Inc X Y Z L S s u t :=
  ⟨I.hs, I.hu, I.ht, I.su, I.st, I.tu.symm, I.ss, h, fun d hd d1 d2 d3 => by rw [ins_swap]; exact I.rest d hd d1 d3 d2⟩
theorem Inc.swap' {S : Nat → Prop} {s t u : Nat} (I : Inc X Y Z L S s t u) (h : S u) : Inc X Y Z L S u t s :=
  ⟨I.hu, I.ht, I.hs, I.tu.symm, I.su.symm, I.st.symm, h, I.nt, fun d hd d1 d2 d3 => by
    rw [ins_swap, ins_swap', ins_swap]; exact I.rest d hd d3 d2 d1⟩

/-- a set that meets a triple comes up somewhere, or is a lower set -/
theorem Inc.birth (G : GP X Y Z L) {S : Nat → Prop} {s₀ t₀ u₀ : Nat} (I₀ : Inc X Y Z L S s₀ t₀ u₀) :
    Qd X Y L S ∨ ∃ a b c, Birth X Y Z L S a b c := by
  have mem : ∀ a b c, a ∈ L → b ∈ L → c ∈ L → (a, b, c) ∈ L.flatMap (fun a => L.flatMap fun b => L.map fun c => (a, b, c)) := by
    intro a b c ha hb hc
    exact List.mem_flatMap.2 ⟨a, ha, List.mem_flatMap.2 ⟨b, hb, List.mem_map.2 ⟨c, hc, rfl⟩⟩⟩
  obtain ⟨⟨s, t, u⟩, _, I, mi⟩ := least_of (fun T T' : Nat × Nat × Nat => ble X Y Z T.1 T.2.1 T.2.2 T'.1 T'.2.1 T'.2.2) (L.flatMap (fun a => L.flatMap fun b => L.map fun c => (a, b, c)))
    (fun T => Inc X Y Z L S T.1 T.2.1 T.2.2) (fun a b _ _ => by unfold ble; omega)
    (fun a b c ha hb hc h1 h2 => by
      unfold ble at *
      exact frac_tr (G.wD_pos ha.hs ha.ht ha.hu ha.st ha.su ha.tu) (G.wD_pos hb.hs hb.ht hb.hu hb.st hb.su hb.tu) (G.wD_pos hc.hs hc.ht hc.hu hc.st hc.su hc.tu) h1 h2)
    ⟨(s₀, t₀, u₀), mem _ _ _ I₀.hs I₀.ht I₀.hu, I₀⟩
  dsimp only at I mi
  have o := G.hO s t u I.hs I.ht I.hu I.st I.su I.tu
  have xt : X t - X s ≠ 0 := by have := G.hx s t I.hs I.ht I.st; omega
  have xu : X u - X s ≠ 0 := by have := G.hx s u I.hs I.hu I.su; omega
  have tu : X t - X u ≠ 0 := by have := G.hx t u I.ht I.hu I.tu; omega
  by_cases su : S u
  · by_cases c1 : lo X Y s t u
    · rcases I.down G ⟨fun _ => c1, fun _ => su⟩ with h | ⟨d, J, b⟩
      · exact .inl h
      · have := mi (s, t, d) (mem _ _ _ J.hs J.ht J.hu) J
        unfold ble at this; unfold blt at b; dsimp only at this; omega
    · by_cases c2 : lo X Y u t s
      · rcases (I.swap' su).down G ⟨fun _ => c2, fun _ => I.ss⟩ with h | ⟨d, J, b⟩
        · exact .inl h
        · have := mi (u, t, d) (mem _ _ _ J.hs J.ht J.hu) J
          unfold ble at this; unfold blt at b; dsimp only at this
          rw [wN_swap X Y Z u s t, wN_swap' X Y Z s u t, wN_swap X Y Z s t u, wD_swap X Y u s t, wD_swap' X Y s u t, wD_swap X Y s t u] at b
          omega
      · right
        unfold lo at c1 c2
        rw [show O X Y u t s = - O X Y s t u from O_rev _ _ _ _ _, Int.neg_mul] at c2
        rw [mn o xt] at c1
        have c2' : ¬ 0 < O X Y s t u * (X t - X u) := by omega
        rw [mp o tu] at c2'
        by_cases op : 0 < O X Y s t u
        · exact ⟨s, t, u, I.hs, I.ht, I.hu, by omega, by omega, I.rest, .inr ⟨I.ss, su, I.nt, op⟩⟩
        · refine ⟨u, t, s, I.hu, I.ht, I.hs, by omega, by omega, (I.swap' su).rest, .inr ⟨su, I.ss, I.nt, ?_⟩⟩
          rw [show O X Y u t s = - O X Y s t u from O_rev _ _ _ _ _]; omega
  · by_cases c1 : lo X Y s t u
    · by_cases c2 : lo X Y s u t
      · right
        unfold lo at c1 c2
        rw [O_swap, Int.neg_mul] at c2
        rw [mn o xt] at c1
        have c2' : 0 < O X Y s t u * (X u - X s) := by omega
        rw [mp o xu] at c2'
        by_cases op : 0 < O X Y s t u
        · refine ⟨t, s, u, I.ht, I.hs, I.hu, by omega, by omega, fun d hd d1 d2 d3 => ?_, .inl ⟨I.ss, I.nt, su, ?_⟩⟩
          · rw [ins_swap']; exact I.rest d hd d2 d1 d3
          · rw [O_swap']; omega
        · refine ⟨u, s, t, I.hu, I.hs, I.ht, by omega, by omega, fun d hd d1 d2 d3 => ?_, .inl ⟨I.ss, su, I.nt, ?_⟩⟩
          · rw [ins_swap', ins_swap]; exact I.rest d hd d2 d3 d1
          · rw [O_swap', O_swap]; omega
      · rcases (I.swap su).down G ⟨fun h => absurd h I.nt, fun h => absurd h c2⟩ with h | ⟨d, J, b⟩
        · exact .inl h
        · have := mi (s, u, d) (mem _ _ _ J.hs J.ht J.hu) J
          unfold ble at this; unfold blt at b; dsimp only at this
          rw [wN_swap X Y Z s t u, wD_swap X Y s t u] at b
          omega
    · rcases I.down G ⟨fun h => absurd h su, fun h => absurd h c1⟩ with h | ⟨d, J, b⟩
      · exact .inl h
      · have := mi (s, t, d) (mem _ _ _ J.hs J.ht J.hu) J
        unfold ble at this; unfold blt at b; dsimp only at this; omega

/-- a lower set meets a triple -/
theorem Low.inc (G : GP X Y Z L) {S : Nat → Prop} {s t : Nat} (W : Low X Y L S s t) (h : ∃ d, d ∈ L ∧ d ≠ s ∧ d ≠ t) : ∃ u, Inc X Y Z L S s t u := by
  obtain ⟨d₀, h0, h1, h2⟩ := h
  obtain ⟨u, hu, ⟨u1, u2, _⟩, um⟩ := least_of (fun d e => ble X Y Z s t d s t e) L (fun d => d ≠ s ∧ d ≠ t ∧ d ∈ L)
    (fun a b ha hb => by unfold ble; omega)
    (fun a b c ha hb hc h1 h2 => by
      have p1 := G.wD_pos W.hs W.ht ha.2.2 W.st ha.1.symm ha.2.1.symm
      have p2 := G.wD_pos W.hs W.ht hb.2.2 W.st hb.1.symm hb.2.1.symm
      have p3 := G.wD_pos W.hs W.ht hc.2.2 W.st hc.1.symm hc.2.1.symm
      unfold ble at *
      exact frac_tr p1 p2 p3 h1 h2) ⟨d₀, h0, h1, h2, h0⟩
  refine ⟨u, W.hs, W.ht, hu, W.st, u1.symm, u2.symm, W.ss, W.nt, fun d hd d1 d2 d3 => ?_⟩
  rw [G.pencil W.hs W.ht hu hd W.st u1.symm u2.symm d1 d2 d3, W.rest d hd d1 d2]
  have f1 : blt X Y Z s t u s t d := by
    rw [G.blt_tot W.hs W.ht hu hd W.st u1.symm u2.symm d1 d2 d3]
    have := um d hd ⟨d1, d2, hd⟩
    unfold ble at this; unfold blt; omega
  exact ⟨fun h => ⟨fun _ => f1, fun _ => h⟩, fun h => h.2 f1⟩

/-- the extreme pair of a lower set, seen from the right -/
theorem Qd.low (G : GP X Y Z L) {S : Nat → Prop} (q : Qd X Y L S) (h : ∃ s t, s ∈ L ∧ t ∈ L ∧ S s ∧ ¬ S t ∧ X t < X s) :
    ∃ s t, Low X Y L S s t ∧ X t < X s := by
  obtain ⟨s₀, t₀, h1, h2, h3, h4, h5⟩ := h
  obtain ⟨⟨s, t⟩, _, ⟨hs, ht, ss, nt, xx⟩, ma⟩ := least_of (fun T T' : Nat × Nat => (Y T'.1 - Y T'.2) * (X T.1 - X T.2) ≤ (Y T.1 - Y T.2) * (X T'.1 - X T'.2))
    (L.flatMap fun a => L.map fun b => (a, b)) (fun T => T.1 ∈ L ∧ T.2 ∈ L ∧ S T.1 ∧ ¬ S T.2 ∧ X T.2 < X T.1)
    (fun a b _ _ => by omega)
    (fun a b c ha hb hc h1 h2 => frac_tr (by have := hc.2.2.2.2; omega) (by have := hb.2.2.2.2; omega) (by have := ha.2.2.2.2; omega) h2 h1)
    ⟨(s₀, t₀), by simp [h1, h2], h1, h2, h3, h4, h5⟩
  dsimp only at hs ht ss nt xx ma
  have mem : ∀ a b, a ∈ L → b ∈ L → (a, b) ∈ (L.flatMap fun a => L.map fun b => (a, b)) := by
    intro a b ha hb; simp [ha, hb]
  have st : s ≠ t := (ne_of_X xx).symm
  refine ⟨s, t, ⟨hs, ht, st, ss, nt, fun d hd d1 d2 => ?_⟩, xx⟩
  have o := G.hO s t d hs ht hd st d1.symm d2.symm
  have key : lo X Y s t d ↔ 0 < O X Y s t d := by
    unfold lo
    rw [mn o (by omega)]
    omega
  rw [key]
  by_cases sd : S d
  · refine ⟨fun _ => ?_, fun _ => sd⟩
    have hx := G.hx d t hd ht d2
    by_cases dt : X t < X d
    · have := ma (d, t) (mem _ _ hd ht) ⟨hd, ht, sd, nt, dt⟩
      dsimp only at this
      have e : O X Y s t d = (Y s - Y t) * (X d - X t) - (Y d - Y t) * (X s - X t) := by unfold O; grind
      omega
    · have := q.1 d t s hd ht hs (by omega) xx sd ss nt
      rw [O_rev X Y s t d] at this
      omega
  · refine ⟨fun h => absurd h sd, fun h => ?_⟩
    have hx := G.hx d s hd hs d1
    by_cases ds : X d < X s
    · have := ma (s, d) (mem _ _ hs hd) ⟨hs, hd, ss, sd, ds⟩
      dsimp only at this
      have e : O X Y s t d = (Y s - Y d) * (X s - X t) - (Y s - Y t) * (X s - X d) := by unfold O; grind
      omega
    · have := q.2 t s d ht hs hd xx (by omega) nt sd ss
      rw [O_swap'] at this
      omega
end
end Vk
namespace Vk
section
variable {X Y Z : Nat → Int} {L : List Nat}

/-- the height over a plane is affine -/
theorem aff (X Y Z : Nat → Int) (a b c : Nat) : ∃ α β γ : Int, ∀ d, D X Y Z a b c d * O X Y a b c = wD X Y a b c * Z d + α * X d + β * Y d + γ :=
  ⟨O Y Z a b c * O X Y a b c, - (O X Z a b c * O X Y a b c), (- (Z a * O X Y a b c) + Y a * O X Z a b c - X a * O Y Z a b c) * O X Y a b c, fun d => by
    unfold D wD; grind⟩

theorem Birth.val (G : GP X Y Z L) {S : Nat → Prop} {a b c : Nat} (B : Birth X Y Z L S a b c) {d : Nat} (hd : d ∈ L) :
    (S d → D X Y Z a b c d * O X Y a b c ≤ 0) ∧ (¬ S d → 0 ≤ D X Y Z a b c d * O X Y a b c) ∧ (D X Y Z a b c d * O X Y a b c = 0 → d = a ∨ d = b ∨ d = c) := by
  have ab := ne_of_X B.ab
  have bc := ne_of_X B.bc
  have ac := ne_of_X (Int.lt_trans B.ab B.bc)
  by_cases h1 : d = a
  · rw [h1, D_a]; refine ⟨fun _ => by omega, fun _ => by omega, fun _ => .inl rfl⟩
  by_cases h2 : d = b
  · rw [h2, D_b]; refine ⟨fun _ => by omega, fun _ => by omega, fun _ => .inr (.inl rfl)⟩
  by_cases h3 : d = c
  · rw [h3, D_c]; refine ⟨fun _ => by omega, fun _ => by omega, fun _ => .inr (.inr rfl)⟩
  have r := B.rest d hd h1 h2 h3
  unfold ins at r
  refine ⟨fun h => Int.le_of_lt (r.1 h), fun h => Int.not_lt.1 (mt r.2 h), fun h => ?_⟩
  exact absurd h (Int.mul_ne_zero (G.hD a b c d B.ha B.hb B.hc hd ab ac bc h1 h2 h3) (G.hO a b c B.ha B.hb B.hc ab ac bc))

theorem Birth.side (G : GP X Y Z L) {S : Nat → Prop} {a b c : Nat} (B : Birth X Y Z L S a b c) {p q r : Int} {M : Nat → Int} (hM : ∀ d, M d = p * X d + q * Y d + r)
    (h1 : ∀ d, d ∈ L → (d = a ∨ d = b ∨ d = c) → S d → 0 ≤ M d) (h2 : ∀ d, d ∈ L → (d = a ∨ d = b ∨ d = c) → ¬ S d → M d ≤ 0) :
    0 ≤ q ∧ (q = 0 → M a = 0 ∧ M b = 0 ∧ M c = 0) := by
  have key : (X c - X a) * M b - (X c - X b) * M a - (X b - X a) * M c = q * (- O X Y a b c) := by
    rw [hM, hM, hM]; unfold O; grind
  have x1 := B.ab
  have x2 := B.bc
  have z : ∀ {x y : Int}, 0 < x → x * y = 0 → y = 0 := fun hx h => (Int.mul_eq_zero.1 h).resolve_left (by omega)
  rcases B.kind with ⟨s1, s2, s3, o⟩ | ⟨s1, s2, s3, o⟩
  · have m1 := h1 b B.hb (.inr (.inl rfl)) s1
    have m2 := h2 a B.ha (.inl rfl) s2
    have m3 := h2 c B.hc (.inr (.inr rfl)) s3
    have e1 := Int.mul_nonneg (show 0 ≤ X c - X a by omega) m1
    have e2 := Int.mul_nonneg (show 0 ≤ X c - X b by omega) (show 0 ≤ - M a by omega)
    have e3 := Int.mul_nonneg (show 0 ≤ X b - X a by omega) (show 0 ≤ - M c by omega)
    rw [Int.mul_neg] at e2 e3
    refine ⟨?_, fun hq => ?_⟩
    · have e4 : 0 ≤ q * (- O X Y a b c) := by omega
      exact Int.le_of_mul_le_mul_right (by omega : 0 * (- O X Y a b c) ≤ q * (- O X Y a b c)) (by omega)
    · rw [hq, Int.zero_mul] at key
      have z1 : (X c - X a) * M b = 0 := by omega
      have z2 : (X c - X b) * M a = 0 := by omega
      have z3 : (X b - X a) * M c = 0 := by omega
      exact ⟨z (by omega) z2, z (by omega) z1, z (by omega) z3⟩
  · have m1 := h2 b B.hb (.inr (.inl rfl)) s3
    have m2 := h1 a B.ha (.inl rfl) s1
    have m3 := h1 c B.hc (.inr (.inr rfl)) s2
    have e1 := Int.mul_nonneg (show 0 ≤ X c - X a by omega) (show 0 ≤ - M b by omega)
    have e2 := Int.mul_nonneg (show 0 ≤ X c - X b by omega) m2
    have e3 := Int.mul_nonneg (show 0 ≤ X b - X a by omega) m3
    rw [Int.mul_neg] at e1
    refine ⟨?_, fun hq => ?_⟩
    · have e4 : 0 ≤ q * (O X Y a b c) := by rw [Int.mul_neg] at key; omega
      exact Int.le_of_mul_le_mul_right (by omega : 0 * (O X Y a b c) ≤ q * (O X Y a b c)) (by omega)
    · rw [hq, Int.zero_mul] at key
      have z1 : (X c - X a) * M b = 0 := by omega
      have z2 : (X c - X b) * M a = 0 := by omega
      have z3 : (X b - X a) * M c = 0 := by omega
      exact ⟨z (by omega) z2, z (by omega) z1, z (by omega) z3⟩

/-- a set comes up at one triple alone -/
theorem Birth.uniq (G : GP X Y Z L) {S : Nat → Prop} {a b c a' b' c' : Nat} (B : Birth X Y Z L S a b c) (B' : Birth X Y Z L S a' b' c') : a = a' ∧ b = b' ∧ c = c' := by
  obtain ⟨α, β, γ, e⟩ := aff X Y Z a b c
  obtain ⟨α', β', γ', e'⟩ := aff X Y Z a' b' c'
  have l0 := G.wD_pos B.ha B.hb B.hc (ne_of_X B.ab) (ne_of_X (Int.lt_trans B.ab B.bc)) (ne_of_X B.bc)
  have l0' := G.wD_pos B'.ha B'.hb B'.hc (ne_of_X B'.ab) (ne_of_X (Int.lt_trans B'.ab B'.bc)) (ne_of_X B'.bc)
  let f : Nat → Int := fun d => D X Y Z a b c d * O X Y a b c
  let f' : Nat → Int := fun d => D X Y Z a' b' c' d * O X Y a' b' c'
  have fz : ∀ d, (d = a ∨ d = b ∨ d = c) → f d = 0 := by
    rintro d (rfl | rfl | rfl)
    · show D X Y Z d b c d * O X Y d b c = 0; rw [D_a]; omega
    · show D X Y Z a d c d * O X Y a d c = 0; rw [D_b]; omega
    · show D X Y Z a b d d * O X Y a b d = 0; rw [D_c]; omega
  have fz' : ∀ d, (d = a' ∨ d = b' ∨ d = c') → f' d = 0 := by
    rintro d (rfl | rfl | rfl)
    · show D X Y Z d b' c' d * O X Y d b' c' = 0; rw [D_a]; omega
    · show D X Y Z a' d c' d * O X Y a' d c' = 0; rw [D_b]; omega
    · show D X Y Z a' b' d d * O X Y a' b' d = 0; rw [D_c]; omega
  have v := fun d (hd : d ∈ L) => B.val G hd
  have v' := fun d (hd : d ∈ L) => B'.val G hd
  have s1 := B.side G (M := fun d => wD X Y a' b' c' * f d - wD X Y a b c * f' d) (p := wD X Y a' b' c' * α - wD X Y a b c * α') (q := wD X Y a' b' c' * β - wD X Y a b c * β') (r := wD X Y a' b' c' * γ - wD X Y a b c * γ')
    (fun d => by show _ * (D X Y Z a b c d * O X Y a b c) - _ * (D X Y Z a' b' c' d * O X Y a' b' c') = _; rw [e, e']; grind)
    (fun d hd h sd => by
      show 0 ≤ wD X Y a' b' c' * f d - wD X Y a b c * f' d
      rw [fz d h]
      have := Int.mul_nonneg (Int.le_of_lt l0) (show 0 ≤ - f' d by have := (v' d hd).1 sd; show 0 ≤ - (D X Y Z a' b' c' d * O X Y a' b' c'); omega)
      rw [Int.mul_neg] at this; omega)
    (fun d hd h sd => by
      show wD X Y a' b' c' * f d - wD X Y a b c * f' d ≤ 0
      rw [fz d h]
      have := Int.mul_nonneg (Int.le_of_lt l0) (show 0 ≤ f' d from (v' d hd).2.1 sd)
      omega)
  have s2 := B'.side G (M := fun d => wD X Y a b c * f' d - wD X Y a' b' c' * f d) (p := wD X Y a b c * α' - wD X Y a' b' c' * α) (q := wD X Y a b c * β' - wD X Y a' b' c' * β) (r := wD X Y a b c * γ' - wD X Y a' b' c' * γ)
    (fun d => by show _ * (D X Y Z a' b' c' d * O X Y a' b' c') - _ * (D X Y Z a b c d * O X Y a b c) = _; rw [e, e']; grind)
    (fun d hd h sd => by
      show 0 ≤ wD X Y a b c * f' d - wD X Y a' b' c' * f d
      rw [fz' d h]
      have := Int.mul_nonneg (Int.le_of_lt l0') (show 0 ≤ - f d by have := (v d hd).1 sd; show 0 ≤ - (D X Y Z a b c d * O X Y a b c); omega)
      rw [Int.mul_neg] at this; omega)
    (fun d hd h sd => by
      show wD X Y a b c * f' d - wD X Y a' b' c' * f d ≤ 0
      rw [fz' d h]
      have := Int.mul_nonneg (Int.le_of_lt l0') (show 0 ≤ f d from (v d hd).2.1 sd)
      omega)
  have q0 : wD X Y a' b' c' * β - wD X Y a b c * β' = 0 := by
    have := s1.1; have := s2.1; omega
  have m := s1.2 q0
  have fin : ∀ d, d ∈ L → (d = a ∨ d = b ∨ d = c) → wD X Y a' b' c' * f d - wD X Y a b c * f' d = 0 → (d = a' ∨ d = b' ∨ d = c') := by
    intro d hd h hm
    rw [fz d h] at hm
    refine (v' d hd).2.2 ?_
    show f' d = 0
    have : wD X Y a b c * f' d = 0 := by omega
    exact (Int.mul_eq_zero.1 this).resolve_left (by omega)
  have ha := fin a B.ha (.inl rfl) m.1
  have hb := fin b B.hb (.inr (.inl rfl)) m.2.1
  have hc := fin c B.hc (.inr (.inr rfl)) m.2.2
  have := B.ab; have := B.bc; have := B'.ab; have := B'.bc
  rcases ha with rfl | rfl | rfl <;> rcases hb with rfl | rfl | rfl <;> rcases hc with rfl | rfl | rfl <;> first | exact ⟨rfl, rfl, rfl⟩ | omega

/-- a set is to the left of a tangent, but for one point -/
structure Lt (X Y : Nat → Int) (L : List Nat) (S : Nat → Prop) (s t : Nat) : Prop where
  hs : s ∈ L
  ht : t ∈ L
  st : s ≠ t
  ss : S s
  nt : ¬ S t
  rest : ∀ d, d ∈ L → d ≠ s → d ≠ t → (S d ↔ 0 < O X Y s t d)

theorem Lt.uniq (G : GP X Y Z L) {S : Nat → Prop} {s t s' t' : Nat} (A : Lt X Y L S s t) (B : Lt X Y L S s' t') : s = s' ∧ t = t' := by
  have i : O X Y t s' t' - O X Y s s' t' + O X Y s t t' - O X Y s t s' = 0 := by unfold O; grind
  have c1 : O X Y s' t' t = O X Y t s' t' := by unfold O; grind
  have c2 : O X Y s' t' s = O X Y s s' t' := by unfold O; grind
  have st' : s ≠ t' := fun h => B.nt (h ▸ A.ss)
  have ts' : t ≠ s' := fun h => A.nt (h ▸ B.ss)
  by_cases h1 : s = s'
  · subst h1
    by_cases h2 : t = t'
    · exact ⟨rfl, h2⟩
    · have a1 := mt (A.rest t' B.ht st'.symm (Ne.symm h2)).2 B.nt
      have b1 := mt (B.rest t A.ht A.st.symm h2).2 A.nt
      have o := G.hO s t t' A.hs A.ht B.ht A.st st' h2
      rw [O_swap] at b1
      omega
  · by_cases h2 : t = t'
    · subst h2
      have a1 := (A.rest s' B.hs (Ne.symm h1) (Ne.symm ts')).1 B.ss
      have b1 := (B.rest s A.hs h1 st').1 A.ss
      have : O X Y s t s' = - O X Y s' t s := O_rev _ _ _ _ _
      omega
    · have a1 := (A.rest s' B.hs (Ne.symm h1) (Ne.symm ts')).1 B.ss
      have a2 := mt (A.rest t' B.ht st'.symm (Ne.symm h2)).2 B.nt
      have b1 := (B.rest s A.hs h1 st').1 A.ss
      have b2 := mt (B.rest t A.ht ts' h2).2 A.nt
      omega

theorem Low.lt (G : GP X Y Z L) {S : Nat → Prop} {s t : Nat} (W : Low X Y L S s t) (h : X t < X s) : Lt X Y L S s t :=
  ⟨W.hs, W.ht, W.st, W.ss, W.nt, fun d hd d1 d2 => by
    rw [W.rest d hd d1 d2]
    unfold lo
    rw [mn (G.hO s t d W.hs W.ht hd W.st d1.symm d2.symm) (by omega)]
    omega⟩
theorem Lt.low (G : GP X Y Z L) {S : Nat → Prop} {s t : Nat} (W : Lt X Y L S s t) (h : X t < X s) : Low X Y L S s t :=
  ⟨W.hs, W.ht, W.st, W.ss, W.nt, fun d hd d1 d2 => by
    rw [W.rest d hd d1 d2]
    unfold lo
    rw [mn (G.hO s t d W.hs W.ht hd W.st d1.symm d2.symm) (by omega)]
    omega⟩

theorem O_negX (X Y : Nat → Int) (a b c : Nat) : O (fun i => - X i) Y a b c = - O X Y a b c := by unfold O; grind
theorem O_negY (X Y : Nat → Int) (a b c : Nat) : O X (fun i => - Y i) a b c = - O X Y a b c := by unfold O; grind
theorem D_negX (X Y Z : Nat → Int) (a b c d : Nat) : D (fun i => - X i) Y Z a b c d = - D X Y Z a b c d := by unfold D; rw [O_negX, O_negX]; grind
theorem D_negY (X Y Z : Nat → Int) (a b c d : Nat) : D X (fun i => - Y i) Z a b c d = - D X Y Z a b c d := by
  unfold D; rw [O_negY, show O (fun i => - Y i) Z a b c = - O Y Z a b c from O_negX Y Z a b c]; grind
theorem GP.negX (G : GP X Y Z L) : GP (fun i => - X i) Y Z L :=
  ⟨G.nd, fun a b ha hb h => by have := G.hx a b ha hb h; omega, fun a b c ha hb hc h1 h2 h3 => by rw [O_negX]; have := G.hO a b c ha hb hc h1 h2 h3; omega,
    fun a b c d ha hb hc hd h1 h2 h3 h4 h5 h6 => by rw [D_negX]; have := G.hD a b c d ha hb hc hd h1 h2 h3 h4 h5 h6; omega⟩
theorem GP.negY (G : GP X Y Z L) : GP X (fun i => - Y i) Z L :=
  ⟨G.nd, G.hx, fun a b c ha hb hc h1 h2 h3 => by rw [O_negY]; have := G.hO a b c ha hb hc h1 h2 h3; omega,
    fun a b c d ha hb hc hd h1 h2 h3 h4 h5 h6 => by rw [D_negY]; have := G.hD a b c d ha hb hc hd h1 h2 h3 h4 h5 h6; omega⟩
theorem ins_negY (X Y Z : Nat → Int) (a b c d : Nat) : ins X (fun i => - Y i) Z a b c d ↔ ins X Y Z a b c d := by
  unfold ins; rw [O_negY, D_negY, Int.neg_mul_neg]
theorem lo_negX (X Y : Nat → Int) (s t d : Nat) : lo (fun i => - X i) Y s t d ↔ lo X Y s t d := by
  unfold lo; rw [O_negX, show - X t - - X s = - (X t - X s) by omega, Int.neg_mul_neg]

theorem Qd.negX {S : Nat → Prop} (q : Qd X Y L S) : Qd (fun i => - X i) Y L S :=
  ⟨fun a b c ha hb hc ab bc sa sc sb => by
    have := q.1 c b a hc hb ha (by (try dsimp only at *); omega) (by (try dsimp only at *); omega) sc sa sb
    rw [O_negX, O_rev X Y c b a]; omega,
   fun a b c ha hb hc ab bc sa sc sb => by
    have := q.2 c b a hc hb ha (by (try dsimp only at *); omega) (by (try dsimp only at *); omega) sc sa sb
    rw [O_negX, O_rev X Y c b a]; omega⟩

theorem Qd.low' (G : GP X Y Z L) {S : Nat → Prop} (q : Qd X Y L S) (h : ∃ s t, s ∈ L ∧ t ∈ L ∧ S s ∧ ¬ S t ∧ X s < X t) :
    ∃ s t, Low X Y L S s t ∧ X s < X t := by
  obtain ⟨s₀, t₀, h1, h2, h3, h4, h5⟩ := h
  obtain ⟨s, t, W, x⟩ := Qd.low G.negX q.negX ⟨s₀, t₀, h1, h2, h3, h4, by (try dsimp only); omega⟩
  exact ⟨s, t, ⟨W.hs, W.ht, W.st, W.ss, W.nt, fun d hd d1 d2 => by rw [W.rest d hd d1 d2, lo_negX]⟩, by (try dsimp only at x); omega⟩

theorem Qd.anylow (G : GP X Y Z L) {S : Nat → Prop} (q : Qd X Y L S) (h : ∃ s t, s ∈ L ∧ t ∈ L ∧ S s ∧ ¬ S t) : ∃ s t, Low X Y L S s t := by
  obtain ⟨s₀, t₀, h1, h2, h3, h4⟩ := h
  have ne : s₀ ≠ t₀ := fun e => h4 (e ▸ h3)
  have := G.hx s₀ t₀ h1 h2 ne
  by_cases x : X s₀ < X t₀
  · obtain ⟨s, t, W, _⟩ := q.low' G ⟨s₀, t₀, h1, h2, h3, h4, x⟩
    exact ⟨s, t, W⟩
  · obtain ⟨s, t, W, _⟩ := q.low G ⟨s₀, t₀, h1, h2, h3, h4, by omega⟩
    exact ⟨s, t, W⟩

/-- all of a set is left of all others -/
def Most (X : Nat → Int) (L : List Nat) (S : Nat → Prop) : Prop := ∀ s t, s ∈ L → t ∈ L → S s → ¬ S t → X s < X t

theorem Most.qd {S : Nat → Prop} (m : Most X L S) : Qd X Y L S :=
  ⟨fun a b c _ hb hc _ bc _ sc sb => by have := m c b hc hb sc sb; omega,
   fun a b c ha hb _ ab _ sa _ sb => by have := m b a hb ha sb sa; omega⟩

theorem Qd.cases (G : GP X Y Z L) {S : Nat → Prop} (q : Qd X Y L S) : Most X L S ∨ ∃ s t, Lt X Y L S s t ∧ X t < X s := by
  by_cases h : ∃ s t, s ∈ L ∧ t ∈ L ∧ S s ∧ ¬ S t ∧ X t < X s
  · obtain ⟨s, t, W, x⟩ := q.low G h
    exact .inr ⟨s, t, W.lt G x, x⟩
  · refine .inl fun s t hs ht ss nt => ?_
    have ne : s ≠ t := fun e => nt (e ▸ ss)
    have := G.hx s t hs ht ne
    have : ¬ X t < X s := fun x => h ⟨s, t, hs, ht, ss, nt, x⟩
    omega

/-- the point nearest to p gives an edge whose least circle is empty: p alone meets a triple -/
theorem near (X Y : Nat → Int) {L : List Nat} (G : GP X Y (fun i => X i * X i + Y i * Y i) L) (p : Nat) (hp : p ∈ L) (h3 : 3 ≤ L.length) :
    ∃ q u, Inc X Y (fun i => X i * X i + Y i * Y i) L (fun d => d = p) p q u := by
  have h2 : ∃ q, q ∈ L ∧ (q ≠ p ∧ q ∈ L) := by
    match L, h3, G.nd, hp with
    | a :: b :: r, _, nd, _ =>
      by_cases e : a = p
      · exact ⟨b, by simp, by rintro rfl; subst e; simp at nd, by simp⟩
      · exact ⟨a, by simp, e, by simp⟩
  obtain ⟨q, hq, ⟨qp, _⟩, mi⟩ := least_of (fun a b => (X a - X p) * (X a - X p) + (Y a - Y p) * (Y a - Y p) ≤ (X b - X p) * (X b - X p) + (Y b - Y p) * (Y b - Y p)) L (fun q => q ≠ p ∧ q ∈ L)
    (fun a b _ _ => by omega) (fun a b c _ _ _ h1 h2 => by omega) h2
  let Z : Nat → Int := fun i => X i * X i + Y i * Y i
  have pq : p ≠ q := qp.symm
  have xpq := G.hx p q hp hq pq
  let g : Nat → Int := fun d => (X d - X p) * (X d - X q) + (Y d - Y p) * (Y d - Y q)
  have gpos : ∀ d, d ∈ L → d ≠ p → d ≠ q → 0 < g d := by
    intro d hd d1 d2
    have m := mi d hd ⟨d1, hd⟩
    have e : 2 * g d = ((X d - X p) * (X d - X p) + (Y d - Y p) * (Y d - Y p)) - ((X q - X p) * (X q - X p) + (Y q - Y p) * (Y q - Y p)) + ((X d - X q) * (X d - X q) + (Y d - Y q) * (Y d - Y q)) := by
      show 2 * ((X d - X p) * (X d - X q) + (Y d - Y p) * (Y d - Y q)) = _; grind
    have s1 : 0 < (X d - X q) * (X d - X q) := by
      have := G.hx d q hd hq d2
      exact (mp (by omega) (by omega)).2 Iff.rfl
    have s2 : 0 ≤ (Y d - Y q) * (Y d - Y q) := by
      by_cases h : Y d - Y q = 0
      · rw [h]; omega
      · exact Int.le_of_lt ((mp h h).2 Iff.rfl)
    omega
  -- at the least circle all others lie above
  have at0 : ∀ d, wN X Y Z p q d - (Y p + Y q) * wD X Y p q d = O X Y p q d * (X q - X p) * g d := by
    intro d
    show O X Z p q d * O X Y p q d - (Y p + Y q) * (O X Y p q d * O X Y p q d) = _
    have : O X Z p q d - (Y p + Y q) * O X Y p q d = (X q - X p) * g d := by
      show O X (fun i => X i * X i + Y i * Y i) p q d - _ = (X q - X p) * ((X d - X p) * (X d - X q) + (Y d - Y p) * (Y d - Y q))
      unfold O; grind
    have e : O X Z p q d = (Y p + Y q) * O X Y p q d + (X q - X p) * g d := by omega
    rw [e]; grind
  have oo : ∀ d, d ∈ L → d ≠ p → d ≠ q → O X Y p q d ≠ 0 := fun d hd d1 d2 => G.hO p q d hp hq hd pq d1.symm d2.symm
  have low : ∀ d, d ∈ L → d ≠ p → d ≠ q → lo X Y p q d → wN X Y Z p q d < (Y p + Y q) * wD X Y p q d := by
    intro d hd d1 d2 hl
    have a := at0 d
    have g0 := gpos d hd d1 d2
    unfold lo at hl
    have := Int.mul_neg_of_neg_of_pos hl g0
    omega
  have high : ∀ d, d ∈ L → d ≠ p → d ≠ q → ¬ lo X Y p q d → (Y p + Y q) * wD X Y p q d < wN X Y Z p q d := by
    intro d hd d1 d2 hl
    have a := at0 d
    have g0 := gpos d hd d1 d2
    unfold lo at hl
    have n0 : O X Y p q d * (X q - X p) ≠ 0 := Int.mul_ne_zero (oo d hd d1 d2) (by omega)
    have := Int.mul_pos (show 0 < O X Y p q d * (X q - X p) by omega) g0
    omega
  have wp : ∀ d, d ∈ L → d ≠ p → d ≠ q → 0 < wD X Y p q d := fun d hd d1 d2 => G.wD_pos hp hq hd pq d1.symm d2.symm
  -- a low one comes before a high one
  have cross : ∀ d e, d ∈ L → e ∈ L → d ≠ p → d ≠ q → e ≠ p → e ≠ q → lo X Y p q d → ¬ lo X Y p q e → blt X Y Z p q d p q e := by
    intro d e hd he d1 d2 e1 e2 ld le
    have a := low d hd d1 d2 ld
    have b := high e he e1 e2 le
    unfold blt
    have := frac_tr_lt (a := wN X Y Z p q d) (b := Y p + Y q) (c := wN X Y Z p q e) (p := wD X Y p q d) (q := 1) (r := wD X Y p q e) (wp d hd d1 d2) (by omega) (wp e he e1 e2) (by omega) (by omega)
    exact this
  have h3' : ∃ d, d ∈ L ∧ d ≠ p ∧ d ≠ q := by
    have l1 : (L.erase p).length = L.length - 1 := List.length_erase_of_mem hp
    have hq' : q ∈ L.erase p := (List.mem_erase_of_ne qp).2 hq
    have l2 : ((L.erase p).erase q).length = (L.erase p).length - 1 := List.length_erase_of_mem hq'
    match e : (L.erase p).erase q with
    | [] => rw [e] at l2; simp at l2; omega
    | d :: r =>
      have hd : d ∈ (L.erase p).erase q := by rw [e]; simp
      have nd1 := G.nd.erase p
      have hd1 := (List.Nodup.mem_erase_iff nd1).1 hd
      have hd2 := (List.Nodup.mem_erase_iff G.nd).1 hd1.2
      exact ⟨d, hd2.2, hd2.1, hd1.1⟩
  obtain ⟨d₀, hd₀, d₁, d₂⟩ := h3'
  refine ⟨q, ?_⟩
  by_cases hh : ∃ d, d ∈ L ∧ (d ≠ p ∧ d ≠ q ∧ d ∈ L ∧ ¬ lo X Y p q d)
  · obtain ⟨u, hu, ⟨u1, u2, _, ul⟩, um⟩ := least_of (fun d e => ble X Y Z p q d p q e) L (fun d => d ≠ p ∧ d ≠ q ∧ d ∈ L ∧ ¬ lo X Y p q d)
      (fun a b ha hb => by unfold ble; omega)
      (fun a b c ha hb hc h1 h2 => by unfold ble at *; exact frac_tr (wp a ha.2.2.1 ha.1 ha.2.1) (wp b hb.2.2.1 hb.1 hb.2.1) (wp c hc.2.2.1 hc.1 hc.2.1) h1 h2) hh
    refine ⟨u, hp, hq, hu, pq, u1.symm, u2.symm, rfl, qp, fun d hd d1 d2 d3 => ⟨fun h => absurd h d1, fun h => ?_⟩⟩
    rw [G.pencil hp hq hu hd pq u1.symm u2.symm d1 d2 d3] at h
    by_cases ld : lo X Y p q d
    · have c1 := cross d u hd hu d1 d2 u1 u2 ld ul
      have c2 : blt X Y (fun i => X i * X i + Y i * Y i) p q u p q d := h.1 ld
      rw [G.blt_tot hp hq hu hd pq u1.symm u2.symm d1 d2 d3] at c2
      exact absurd c1 c2
    · have m := um d hd ⟨d1, d2, hd, ld⟩
      have : blt X Y (fun i => X i * X i + Y i * Y i) p q u p q d := by
        rw [G.blt_tot hp hq hu hd pq u1.symm u2.symm d1 d2 d3]
        intro b
        have b' : blt X Y Z p q d p q u := b
        unfold ble at m; unfold blt at b'; omega
      exact absurd (h.2 this) ld
  · have ld : ∀ d, d ∈ L → d ≠ p → d ≠ q → lo X Y p q d := fun d hd d1 d2 => Classical.byContradiction fun h => hh ⟨d, hd, d1, d2, hd, h⟩
    obtain ⟨u, hu, ⟨u1, u2, _⟩, um⟩ := least_of (fun d e => ble X Y Z p q e p q d) L (fun d => d ≠ p ∧ d ≠ q ∧ d ∈ L)
      (fun a b ha hb => by unfold ble; omega)
      (fun a b c ha hb hc h1 h2 => by unfold ble at *; exact frac_tr (wp c hc.2.2 hc.1 hc.2.1) (wp b hb.2.2 hb.1 hb.2.1) (wp a ha.2.2 ha.1 ha.2.1) h2 h1) ⟨d₀, hd₀, d₁, d₂, hd₀⟩
    refine ⟨u, hp, hq, hu, pq, u1.symm, u2.symm, rfl, qp, fun d hd d1 d2 d3 => ⟨fun h => absurd h d1, fun h => ?_⟩⟩
    rw [G.pencil hp hq hu hd pq u1.symm u2.symm d1 d2 d3] at h
    have m := um d hd ⟨d1, d2, hd⟩
    have c2 : blt X Y Z p q u p q d := h.1 (ld d hd d1 d2)
    unfold ble at m; unfold blt at c2; omega
end
end Vk
namespace Vk
/-- a list of sets: each set of k points with a property, once -/
structure Fam (L : List Nat) (k : Int) (P : (Nat → Prop) → Prop) (F : List (List Nat)) : Prop where
  nd : F.Nodup
  ext : ∀ R, R ∈ F → ∀ R', R' ∈ F → (∀ d, d ∈ L → (d ∈ R ↔ d ∈ R')) → R = R'
  sound : ∀ R, R ∈ F → cnt L (fun d => d ∈ R) = k ∧ P (fun d => d ∈ R)
  cover : ∀ S : Nat → Prop, cnt L S = k → P S → ∃ R, R ∈ F ∧ ∀ d, d ∈ L → (d ∈ R ↔ S d)

theorem Fam.mono {L : List Nat} {k : Int} {P P' : (Nat → Prop) → Prop} {F : List (List Nat)} (A : Fam L k P F) (h : ∀ S, P S ↔ P' S) : Fam L k P' F :=
  ⟨A.nd, A.ext, fun R hR => ⟨(A.sound R hR).1, (h _).1 (A.sound R hR).2⟩, fun S hc hp => A.cover S hc ((h _).2 hp)⟩

theorem Fam.one {L : List Nat} {k : Int} {P : (Nat → Prop) → Prop} {F : List (List Nat)} (A : Fam L k P F) (r : Prop) (S0 : Nat → Prop) (h : r → P S0) :
    sm F (fun R => ind (r ∧ ∀ d, d ∈ L → (d ∈ R ↔ S0 d))) = ind (r ∧ cnt L S0 = k) := by
  rw [sm_unique A.nd (fun S hS S' hS' p p' => A.ext S hS S' hS' fun d hd => (p.2 d hd).trans (p'.2 d hd).symm)]
  refine ind_congr ⟨fun ⟨R, hR, hr, he⟩ => ⟨hr, ?_⟩, fun ⟨hr, hc⟩ => ?_⟩
  · rw [← (A.sound R hR).1]; exact (cnt_congr he).symm
  · obtain ⟨R, hR, he⟩ := A.cover S0 hc (h hr)
    exact ⟨R, hR, hr, he⟩

theorem sm3 {L : List Nat} (hn : L.Nodup) {P : Nat → Nat → Nat → Prop} {a b c : Nat} (ha : a ∈ L) (hb : b ∈ L) (hc : c ∈ L) (h : P a b c)
    (u : ∀ a' b' c', P a' b' c' → a' = a ∧ b' = b ∧ c' = c) : sm L (fun x => sm L fun y => sm L fun z => ind (P x y z)) = 1 := by
  have e : ∀ x y z, ind (P x y z) = ind (x = a) * (ind (y = b) * (ind (z = c) * 1)) := by
    intro x y z
    by_cases p : P x y z
    · obtain ⟨rfl, rfl, rfl⟩ := u x y z p
      rw [ind_t p, ind_t rfl, ind_t rfl, ind_t rfl]; rfl
    · rw [ind_f p]
      by_cases e1 : x = a
      · by_cases e2 : y = b
        · by_cases e3 : z = c
          · exact absurd (by rw [e1, e2, e3]; exact h) p
          · rw [ind_f e3]; grind
        · rw [ind_f e2]; grind
      · rw [ind_f e1]; grind
  rw [show sm L (fun x => sm L fun y => sm L fun z => ind (P x y z)) = sm L (fun x => ind (x = a) * 1) from sm_congr fun x _ => by
    rw [show sm L (fun y => sm L fun z => ind (P x y z)) = sm L (fun y => ind (y = b) * ind (x = a)) from sm_congr fun y _ => by
      rw [show sm L (fun z => ind (P x y z)) = sm L (fun z => ind (z = c) * (ind (x = a) * ind (y = b))) from sm_congr fun z _ => by rw [e]; grind, sm_single hn hc]
      grind, sm_single hn hb]
    grind, sm_single hn ha]

theorem sm2 {L : List Nat} (hn : L.Nodup) {P : Nat → Nat → Prop} {a b : Nat} (ha : a ∈ L) (hb : b ∈ L) (h : P a b)
    (u : ∀ a' b', P a' b' → a' = a ∧ b' = b) : sm L (fun x => sm L fun y => ind (P x y)) = 1 := by
  have e : ∀ x y, ind (P x y) = ind (x = a) * (ind (y = b) * 1) := by
    intro x y
    by_cases p : P x y
    · obtain ⟨rfl, rfl⟩ := u x y p
      rw [ind_t p, ind_t rfl, ind_t rfl]; rfl
    · rw [ind_f p]
      by_cases e1 : x = a
      · by_cases e2 : y = b
        · exact absurd (by rw [e1, e2]; exact h) p
        · rw [ind_f e2]; grind
      · rw [ind_f e1]; grind
  rw [show sm L (fun x => sm L fun y => ind (P x y)) = sm L (fun x => ind (x = a) * 1) from sm_congr fun x _ => by
    rw [show sm L (fun y => ind (P x y)) = sm L (fun y => ind (y = b) * ind (x = a)) from sm_congr fun y _ => by
      rw [e]; grind, sm_single hn hb]
    grind, sm_single hn ha]

theorem sm3_zero {L : List Nat} {P : Nat → Nat → Nat → Prop} (h : ∀ a b c, ¬ P a b c) : sm L (fun x => sm L fun y => sm L fun z => ind (P x y z)) = 0 := by
  rw [← sm_zero L]
  refine sm_congr fun a _ => ?_
  rw [← sm_zero L]
  refine sm_congr fun b _ => ?_
  rw [← sm_zero L]
  exact sm_congr fun c _ => ind_f (h a b c)
theorem sm2_zero {L : List Nat} {P : Nat → Nat → Prop} (h : ∀ a b, ¬ P a b) : sm L (fun x => sm L fun y => ind (P x y)) = 0 := by
  rw [← sm_zero L]
  refine sm_congr fun a _ => ?_
  rw [← sm_zero L]
  exact sm_congr fun b _ => ind_f (h a b)

theorem cnt_or {α : Type} {l : List α} {p q : α → Prop} (h : ∀ a, a ∈ l → ¬ (p a ∧ q a)) : cnt l (fun a => p a ∨ q a) = cnt l p + cnt l q := by
  unfold cnt
  rw [← sm_add]
  exact sm_congr fun a ha => ind_or (h a ha)

theorem ind_shift {r : Prop} {a b c d : Int} (h : a = b ↔ c = d) : ind (r ∧ a = b) = ind (r ∧ c = d) := ind_congr (by rw [h])

theorem cnt_le {α : Type} {l : List α} {p q : α → Prop} (h : ∀ a, a ∈ l → p a → q a) : cnt l p ≤ cnt l q := by
  have e : cnt l q = cnt l p + cnt l (fun a => q a ∧ ¬ p a) := by
    rw [← cnt_or (fun a _ h => h.2.2 h.1)]
    exact cnt_congr fun a ha => ⟨fun hq => by
      by_cases hp : p a
      · exact .inl hp
      · exact .inr ⟨hq, hp⟩, fun hh => hh.elim (h a ha) (fun z => z.1)⟩
  have := cnt_nonneg l (fun a => q a ∧ ¬ p a)
  omega

theorem cnt_lt {l : List Nat} (hn : l.Nodup) {p q : Nat → Prop} (h : ∀ a, a ∈ l → p a → q a) {d : Nat} (hd : d ∈ l) (hq : q d) (hp : ¬ p d) : cnt l p < cnt l q := by
  have e : cnt l (fun a => p a ∨ a = d) = cnt l p + 1 := by
    rw [cnt_or (fun a _ z => hp ((show a = d from z.2) ▸ z.1)), cnt_single hn hd]
  have := cnt_le (l := l) (p := fun a => p a ∨ a = d) (q := q) (fun a ha z => z.elim (h a ha) (fun z => z ▸ hq))
  omega

theorem cnt_all {α : Type} {l : List α} {p : α → Prop} (h : cnt l p ≠ (l.length : Int)) : ∃ a, a ∈ l ∧ ¬ p a := by
  have e := cnt_not l p
  exact cnt_pos (p := fun a => ¬ p a) (by omega)

section
variable {X Y Z : Nat → Int} {L : List Nat}

theorem Most.uniq (hn : L.Nodup) {S S' : Nat → Prop} (m : Most X L S) (m' : Most X L S') (e : cnt L S = cnt L S') : ∀ d, d ∈ L → (S d ↔ S' d) := by
  have half : ∀ {S S' : Nat → Prop}, Most X L S → Most X L S' → cnt L S = cnt L S' → ∀ d, d ∈ L → S d → S' d := by
    intro S S' m m' e d hd sd
    refine Classical.byContradiction fun nd => ?_
    have h : ∃ e, e ∈ L ∧ S' e ∧ ¬ S e := by
      refine Classical.byContradiction fun z => ?_
      have := cnt_lt hn (p := S') (q := S) (fun a ha h => Classical.byContradiction fun n => z ⟨a, ha, h, n⟩) hd sd nd
      omega
    obtain ⟨e, he, s', ns⟩ := h
    have := m d e hd he sd ns
    have := m' e d he hd s' nd
    omega
  exact fun d hd => ⟨half m m' e d hd, half m' m e.symm d hd⟩

theorem most_ex (hn : L.Nodup) (hx : ∀ a b, a ∈ L → b ∈ L → a ≠ b → X a ≠ X b) : ∀ k : Nat, k ≤ L.length → ∃ S : Nat → Prop, Most X L S ∧ cnt L S = (k : Int)
  | 0, _ => ⟨fun _ => False, fun _ _ _ _ h => h.elim, cnt_zero fun _ _ h => h⟩
  | k + 1, h => by
    obtain ⟨S, m, c⟩ := most_ex hn hx k (by omega)
    obtain ⟨d, hd, nd⟩ := cnt_all (l := L) (p := S) (by omega)
    obtain ⟨v, hv, nv, lv⟩ := least_of (fun a b => X a ≤ X b) L (fun a => ¬ S a) (fun a b _ _ => by omega) (fun a b c _ _ _ h1 h2 => by omega) ⟨d, hd, nd⟩
    refine ⟨fun a => S a ∨ a = v, fun s t hs ht ss nt => ?_, ?_⟩
    · have nt1 : ¬ S t := fun z => nt (.inl z)
      have nt2 : t ≠ v := fun z => nt (.inr z)
      rcases ss with ss | rfl
      · exact m s t hs ht ss nt1
      · have := lv t ht nt1
        have := hx s t hs ht (Ne.symm nt2)
        omega
    · rw [cnt_or (fun a _ z => nv ((show a = v from z.2) ▸ z.1)), cnt_single hn hv, c]; omega

/-- meets some triple -/
def Meets (X Y Z : Nat → Int) (L : List Nat) (S : Nat → Prop) : Prop := ∃ s t u, Inc X Y Z L S s t u
def tri (X : Nat → Int) (a b c : Nat) : Prop := X a < X b ∧ X b < X c
def lf (X Y : Nat → Int) (a b d : Nat) : Prop := 0 < O X Y a b d

noncomputable def cA (X Y Z : Nat → Int) (L : List Nat) (j : Int) : Int := sm L fun a => sm L fun b => sm L fun c => ind ((tri X a b c ∧ O X Y a b c < 0) ∧ cnt L (ins X Y Z a b c) = j)
noncomputable def cV (X Y Z : Nat → Int) (L : List Nat) (j : Int) : Int := sm L fun a => sm L fun b => sm L fun c => ind ((tri X a b c ∧ 0 < O X Y a b c) ∧ cnt L (ins X Y Z a b c) = j)
noncomputable def pB (X Y : Nat → Int) (L : List Nat) (j : Int) : Int := sm L fun s => sm L fun t => ind ((s ≠ t ∧ X t < X s) ∧ cnt L (lf X Y s t) = j)

theorem Qd.meets (G : GP X Y Z L) {S : Nat → Prop} (q : Qd X Y L S) (h3 : 3 ≤ L.length) (h : ∃ s t, s ∈ L ∧ t ∈ L ∧ S s ∧ ¬ S t) : Meets X Y Z L S := by
  obtain ⟨s, t, W⟩ := q.anylow G h
  have : ∃ d, d ∈ L ∧ d ≠ s ∧ d ≠ t := by
    refine Classical.byContradiction fun z => ?_
    have e : cnt L (fun d => d = s ∨ d = t) = 2 := by
      rw [cnt_or (fun a _ h => W.st (h.1.symm.trans h.2)), cnt_single G.nd W.hs, cnt_single G.nd W.ht]; rfl
    have e2 : cnt L (fun d => d = s ∨ d = t) = (L.length : Int) := by
      rw [← sm_one]
      exact sm_congr fun d hd => ind_t (Classical.byContradiction fun n => z ⟨d, hd, fun h => n (.inl h), fun h => n (.inr h)⟩)
    omega
  obtain ⟨u, I⟩ := W.inc G this
  exact ⟨s, t, u, I⟩

theorem lt_iff {S : Nat → Prop} {s t : Nat} (hs : s ∈ L) (ht : t ∈ L) : Lt X Y L S s t ↔ s ≠ t ∧ ∀ d, d ∈ L → (S d ↔ (lf X Y s t d ∨ d = s)) := by
  constructor
  · intro W
    refine ⟨W.st, fun d hd => ?_⟩
    by_cases d1 : d = s
    · subst d1; exact ⟨fun _ => .inr rfl, fun _ => W.ss⟩
    · by_cases d2 : d = t
      · subst d2
        refine ⟨fun h => absurd h W.nt, fun h => ?_⟩
        rcases h with h | h
        · unfold lf at h; rw [O_bb] at h; omega
        · exact absurd h d1
      · rw [W.rest d hd d1 d2]
        exact ⟨fun h => .inl h, fun h => h.resolve_right d1⟩
  · rintro ⟨st, h⟩
    refine ⟨hs, ht, st, (h s hs).2 (.inr rfl), fun z => ?_, fun d hd d1 d2 => ?_⟩
    · rcases (h t ht).1 z with h | h
      · unfold lf at h; rw [O_bb] at h; omega
      · exact st h.symm
    · rw [h d hd]
      exact ⟨fun h => h.resolve_right d1, fun h => .inl h⟩

theorem cnt_lf1 (G : GP X Y Z L) {s t : Nat} (hs : s ∈ L) : cnt L (fun d => lf X Y s t d ∨ d = s) = cnt L (lf X Y s t) + 1 := by
  rw [cnt_or (fun a _ z => by
    obtain ⟨h1, h2⟩ := z
    subst h2
    unfold lf at h1; rw [O_aa] at h1; omega), cnt_single G.nd hs]

theorem birth_iff {S : Nat → Prop} {a b c : Nat} (ha : a ∈ L) (hb : b ∈ L) (hc : c ∈ L) : Birth X Y Z L S a b c ↔
    ((tri X a b c ∧ O X Y a b c < 0) ∧ ∀ d, d ∈ L → (S d ↔ (ins X Y Z a b c d ∨ d = b))) ∨
    ((tri X a b c ∧ 0 < O X Y a b c) ∧ ∀ d, d ∈ L → (S d ↔ ((ins X Y Z a b c d ∨ d = a) ∨ d = c))) := by
  have na : ¬ ins X Y Z a b c a := fun h => (ins_ne h).1 rfl
  have nb : ¬ ins X Y Z a b c b := fun h => (ins_ne h).2.1 rfl
  have nc : ¬ ins X Y Z a b c c := fun h => (ins_ne h).2.2 rfl
  constructor
  · intro B
    have ab := ne_of_X B.ab
    have bc := ne_of_X B.bc
    have ac := ne_of_X (Int.lt_trans B.ab B.bc)
    rcases B.kind with ⟨s1, s2, s3, o⟩ | ⟨s1, s2, s3, o⟩
    · refine .inl ⟨⟨⟨B.ab, B.bc⟩, o⟩, fun d hd => ?_⟩
      by_cases d1 : d = a
      · subst d1; exact ⟨fun h => absurd h s2, fun h => (h.elim (fun y => absurd y na) (fun z => absurd z ab))⟩
      by_cases d2 : d = b
      · subst d2; exact ⟨fun _ => .inr rfl, fun _ => s1⟩
      by_cases d3 : d = c
      · subst d3; exact ⟨fun h => absurd h s3, fun h => (h.elim (fun y => absurd y nc) (fun z => absurd z.symm bc))⟩
      rw [B.rest d hd d1 d2 d3]
      exact ⟨fun h => .inl h, fun h => h.resolve_right d2⟩
    · refine .inr ⟨⟨⟨B.ab, B.bc⟩, o⟩, fun d hd => ?_⟩
      by_cases d1 : d = a
      · subst d1; exact ⟨fun _ => .inl (.inr rfl), fun _ => s1⟩
      by_cases d2 : d = b
      · subst d2; exact ⟨fun h => absurd h s3, fun h => (h.elim (fun z => z.elim (fun y => absurd y nb) (fun z => absurd z.symm ab)) (fun z => absurd z bc))⟩
      by_cases d3 : d = c
      · subst d3; exact ⟨fun _ => .inr rfl, fun _ => s2⟩
      rw [B.rest d hd d1 d2 d3]
      exact ⟨fun h => .inl (.inl h), fun h => (h.resolve_right d3).resolve_right d1⟩
  · rintro (⟨⟨⟨ab, bc⟩, o⟩, h⟩ | ⟨⟨⟨ab, bc⟩, o⟩, h⟩)
    · have ab' := ne_of_X ab
      have bc' := ne_of_X bc
      have ac' := ne_of_X (Int.lt_trans ab bc)
      refine ⟨ha, hb, hc, ab, bc, fun d hd d1 d2 d3 => ?_, .inl ⟨(h b hb).2 (.inr rfl), fun z => ?_, fun z => ?_, o⟩⟩
      · rw [h d hd]; exact ⟨fun h => h.resolve_right d2, fun h => .inl h⟩
      · exact ((h a ha).1 z).elim na ab'
      · exact ((h c hc).1 z).elim nc bc'.symm
    · have ab' := ne_of_X ab
      have bc' := ne_of_X bc
      have ac' := ne_of_X (Int.lt_trans ab bc)
      refine ⟨ha, hb, hc, ab, bc, fun d hd d1 d2 d3 => ?_, .inr ⟨(h a ha).2 (.inl (.inr rfl)), (h c hc).2 (.inr rfl), fun z => ?_, o⟩⟩
      · rw [h d hd]; exact ⟨fun h => (h.resolve_right d3).resolve_right d1, fun h => .inl (.inl h)⟩
      · exact ((h b hb).1 z).elim (fun z => z.elim nb ab'.symm) bc'

theorem cnt_in1 (G : GP X Y Z L) {a b c : Nat} (hb : b ∈ L) : cnt L (fun d => ins X Y Z a b c d ∨ d = b) = cnt L (ins X Y Z a b c) + 1 := by
  rw [cnt_or (fun d _ z => (ins_ne z.1).2.1 z.2), cnt_single G.nd hb]
theorem cnt_in2 (G : GP X Y Z L) {a b c : Nat} (ha : a ∈ L) (hc : c ∈ L) (ac : a ≠ c) : cnt L (fun d => (ins X Y Z a b c d ∨ d = a) ∨ d = c) = cnt L (ins X Y Z a b c) + 2 := by
  rw [cnt_or (fun d _ z => z.1.elim (fun y => (ins_ne y).2.2 z.2) (fun y => ac (y.symm.trans z.2))), cnt_or (fun d _ z => (ins_ne z.1).1 z.2), cnt_single G.nd ha, cnt_single G.nd hc]
  have : cnt L (fun d => ins X Y Z a b c d) = cnt L (ins X Y Z a b c) := rfl
  omega

/-- how many sets of k points meet a triple, counted from below -/
theorem Fam.below (G : GP X Y Z L) (h3 : 3 ≤ L.length) {k : Nat} (k1 : 1 ≤ k) (k2 : k + 1 ≤ L.length) {F : List (List Nat)} (A : Fam L (k : Int) (Meets X Y Z L) F) :
    (F.length : Int) = cA X Y Z L ((k : Int) - 1) + cV X Y Z L ((k : Int) - 2) + 1 + pB X Y L ((k : Int) - 1) := by
  have both : ∀ S : Nat → Prop, cnt L S = (k : Int) → ∃ s t, s ∈ L ∧ t ∈ L ∧ S s ∧ ¬ S t := by
    intro S hS
    obtain ⟨s, hs, ss⟩ := cnt_pos (l := L) (p := S) (by omega)
    obtain ⟨t, ht, nt⟩ := cnt_all (l := L) (p := S) (by omega)
    exact ⟨s, t, hs, ht, ss, nt⟩
  -- each set once
  have each : ∀ R, R ∈ F → (1 : Int) = sm L (fun a => sm L fun b => sm L fun c => ind (Birth X Y Z L (fun d => d ∈ R) a b c)) + (ind (Most X L (fun d => d ∈ R)) + sm L (fun s => sm L fun t => ind (Lt X Y L (fun d => d ∈ R) s t ∧ X t < X s))) := by
    intro R hR
    obtain ⟨hc, s, t, u, I⟩ := A.sound R hR
    obtain ⟨s₀, t₀, hs₀, ht₀, ss₀, nt₀⟩ := both _ hc
    rcases I.birth G with q | ⟨a, b, c, B⟩
    · rw [sm3_zero (fun a b c B => q.nobirth B)]
      rcases q.cases G with m | ⟨s, t, W, x⟩
      · rw [ind_t m, sm2_zero (fun s t h => by have := m s t h.1.hs h.1.ht h.1.ss h.1.nt; have := h.2; omega)]; rfl
      · rw [ind_f (fun m => by have := m s t W.hs W.ht W.ss W.nt; omega), sm2 G.nd W.hs W.ht ⟨W, x⟩ (fun s' t' h => h.1.uniq G W)]; rfl
    · have nq : ¬ Qd X Y L (fun d => d ∈ R) := fun q => q.nobirth B
      rw [sm3 G.nd B.ha B.hb B.hc B (fun a' b' c' B' => B'.uniq G B), ind_f (fun m => nq m.qd), sm2_zero (fun s t h => nq ((h.1.low G h.2).qd G))]; rfl
  have total : (F.length : Int) = sm F (fun R => sm L (fun a => sm L fun b => sm L fun c => ind (Birth X Y Z L (fun d => d ∈ R) a b c)) + (ind (Most X L (fun d => d ∈ R)) + sm L (fun s => sm L fun t => ind (Lt X Y L (fun d => d ∈ R) s t ∧ X t < X s)))) := by
    rw [← sm_one]; exact sm_congr each
  rw [total, sm_add, sm_add]
  have t1 : sm F (fun R => sm L (fun a => sm L fun b => sm L fun c => ind (Birth X Y Z L (fun d => d ∈ R) a b c))) = cA X Y Z L ((k : Int) - 1) + cV X Y Z L ((k : Int) - 2) := by
    rw [sm_comm]
    unfold cA cV
    rw [← sm_add]
    refine sm_congr fun a ha => ?_
    rw [sm_comm, ← sm_add]
    refine sm_congr fun b hb => ?_
    rw [sm_comm, ← sm_add]
    refine sm_congr fun c hc => ?_
    rw [show sm F (fun R => ind (Birth X Y Z L (fun d => d ∈ R) a b c)) =
      sm F (fun R => ind ((tri X a b c ∧ O X Y a b c < 0) ∧ ∀ d, d ∈ L → (d ∈ R ↔ (ins X Y Z a b c d ∨ d = b))) +
        ind ((tri X a b c ∧ 0 < O X Y a b c) ∧ ∀ d, d ∈ L → (d ∈ R ↔ ((ins X Y Z a b c d ∨ d = a) ∨ d = c)))) from sm_congr fun R _ => by
      rw [ind_congr (birth_iff ha hb hc), ind_or (fun h => by have := h.1.1.2; have := h.2.1.2; omega)], sm_add]
    rw [A.one (tri X a b c ∧ O X Y a b c < 0) (fun d => ins X Y Z a b c d ∨ d = b) (fun r => by
      have B : Birth X Y Z L (fun d => ins X Y Z a b c d ∨ d = b) a b c := (birth_iff ha hb hc).2 (.inl ⟨r, fun _ _ => Iff.rfl⟩)
      rcases B.kind with h | h
      · exact ⟨b, a, c, hb, ha, hc, (ne_of_X B.ab).symm, ne_of_X B.bc, ne_of_X (Int.lt_trans B.ab B.bc), h.1, h.2.1, fun d hd d1 d2 d3 => (B.rest d hd d2 d1 d3).trans (ins_swap' X Y Z a b c d).symm⟩
      · have := h.2.2.2; have := r.2; omega)]
    rw [A.one (tri X a b c ∧ 0 < O X Y a b c) (fun d => (ins X Y Z a b c d ∨ d = a) ∨ d = c) (fun r => by
      have B : Birth X Y Z L (fun d => (ins X Y Z a b c d ∨ d = a) ∨ d = c) a b c := (birth_iff ha hb hc).2 (.inr ⟨r, fun _ _ => Iff.rfl⟩)
      rcases B.kind with h | h
      · have := h.2.2.2; have := r.2; omega
      · exact ⟨a, b, c, ha, hb, hc, ne_of_X B.ab, ne_of_X (Int.lt_trans B.ab B.bc), ne_of_X B.bc, h.1, h.2.2.1, B.rest⟩)]
    rw [cnt_in1 G hb, ind_shift (c := cnt L (ins X Y Z a b c)) (d := (k : Int) - 1) (by omega)]
    congr 1
    by_cases T : tri X a b c
    · rw [cnt_in2 G ha hc (ne_of_X (Int.lt_trans T.1 T.2))]
      exact ind_shift (by omega)
    · rw [ind_f (fun h => T h.1.1), ind_f (fun h => T h.1.1)]
  have t2 : sm F (fun R => ind (Most X L (fun d => d ∈ R))) = 1 := by
    rw [sm_unique A.nd (fun S hS S' hS' m m' => A.ext S hS S' hS' (m.uniq G.nd m' ((A.sound S hS).1.trans (A.sound S' hS').1.symm)))]
    refine ind_t ?_
    obtain ⟨S, m, c⟩ := most_ex G.nd G.hx k (by omega)
    obtain ⟨R, hR, e⟩ := A.cover S c (m.qd.meets G h3 (both S c))
    exact ⟨R, hR, fun s t hs ht ss nt => m s t hs ht ((e s hs).1 ss) (fun z => nt ((e t ht).2 z))⟩
  have t3 : sm F (fun R => sm L (fun s => sm L fun t => ind (Lt X Y L (fun d => d ∈ R) s t ∧ X t < X s))) = pB X Y L ((k : Int) - 1) := by
    rw [sm_comm]
    unfold pB
    refine sm_congr fun s hs => ?_
    rw [sm_comm]
    refine sm_congr fun t ht => ?_
    rw [show sm F (fun R => ind (Lt X Y L (fun d => d ∈ R) s t ∧ X t < X s)) = sm F (fun R => ind ((s ≠ t ∧ X t < X s) ∧ ∀ d, d ∈ L → (d ∈ R ↔ (lf X Y s t d ∨ d = s)))) from sm_congr fun R _ => ind_congr (by
      rw [lt_iff hs ht]; exact ⟨fun h => ⟨⟨h.1.1, h.2⟩, h.1.2⟩, fun h => ⟨⟨h.1.1, h.2⟩, h.1.2⟩⟩)]
    rw [A.one (s ≠ t ∧ X t < X s) (fun d => lf X Y s t d ∨ d = s) (fun r => by
      have W : Lt X Y L (fun d => lf X Y s t d ∨ d = s) s t := (lt_iff hs ht).2 ⟨r.1, fun _ _ => Iff.rfl⟩
      exact ((W.low G r.2).qd G).meets G h3 ⟨s, t, hs, ht, W.ss, W.nt⟩)]
    rw [cnt_lf1 G hs]
    exact ind_shift (by omega)
  rw [t1, t2, t3]
  omega

theorem meets_negY (S : Nat → Prop) : Meets X Y Z L S ↔ Meets X (fun i => - Y i) Z L S := by
  constructor
  · rintro ⟨s, t, u, I⟩
    exact ⟨s, t, u, I.hs, I.ht, I.hu, I.st, I.su, I.tu, I.ss, I.nt, fun d hd d1 d2 d3 => by rw [ins_negY]; exact I.rest d hd d1 d2 d3⟩
  · rintro ⟨s, t, u, I⟩
    exact ⟨s, t, u, I.hs, I.ht, I.hu, I.st, I.su, I.tu, I.ss, I.nt, fun d hd d1 d2 d3 => by rw [← ins_negY]; exact I.rest d hd d1 d2 d3⟩

/-- the two counts together -/
theorem Fam.twice (G : GP X Y Z L) (h3 : 3 ≤ L.length) {k : Nat} (k1 : 1 ≤ k) (k2 : k + 1 ≤ L.length) {F : List (List Nat)} (A : Fam L (k : Int) (Meets X Y Z L) F) :
    2 * (F.length : Int) = cT (tri X) (ins X Y Z) L ((k : Int) - 1) + cT (tri X) (ins X Y Z) L ((k : Int) - 2) + 2 + eT (lf X Y) L ((k : Int) - 1) := by
  have a := A.below G h3 k1 k2
  have b := (A.mono meets_negY).below G.negY h3 k1 k2
  have insE : ∀ a b c, ins X (fun i => - Y i) Z a b c = ins X Y Z a b c := fun a b c => funext fun d => propext (ins_negY X Y Z a b c d)
  have e1 : ∀ j, cA X (fun i => - Y i) Z L j = cV X Y Z L j := by
    intro j
    unfold cA cV
    refine sm_congr fun a _ => sm_congr fun b _ => sm_congr fun c _ => ?_
    rw [insE, O_negY]
    exact ind_congr ⟨fun h => ⟨⟨h.1.1, by have := h.1.2; omega⟩, h.2⟩, fun h => ⟨⟨h.1.1, by have := h.1.2; omega⟩, h.2⟩⟩
  have e2 : ∀ j, cV X (fun i => - Y i) Z L j = cA X Y Z L j := by
    intro j
    unfold cA cV
    refine sm_congr fun a _ => sm_congr fun b _ => sm_congr fun c _ => ?_
    rw [insE, O_negY]
    exact ind_congr ⟨fun h => ⟨⟨h.1.1, by have := h.1.2; omega⟩, h.2⟩, fun h => ⟨⟨h.1.1, by have := h.1.2; omega⟩, h.2⟩⟩
  have e3 : ∀ j, cA X Y Z L j + cV X Y Z L j = cT (tri X) (ins X Y Z) L j := by
    intro j
    unfold cA cV cT
    rw [← sm_add]
    refine sm_congr fun a ha => ?_
    rw [← sm_add]
    refine sm_congr fun b hb => ?_
    rw [← sm_add]
    refine sm_congr fun c hc => ?_
    rw [← ind_or (fun h => by have := h.1.1.2; have := h.2.1.2; omega)]
    refine ind_congr ⟨fun h => h.elim (fun h => ⟨h.1.1, h.2⟩) (fun h => ⟨h.1.1, h.2⟩), fun h => ?_⟩
    have o := G.hO a b c ha hb hc (ne_of_X h.1.1) (ne_of_X (Int.lt_trans h.1.1 h.1.2)) (ne_of_X h.1.2)
    by_cases p : 0 < O X Y a b c
    · exact .inr ⟨⟨h.1, p⟩, h.2⟩
    · exact .inl ⟨⟨h.1, by omega⟩, h.2⟩
  have e4 : ∀ j, pB X Y L j + pB X (fun i => - Y i) L j = eT (lf X Y) L j := by
    intro j
    have c : pB X (fun i => - Y i) L j = sm L fun s => sm L fun t => ind ((s ≠ t ∧ X s < X t) ∧ cnt L (lf X Y s t) = j) := by
      unfold pB
      rw [sm_comm]
      refine sm_congr fun s _ => sm_congr fun t _ => ?_
      rw [show lf X (fun i => - Y i) t s = lf X Y s t from funext fun d => by unfold lf; rw [O_negY, ← O_swap']]
      exact ind_congr ⟨fun h => ⟨⟨fun e => h.1.1 e.symm, h.1.2⟩, h.2⟩, fun h => ⟨⟨fun e => h.1.1 e.symm, h.1.2⟩, h.2⟩⟩
    rw [c]
    unfold pB eT
    rw [← sm_add]
    refine sm_congr fun s hs => ?_
    rw [← sm_add]
    refine sm_congr fun t ht => ?_
    rw [← ind_or (fun h => by have := h.1.1.2; have := h.2.1.2; omega)]
    refine ind_congr ⟨fun h => h.elim (fun h => ⟨h.1.1, h.2⟩) (fun h => ⟨h.1.1, h.2⟩), fun h => ?_⟩
    have o := G.hx s t hs ht h.1
    by_cases p : X t < X s
    · exact .inl ⟨⟨h.1, p⟩, h.2⟩
    · exact .inr ⟨⟨h.1, by omega⟩, h.2⟩
  rw [e1, e2] at b
  have := e3 ((k : Int) - 1)
  have := e3 ((k : Int) - 2)
  have := e4 ((k : Int) - 1)
  omega

theorem cT_neg (L : List Nat) (j : Int) (h : j < 0) : cT (tri X) (ins X Y Z) L j = 0 :=
  sm3_zero fun a b c z => by
    have := cnt_nonneg L (ins X Y Z a b c)
    have := z.2
    omega

end

/-- each point alone has a cell -/
theorem singles (X Y : Nat → Int) {L : List Nat} (G : GP X Y (fun i => X i * X i + Y i * Y i) L) (h3 : 3 ≤ L.length) :
    Fam L ((1 : Nat) : Int) (Meets X Y (fun i => X i * X i + Y i * Y i) L) (L.map fun p => [p]) := by
  refine ⟨?_, fun R hR R' hR' e => ?_, fun R hR => ?_, fun S hc _ => ?_⟩
  · exact List.Pairwise.map _ (fun a b h e => h (by simpa using e)) G.nd
  · obtain ⟨p, hp, rfl⟩ := List.mem_map.1 hR
    obtain ⟨q, hq, rfl⟩ := List.mem_map.1 hR'
    have := (e p hp).1 (by simp)
    simp at this
    rw [this]
  · obtain ⟨p, hp, rfl⟩ := List.mem_map.1 hR
    refine ⟨?_, ?_⟩
    · rw [cnt_congr (q := fun d => d = p) (fun d _ => by simp), cnt_single G.nd hp]; rfl
    · obtain ⟨q, u, I⟩ := near X Y G p hp h3
      exact ⟨p, q, u, I.hs, I.ht, I.hu, I.st, I.su, I.tu, by simp, by simpa using I.nt, fun d hd d1 d2 d3 => by
        rw [← I.rest d hd d1 d2 d3]; simp⟩
  · obtain ⟨p, hp, sp⟩ := cnt_pos (l := L) (p := S) (by omega)
    refine ⟨[p], List.mem_map.2 ⟨p, hp, rfl⟩, fun d hd => ⟨fun h => by
      have : d = p := by simpa using h
      rw [this]; exact sp, fun h => ?_⟩⟩
    refine Classical.byContradiction fun n => ?_
    have n' : d ≠ p := by simpa using n
    have := cnt_lt G.nd (p := fun a => a = p) (q := S) (fun a _ e => e ▸ sp) hd h n'
    rw [cnt_single G.nd hp] at this
    omega

theorem GP.sub {X Y Z : Nat → Int} {L U : List Nat} (G : GP X Y Z U) (hn : L.Nodup) (h : ∀ p, p ∈ L → p ∈ U) : GP X Y Z L :=
  ⟨hn, fun a b ha hb => G.hx a b (h a ha) (h b hb), fun a b c ha hb hc => G.hO a b c (h a ha) (h b hb) (h c hc), fun a b c d ha hb hc hd => G.hD a b c d (h a ha) (h b hb) (h c hc) (h d hd)⟩

theorem tri_ne {X : Nat → Int} {a b c : Nat} (h : tri X a b c) : a ≠ b ∧ a ≠ c ∧ b ≠ c := ⟨ne_of_X h.1, ne_of_X (Int.lt_trans h.1 h.2), ne_of_X h.2⟩

theorem lf_ne {X Y : Nat → Int} {a b d : Nat} (h : lf X Y a b d) : d ≠ a ∧ d ≠ b := by
  unfold lf at h
  refine ⟨?_, ?_⟩ <;> rintro rfl
  · rw [O_aa] at h; omega
  · rw [O_bb] at h; omega

/-- the number of circles -/
theorem circles (X Y : Nat → Int) {L : List Nat} (G : GP X Y (fun i => X i * X i + Y i * Y i) L) (h3 : 3 ≤ L.length) (k : Nat) (k1 : 1 ≤ k) (k2 : k ≤ L.length) :
    cT (tri X) (ins X Y (fun i => X i * X i + Y i * Y i)) L ((k : Int) - 1) + sm (List.range k) (fun i => eT (lf X Y) L (i : Int)) = (k : Int) * (2 * (L.length : Int) - (k : Int) - 1) := by
  refine circles_lines L (fun a b c h => tri_ne h) (fun a b c d h => ins_ne h) (fun a b d h => lf_ne h) (fun M hM sub m3 => ?_) L.length L rfl (by omega) G.nd (fun _ h => h) k k1 k2
  have G' := G.sub hM sub
  have t := (singles X Y G' m3).twice G' m3 (k := 1) (by omega) (by omega)
  rw [List.length_map, cT_neg M _ (by omega : ((1 : Nat) : Int) - 2 < 0)] at t
  have : ((1 : Nat) : Int) - 1 = 0 := by omega
  rw [this] at t
  show cT (tri X) (ins X Y (fun i => X i * X i + Y i * Y i)) M 0 = 2 * (M.length : Int) - 2 - eT (lf X Y) M 0
  omega

/-- a set is cut off by a line through two points, these on either side -/
def Cut (X Y : Nat → Int) (L : List Nat) (S : Nat → Prop) : Prop := ∃ i j, i ∈ L ∧ j ∈ L ∧ i ≠ j ∧ ∀ d, d ∈ L → d ≠ i → d ≠ j → (S d ↔ lf X Y i j d)

section
variable {X Y Z : Nat → Int} {L : List Nat}
theorem Low.lt_negY (G : GP X Y Z L) {S : Nat → Prop} {s t : Nat} (W : Low X (fun i => - Y i) L S s t) (h : X s < X t) : Lt X Y L S s t :=
  ⟨W.hs, W.ht, W.st, W.ss, W.nt, fun d hd d1 d2 => by
    rw [W.rest d hd d1 d2]
    unfold lo
    have o := G.hO s t d W.hs W.ht hd W.st d1.symm d2.symm
    rw [O_negY, mn (by omega) (by omega)]
    omega⟩

theorem Cut.lt (G : GP X Y Z L) {S : Nat → Prop} (C : Cut X Y L S) (h : ∃ s t, s ∈ L ∧ t ∈ L ∧ S s ∧ ¬ S t) : ∃ s t, Lt X Y L S s t := by
  obtain ⟨i, j, hi, hj, ij, r⟩ := C
  obtain ⟨s₀, t₀, hs₀, ht₀, ss₀, nt₀⟩ := h
  have xij := G.hx i j hi hj ij
  have xst := G.hx s₀ t₀ hs₀ ht₀ (fun e => nt₀ (e ▸ ss₀))
  have v : ∀ d, d ∈ L → (S d → 0 ≤ O X Y i j d) ∧ (¬ S d → O X Y i j d ≤ 0) := by
    intro d hd
    by_cases d1 : d = i
    · rw [d1, O_aa]; omega
    by_cases d2 : d = j
    · rw [d2, O_bb]; omega
    have := r d hd d1 d2
    unfold lf at this
    refine ⟨fun h => Int.le_of_lt (this.1 h), fun h => Int.not_lt.1 (mt this.2 h)⟩
  -- from above: a left tangent with s to the left of t, if there is such a pair; else S lies to the right
  have up : Qd X (fun i => - Y i) L S → ∃ s t, Lt X Y L S s t := by
    intro q
    by_cases h : ∃ s t, s ∈ L ∧ t ∈ L ∧ S s ∧ ¬ S t ∧ X s < X t
    · obtain ⟨s, t, W, x⟩ := q.low' G.negY h
      exact ⟨s, t, W.lt_negY G x⟩
    · have q' : Qd X Y L S :=
        ⟨fun a b c ha hb _ ab _ sa _ sb => absurd ⟨a, b, ha, hb, sa, sb, ab⟩ h, fun a b c _ hb hc _ bc _ sc sb => absurd ⟨b, c, hb, hc, sb, sc, bc⟩ h⟩
      have : ¬ X s₀ < X t₀ := fun x => h ⟨s₀, t₀, hs₀, ht₀, ss₀, nt₀, x⟩
      obtain ⟨s, t, W, x⟩ := q'.low G ⟨s₀, t₀, hs₀, ht₀, ss₀, nt₀, by omega⟩
      exact ⟨s, t, W.lt G x⟩
  by_cases x : X j < X i
  · have q : Qd X Y L S := Qd.of_ws G (p := Y j - Y i) (q := X i - X j) (r := - (X i - X j) * Y i - (Y j - Y i) * X i) (by omega)
      (fun d hd sd => by
        have := (v d hd).1 sd
        have e : (Y j - Y i) * X d + (X i - X j) * Y d + (- (X i - X j) * Y i - (Y j - Y i) * X i) = - O X Y i j d := by unfold O; grind
        omega)
      (fun d hd sd => by
        have := (v d hd).2 sd
        have e : (Y j - Y i) * X d + (X i - X j) * Y d + (- (X i - X j) * Y i - (Y j - Y i) * X i) = - O X Y i j d := by unfold O; grind
        omega)
    rcases q.cases G with m | ⟨s, t, W, _⟩
    · exact up m.qd
    · exact ⟨s, t, W⟩
  · refine up (Qd.of_ws G.negY (p := Y j - Y i) (q := X j - X i) (r := (X j - X i) * Y i - (Y j - Y i) * X i) (by omega) (fun d hd sd => ?_) (fun d hd sd => ?_))
    · have := (v d hd).1 sd
      have e : (Y j - Y i) * X d + (X j - X i) * - Y d + ((X j - X i) * Y i - (Y j - Y i) * X i) = - O X Y i j d := by unfold O; grind
      omega
    · have := (v d hd).2 sd
      have e : (Y j - Y i) * X d + (X j - X i) * - Y d + ((X j - X i) * Y i - (Y j - Y i) * X i) = - O X Y i j d := by unfold O; grind
      omega

/-- as many sets cut off as ordered pairs -/
theorem Fam.cuts (G : GP X Y Z L) {k : Nat} (k1 : 1 ≤ k) (k2 : k + 1 ≤ L.length) {F : List (List Nat)} (A : Fam L (k : Int) (Cut X Y L) F) : (F.length : Int) = eT (lf X Y) L ((k : Int) - 1) := by
  have each : ∀ R, R ∈ F → (1 : Int) = sm L (fun s => sm L fun t => ind (Lt X Y L (fun d => d ∈ R) s t)) := by
    intro R hR
    obtain ⟨hc, C⟩ := A.sound R hR
    obtain ⟨s₀, hs₀, ss₀⟩ := cnt_pos (l := L) (p := fun d => d ∈ R) (by omega)
    obtain ⟨t₀, ht₀, nt₀⟩ := cnt_all (l := L) (p := fun d => d ∈ R) (by omega)
    obtain ⟨s, t, W⟩ := C.lt G ⟨s₀, t₀, hs₀, ht₀, ss₀, nt₀⟩
    rw [sm2 G.nd W.hs W.ht W (fun s' t' h => h.uniq G W)]
  rw [← sm_one, sm_congr each, sm_comm]
  unfold eT
  refine sm_congr fun s hs => ?_
  rw [sm_comm]
  refine sm_congr fun t ht => ?_
  rw [show sm F (fun R => ind (Lt X Y L (fun d => d ∈ R) s t)) = sm F (fun R => ind (s ≠ t ∧ ∀ d, d ∈ L → (d ∈ R ↔ (lf X Y s t d ∨ d = s)))) from sm_congr fun R _ => ind_congr (lt_iff hs ht)]
  rw [A.one (s ≠ t) (fun d => lf X Y s t d ∨ d = s) (fun r => ⟨s, t, hs, ht, r, fun d hd d1 d2 => ⟨fun h => h.resolve_right d1, fun h => .inl h⟩⟩), cnt_lf1 G hs]
  exact ind_shift (by omega)
end

/-- the number of sets with a cell -/
theorem cells (X Y : Nat → Int) {L : List Nat} (G : GP X Y (fun i => X i * X i + Y i * Y i) L) (h3 : 3 ≤ L.length) (k : Nat) (k1 : 1 ≤ k) (k2 : k + 1 ≤ L.length)
    {F : List (List Nat)} (A : Fam L (k : Int) (Meets X Y (fun i => X i * X i + Y i * Y i) L) F) (T : Nat → List (List Nat)) (hT : ∀ i, 1 ≤ i → i < k → Fam L (i : Int) (Cut X Y L) (T i)) :
    (F.length : Int) = 2 * (k : Int) * (L.length : Int) - (L.length : Int) - (k : Int) * (k : Int) + 1 - sm (List.range (k - 1)) (fun i => ((T (i + 1)).length : Int)) := by
  have t := A.twice G h3 k1 k2
  have c1 := circles X Y G h3 k k1 (by omega)
  have e : sm (List.range (k - 1)) (fun i => ((T (i + 1)).length : Int)) = sm (List.range (k - 1)) (fun i => eT (lf X Y) L (i : Int)) :=
    sm_congr fun i hi => by
      have hi := List.mem_range.1 hi
      rw [(hT (i + 1) (by omega) (by omega)).cuts G (by omega) (by omega)]
      congr 1
      omega
  rw [e]
  obtain ⟨m, rfl⟩ : ∃ m, k = m + 1 := ⟨k - 1, by omega⟩
  have km : ((m + 1 : Nat) : Int) = (m : Int) + 1 := by omega
  rw [Nat.add_sub_cancel]
  rw [List.range_succ, sm_append] at c1
  simp only [sm_cons, sm_nil] at c1
  rw [km] at t c1 ⊢
  rw [show (m : Int) + 1 - 1 = (m : Int) by omega] at t c1
  rw [show (m : Int) + 1 - 2 = (m : Int) - 1 by omega] at t
  generalize hE : sm (List.range m) (fun i => eT (lf X Y) L (i : Int)) = E at *
  generalize eT (lf X Y) L (m : Int) = ek at *
  by_cases m0 : m = 0
  · subst m0
    rw [cT_neg L (((0 : Nat) : Int) - 1) (by omega)] at t
    have : E = 0 := by rw [← hE]; rfl
    generalize cT (tri X) (ins X Y fun i => X i * X i + Y i * Y i) L ((0 : Nat) : Int) = c at *
    have z : ((0 : Nat) : Int) = 0 := rfl
    rw [z] at *
    grind
  · have c0 := circles X Y G h3 m (by omega) (by omega)
    rw [hE] at c0
    generalize cT (tri X) (ins X Y fun i => X i * X i + Y i * Y i) L (m : Int) = c at *
    generalize cT (tri X) (ins X Y fun i => X i * X i + Y i * Y i) L ((m : Int) - 1) = c' at *
    grind
end Vk
namespace Vk
theorem bound (f : Nat → Int) : ∀ L : List Nat, ∃ B : Int, 0 ≤ B ∧ ∀ i, i ∈ L → - B ≤ f i ∧ f i ≤ B
  | [] => ⟨0, by omega, fun i h => by simp at h⟩
  | a :: L => by
    obtain ⟨B, h0, hB⟩ := bound f L
    refine ⟨B + (if 0 ≤ f a then f a else - f a), by split <;> omega, fun i hi => ?_⟩
    rcases List.mem_cons.1 hi with rfl | hi
    · split <;> omega
    · have := hB i hi
      split <;> omega

/-- turned and stretched, so that no two points stand over one another -/
theorem turned (x y : Nat → Int) {L : List Nat} (hn : L.Nodup)
    (hxy : ∀ a b, a ∈ L → b ∈ L → a ≠ b → x a ≠ x b ∨ y a ≠ y b)
    (hO : ∀ a b c, a ∈ L → b ∈ L → c ∈ L → a ≠ b → a ≠ c → b ≠ c → O x y a b c ≠ 0)
    (hD : ∀ a b c d, a ∈ L → b ∈ L → c ∈ L → d ∈ L → a ≠ b → a ≠ c → b ≠ c → d ≠ a → d ≠ b → d ≠ c → D x y (fun i => x i * x i + y i * y i) a b c d ≠ 0) :
    ∃ X Y : Nat → Int, GP X Y (fun i => X i * X i + Y i * Y i) L ∧ (∀ a b d, lf X Y a b d ↔ lf x y a b d) ∧
      (∀ a b c d, ins X Y (fun i => X i * X i + Y i * Y i) a b c d ↔ ins x y (fun i => x i * x i + y i * y i) a b c d) := by
  obtain ⟨B, h0, hB⟩ := bound y L
  let m : Int := 2 * B + 1
  let X : Nat → Int := fun i => m * x i + y i
  let Y : Nat → Int := fun i => m * y i - x i
  have k0 : 0 < m * m + 1 := by
    have : 0 < m * m := Int.mul_pos (by omega) (by omega)
    omega
  have eO : ∀ a b c, O X Y a b c = (m * m + 1) * O x y a b c := by
    intro a b c
    show O (fun i => m * x i + y i) (fun i => m * y i - x i) a b c = _
    unfold O; grind
  have eD : ∀ a b c d, D X Y (fun i => X i * X i + Y i * Y i) a b c d = (m * m + 1) * ((m * m + 1) * D x y (fun i => x i * x i + y i * y i) a b c d) := by
    intro a b c d
    have z : (fun i => X i * X i + Y i * Y i) = fun i => (m * m + 1) * (x i * x i + y i * y i) := funext fun i => by
      show (m * x i + y i) * (m * x i + y i) + (m * y i - x i) * (m * y i - x i) = _; grind
    rw [z]
    unfold D
    rw [eO]
    generalize hz : (fun i => x i * x i + y i * y i) = w
    have z1 : ∀ i, (m * m + 1) * (x i * x i + y i * y i) = (m * m + 1) * w i := fun i => by rw [← hz]
    rw [show (fun i => (m * m + 1) * (x i * x i + y i * y i)) = fun i => (m * m + 1) * w i from funext z1]
    show _ - ((m * y d - x d) - (m * y a - x a)) * O (fun i => m * x i + y i) (fun i => (m * m + 1) * w i) a b c + ((m * x d + y d) - (m * x a + y a)) * O (fun i => m * y i - x i) (fun i => (m * m + 1) * w i) a b c = _
    unfold O; grind
  refine ⟨X, Y, ⟨hn, fun a b ha hb ab => ?_, fun a b c ha hb hc h1 h2 h3 => ?_, fun a b c d ha hb hc hd h1 h2 h3 h4 h5 h6 => ?_⟩, fun a b d => ?_, fun a b c d => ?_⟩
  · intro e
    have e : m * x a + y a = m * x b + y b := e
    have b1 := hB a ha
    have b2 := hB b hb
    have e2 : m * (x a - x b) = y b - y a := by rw [Int.mul_sub]; omega
    by_cases h : x a = x b
    · rw [h, Int.sub_self, Int.mul_zero] at e2
      exact (hxy a b ha hb ab).elim (fun z => z h) (fun z => z (by omega))
    · by_cases p : 0 < x a - x b
      · have := Int.mul_le_mul_of_nonneg_left (show 1 ≤ x a - x b by omega) (show 0 ≤ m by omega)
        omega
      · have := Int.mul_le_mul_of_nonneg_left (show 1 ≤ x b - x a by omega) (show 0 ≤ m by omega)
        have e3 : m * (x b - x a) = - (m * (x a - x b)) := by rw [← Int.mul_neg]; congr 1; omega
        omega
  · rw [eO]; exact Int.mul_ne_zero (by omega) (hO a b c ha hb hc h1 h2 h3)
  · rw [eD]; exact Int.mul_ne_zero (by omega) (Int.mul_ne_zero (by omega) (hD a b c d ha hb hc hd h1 h2 h3 h4 h5 h6))
  · unfold lf
    rw [eO]
    exact ⟨fun h => Int.lt_of_mul_lt_mul_left (by rw [Int.mul_zero]; exact h) (Int.le_of_lt k0), fun h => Int.mul_pos k0 h⟩
  · unfold ins
    rw [eO, eD]
    have e : (m * m + 1) * ((m * m + 1) * D x y (fun i => x i * x i + y i * y i) a b c d) * ((m * m + 1) * O x y a b c) = ((m * m + 1) * ((m * m + 1) * (m * m + 1))) * (D x y (fun i => x i * x i + y i * y i) a b c d * O x y a b c) := by grind
    have k3 : 0 < (m * m + 1) * ((m * m + 1) * (m * m + 1)) := Int.mul_pos k0 (Int.mul_pos k0 k0)
    rw [e]
    refine ⟨fun h => Int.lt_of_mul_lt_mul_left (by rw [Int.mul_zero]; exact h) (Int.le_of_lt k3), fun h => ?_⟩
    exact Int.mul_neg_of_pos_of_neg k3 h

/-- the number of sets with a cell, for points that may stand over one another -/
theorem cells' (x y : Nat → Int) {L : List Nat} (hn : L.Nodup) (h3 : 3 ≤ L.length)
    (hO : ∀ a b c, a ∈ L → b ∈ L → c ∈ L → a ≠ b → a ≠ c → b ≠ c → O x y a b c ≠ 0)
    (hD : ∀ a b c d, a ∈ L → b ∈ L → c ∈ L → d ∈ L → a ≠ b → a ≠ c → b ≠ c → d ≠ a → d ≠ b → d ≠ c → D x y (fun i => x i * x i + y i * y i) a b c d ≠ 0)
    (k : Nat) (k1 : 1 ≤ k) (k2 : k + 1 ≤ L.length)
    {F : List (List Nat)} (A : Fam L (k : Int) (Meets x y (fun i => x i * x i + y i * y i) L) F) (T : Nat → List (List Nat)) (hT : ∀ i, 1 ≤ i → i < k → Fam L (i : Int) (Cut x y L) (T i)) :
    (F.length : Int) = 2 * (k : Int) * (L.length : Int) - (L.length : Int) - (k : Int) * (k : Int) + 1 - sm (List.range (k - 1)) (fun i => ((T (i + 1)).length : Int)) := by
  have third : ∀ a b, a ∈ L → b ∈ L → a ≠ b → ∃ c, c ∈ L ∧ a ≠ c ∧ b ≠ c := by
    intro a b ha hb ab
    refine Classical.byContradiction fun z => ?_
    have e : cnt L (fun d => d = a ∨ d = b) = 2 := by
      rw [cnt_or (fun d _ h => ab (h.1.symm.trans h.2)), cnt_single hn ha, cnt_single hn hb]; rfl
    have e2 : cnt L (fun d => d = a ∨ d = b) = (L.length : Int) := by
      rw [← sm_one]
      exact sm_congr fun d hd => ind_t (Classical.byContradiction fun n => z ⟨d, hd, fun h => n (.inl h.symm), fun h => n (.inr h.symm)⟩)
    omega
  have hxy : ∀ a b, a ∈ L → b ∈ L → a ≠ b → x a ≠ x b ∨ y a ≠ y b := by
    intro a b ha hb ab
    obtain ⟨c, hc, ac, bc⟩ := third a b ha hb ab
    have o := hO a b c ha hb hc ab ac bc
    by_cases h1 : x a = x b
    · refine .inr fun h2 => o ?_
      unfold O
      rw [h1, h2]; grind
    · exact .inl h1
  obtain ⟨X, Y, G, e1, e2⟩ := turned x y hn hxy hO hD
  refine cells X Y G h3 k k1 k2 (A.mono fun S => ?_) T (fun i i1 i2 => (hT i i1 i2).mono fun S => ?_)
  · constructor
    · rintro ⟨s, t, u, I⟩
      exact ⟨s, t, u, I.hs, I.ht, I.hu, I.st, I.su, I.tu, I.ss, I.nt, fun d hd d1 d2 d3 => (I.rest d hd d1 d2 d3).trans (e2 s t u d).symm⟩
    · rintro ⟨s, t, u, I⟩
      exact ⟨s, t, u, I.hs, I.ht, I.hu, I.st, I.su, I.tu, I.ss, I.nt, fun d hd d1 d2 d3 => (I.rest d hd d1 d2 d3).trans (e2 s t u d)⟩
  · constructor
    · rintro ⟨i, j, hi, hj, ij, r⟩
      exact ⟨i, j, hi, hj, ij, fun d hd d1 d2 => (r d hd d1 d2).trans (e1 i j d).symm⟩
    · rintro ⟨i, j, hi, hj, ij, r⟩
      exact ⟨i, j, hi, hj, ij, fun d hd d1 d2 => (r d hd d1 d2).trans (e1 i j d)⟩
end Vk
namespace Vk
/-- a point: x, y, w -/
abbrev Pt := Int × Int × Int
/-- small enough to multiply -/
def Sm (p : Pt) : Prop := (-100000000 ≤ p.1 ∧ p.1 ≤ 100000000) ∧ (-100000000 ≤ p.2.1 ∧ p.2.1 ≤ 100000000) ∧ (p.2.2 = 1 ∨ p.2.2 = 2)
def sgn (n : Int) : Int := (if n > 0 then 1 else 0) - (if n < 0 then 1 else 0)
def dbl (a b c : Pt) : Int := a.1 * (b.2.1 * c.2.2 - c.2.1 * b.2.2) - a.2.1 * (b.1 * c.2.2 - c.1 * b.2.2) + a.2.2 * (b.1 * c.2.1 - c.1 * b.2.1)
def mnr (a b c : Pt) : Int := a.1 * (b.2.1 * c.2.2 - b.2.2 * c.2.1) - a.2.1 * (b.1 * c.2.2 - b.2.2 * c.1) + a.2.2 * (b.1 * c.2.1 - b.2.1 * c.1)
theorem sgn_small (n : Int) : -1 ≤ sgn n ∧ sgn n ≤ 1 := by unfold sgn; split <;> split <;> omega
theorem sgn_pos {n : Int} : 0 < sgn n ↔ 0 < n := by unfold sgn; split <;> split <;> omega
theorem sgn_zero {n : Int} : sgn n = 0 ↔ n = 0 := by unfold sgn; split <;> split <;> omega

/-- coordinates over the weight 2 -/
def wE (p : Pt) : Int := if p.2.2 = 1 then 2 else 1
theorem wE_pos (p : Pt) : 0 < wE p := by unfold wE; split <;> omega
def cX (p : Pt) : Int := p.1 * wE p
def cY (p : Pt) : Int := p.2.1 * wE p
def oP (a b c : Pt) : Int := (cX b - cX a) * (cY c - cY a) - (cX c - cX a) * (cY b - cY a)
def cZ (p : Pt) : Int := cX p * cX p + cY p * cY p
def dP (a b c d : Pt) : Int :=
  (cZ d - cZ a) * oP a b c - (cY d - cY a) * ((cX b - cX a) * (cZ c - cZ a) - (cX c - cX a) * (cZ b - cZ a)) + (cX d - cX a) * ((cY b - cY a) * (cZ c - cZ a) - (cY c - cY a) * (cZ b - cZ a))

theorem dbl_oP {a b c : Pt} (ha : a.2.2 = 1 ∨ a.2.2 = 2) (hb : b.2.2 = 1 ∨ b.2.2 = 2) (hc : c.2.2 = 1 ∨ c.2.2 = 2) : ∃ e : Int, 0 < e ∧ e * dbl a b c = 2 * oP a b c := by
  obtain ⟨a1, a2, a3⟩ := a
  obtain ⟨b1, b2, b3⟩ := b
  obtain ⟨c1, c2, c3⟩ := c
  dsimp only at ha hb hc
  refine ⟨wE (a1, a2, a3) * (wE (b1, b2, b3) * wE (c1, c2, c3)), ?_, ?_⟩
  · exact Int.mul_pos (wE_pos _) (Int.mul_pos (wE_pos _) (wE_pos _))
  · unfold oP cX cY dbl
    rcases ha with rfl | rfl <;> rcases hb with rfl | rfl <;> rcases hc with rfl | rfl <;> simp only [wE] <;> grind

theorem dbl_pos {a b c : Pt} (ha : Sm a) (hb : Sm b) (hc : Sm c) : (0 < sgn (dbl a b c) ↔ 0 < oP a b c) ∧ (sgn (dbl a b c) = 0 ↔ oP a b c = 0) := by
  obtain ⟨e, e0, h⟩ := dbl_oP ha.2.2 hb.2.2 hc.2.2
  rw [sgn_pos, sgn_zero]
  refine ⟨⟨fun k => ?_, fun k => ?_⟩, ⟨fun k => ?_, fun k => ?_⟩⟩
  · have := Int.mul_pos e0 k; omega
  · have : 0 < e * dbl a b c := by omega
    exact Int.lt_of_mul_lt_mul_left (by rw [Int.mul_zero]; exact this) (Int.le_of_lt e0)
  · rw [k] at h; omega
  · rw [k] at h
    exact (Int.mul_eq_zero.1 (show e * dbl a b c = 0 by omega)).resolve_left (by omega)

/-- a row of the circle's determinant, over the weight W -/
def rowP (W : Int) (p d : Pt) : Pt :=
  (p.1 * (W / p.2.2) - d.1 * (W / d.2.2), p.2.1 * (W / p.2.2) - d.2.1 * (W / d.2.2),
    (p.1 * (W / p.2.2) - d.1 * (W / d.2.2)) * (p.1 * (W / p.2.2) - d.1 * (W / d.2.2)) + (p.2.1 * (W / p.2.2) - d.2.1 * (W / d.2.2)) * (p.2.1 * (W / p.2.2) - d.2.1 * (W / d.2.2)))
def sideP (W : Int) (a b c d : Pt) : Int := sgn (mnr (rowP W a d) (rowP W b d) (rowP W c d)) * sgn (dbl a b c)

theorem mnr_dP {W : Int} {a b c d : Pt} (hW : W = 1 ∨ W = 2) (ha : a.2.2 = 1 ∨ a.2.2 = 2) (hb : b.2.2 = 1 ∨ b.2.2 = 2) (hc : c.2.2 = 1 ∨ c.2.2 = 2) (hd : d.2.2 = 1 ∨ d.2.2 = 2)
    (da : a.2.2 ∣ W) (db : b.2.2 ∣ W) (dc : c.2.2 ∣ W) (dd : d.2.2 ∣ W) : ∃ e : Int, 0 < e ∧ e * mnr (rowP W a d) (rowP W b d) (rowP W c d) = - dP a b c d := by
  obtain ⟨a1, a2, a3⟩ := a
  obtain ⟨b1, b2, b3⟩ := b
  obtain ⟨c1, c2, c3⟩ := c
  obtain ⟨d1, d2, d3⟩ := d
  dsimp only at ha hb hc hd da db dc dd
  have big : ∀ (x1 y1 x2 y2 x3 y3 x4 y4 : Int), mnr (x1 - x4, y1 - y4, (x1 - x4) * (x1 - x4) + (y1 - y4) * (y1 - y4)) (x2 - x4, y2 - y4, (x2 - x4) * (x2 - x4) + (y2 - y4) * (y2 - y4)) (x3 - x4, y3 - y4, (x3 - x4) * (x3 - x4) + (y3 - y4) * (y3 - y4)) =
      - (((x4 * x4 + y4 * y4) - (x1 * x1 + y1 * y1)) * ((x2 - x1) * (y3 - y1) - (x3 - x1) * (y2 - y1)) - (y4 - y1) * ((x2 - x1) * ((x3 * x3 + y3 * y3) - (x1 * x1 + y1 * y1)) - (x3 - x1) * ((x2 * x2 + y2 * y2) - (x1 * x1 + y1 * y1))) + (x4 - x1) * ((y2 - y1) * ((x3 * x3 + y3 * y3) - (x1 * x1 + y1 * y1)) - (y3 - y1) * ((x2 * x2 + y2 * y2) - (x1 * x1 + y1 * y1)))) := by
    intros; unfold mnr; dsimp only; grind
  rcases hW with rfl | rfl
  · have o : ∀ w : Int, (w = 1 ∨ w = 2) → w ∣ 1 → w = 1 := by
      rintro w (rfl | rfl) h
      · rfl
      · omega
    obtain rfl := o _ ha da
    obtain rfl := o _ hb db
    obtain rfl := o _ hc dc
    obtain rfl := o _ hd dd
    refine ⟨16, by decide, ?_⟩
    unfold rowP dP oP cZ cX cY wE
    dsimp only
    simp only [if_true, show (1 : Int) / 1 = 1 from rfl, Int.mul_one]
    rw [big]
    grind
  · have f : ∀ x w : Int, (w = 1 ∨ w = 2) → x * (2 / w) = x * (if w = 1 then 2 else 1) := by
      rintro x w (rfl | rfl) <;> rfl
    refine ⟨1, by decide, ?_⟩
    unfold rowP dP oP cZ cX cY wE
    dsimp only
    rw [f a1 a3 ha, f a2 a3 ha, f b1 b3 hb, f b2 b3 hb, f c1 c3 hc, f c2 c3 hc, f d1 d3 hd, f d2 d3 hd, big, Int.one_mul]

theorem sideP_spec {W : Int} {a b c d : Pt} (hW : W = 1 ∨ W = 2) (ha : Sm a) (hb : Sm b) (hc : Sm c) (hd : Sm d) (da : a.2.2 ∣ W) (db : b.2.2 ∣ W) (dc : c.2.2 ∣ W) (dd : d.2.2 ∣ W) (o : oP a b c ≠ 0) (q : dP a b c d ≠ 0) :
    sideP W a b c d ≠ 0 ∧ (0 < sideP W a b c d ↔ dP a b c d * oP a b c < 0) := by
  obtain ⟨e, e0, h⟩ := mnr_dP hW ha.2.2 hb.2.2 hc.2.2 hd.2.2 da db dc dd
  have s := dbl_pos ha hb hc
  have z1 : sgn (dbl a b c) ≠ 0 := fun k => o (s.2.1 k)
  have z2 : mnr (rowP W a d) (rowP W b d) (rowP W c d) ≠ 0 := fun k => q (by rw [k] at h; omega)
  have z3 : sgn (mnr (rowP W a d) (rowP W b d) (rowP W c d)) ≠ 0 := fun k => z2 (sgn_zero.1 k)
  have p : 0 < mnr (rowP W a d) (rowP W b d) (rowP W c d) ↔ ¬ 0 < dP a b c d := by
    constructor
    · intro k; have := Int.mul_pos e0 k; omega
    · intro k
      refine Classical.byContradiction fun n => ?_
      have := Int.mul_neg_of_pos_of_neg e0 (show mnr (rowP W a d) (rowP W b d) (rowP W c d) < 0 by omega)
      omega
  unfold sideP
  refine ⟨Int.mul_ne_zero z3 z1, ?_⟩
  rw [mp z3 z1, mn q o, sgn_pos, s.1, p]
  grind

/-- points as the program has them, in general position -/
structure Gd (ps : List Pt) : Prop where
  n3 : 3 ≤ ps.length
  n7 : ps.length ≤ 7
  sm : ∀ p, p ∈ ps → Sm p
  gc : ∀ p, p ∈ ps → Int.gcd (Int.gcd p.1 p.2.1 : Nat) p.2.2 = 1
  ho : ∀ i j k, i < j → j < k → k < ps.length → oP (ps.getD i (0, 0, 1)) (ps.getD j (0, 0, 1)) (ps.getD k (0, 0, 1)) ≠ 0
  hd : ∀ i j k m, i < j → j < k → k < m → m < ps.length → dP (ps.getD i (0, 0, 1)) (ps.getD j (0, 0, 1)) (ps.getD k (0, 0, 1)) (ps.getD m (0, 0, 1)) ≠ 0

def gX (ps : List Pt) (i : Nat) : Int := cX (ps.getD i (0, 0, 1))
def gY (ps : List Pt) (i : Nat) : Int := cY (ps.getD i (0, 0, 1))
theorem oP_O (ps : List Pt) (i j k : Nat) : oP (ps.getD i (0, 0, 1)) (ps.getD j (0, 0, 1)) (ps.getD k (0, 0, 1)) = O (gX ps) (gY ps) i j k := rfl
theorem dP_D (ps : List Pt) (i j k m : Nat) : dP (ps.getD i (0, 0, 1)) (ps.getD j (0, 0, 1)) (ps.getD k (0, 0, 1)) (ps.getD m (0, 0, 1)) = D (gX ps) (gY ps) (fun i => gX ps i * gX ps i + gY ps i * gY ps i) i j k m := rfl

theorem any3 {P : Nat → Nat → Nat → Prop} (s1 : ∀ a b c, P a b c → P b a c) (s2 : ∀ a b c, P a b c → P a c b) {n : Nat} (h : ∀ i j k, i < j → j < k → k < n → P i j k) (a b c : Nat) (ha : a < n) (hb : b < n) (hc : c < n) (h1 : a ≠ b) (h2 : a ≠ c) (h3 : b ≠ c) : P a b c := by
  rcases Nat.lt_or_gt_of_ne h1 with x | x <;> rcases Nat.lt_or_gt_of_ne h2 with y | y <;> rcases Nat.lt_or_gt_of_ne h3 with z | z
  · exact h a b c x z hc
  · exact s2 _ _ _ (h a c b y z hb)
  · omega
  · exact s2 _ _ _ (s1 _ _ _ (h c a b y x hb))
  · exact s1 _ _ _ (h b a c x y hc)
  · omega
  · exact s1 _ _ _ (s2 _ _ _ (h b c a z y ha))
  · exact s1 _ _ _ (s2 _ _ _ (s1 _ _ _ (h c b a z x ha)))

theorem any4 {P : Nat → Nat → Nat → Nat → Prop} (s1 : ∀ a b c d, P a b c d → P b a c d) (s2 : ∀ a b c d, P a b c d → P a c b d) (s3 : ∀ a b c d, P a b c d → P a b d c) {n : Nat}
    (h : ∀ i j k m, i < j → j < k → k < m → m < n → P i j k m) (a b c d : Nat) (ha : a < n) (hb : b < n) (hc : c < n) (hd : d < n) (h1 : a ≠ b) (h2 : a ≠ c) (h3 : b ≠ c) (h4 : d ≠ a) (h5 : d ≠ b) (h6 : d ≠ c) : P a b c d := by
  -- d among the sorted others
  refine any3 (P := fun a b c => d ≠ a → d ≠ b → d ≠ c → P a b c d) (n := n) (fun a b c k x y z => s1 _ _ _ _ (k y x z)) (fun a b c k x y z => s2 _ _ _ _ (k x z y)) (fun i j k ij jk kn x y z => ?_) a b c ha hb hc h1 h2 h3 h4 h5 h6
  by_cases dk : k < d
  · exact h i j k d ij jk dk hd
  · by_cases dj : j < d
    · exact s3 _ _ _ _ (h i j d k ij dj (by omega) kn)
    · by_cases di : i < d
      · exact s3 _ _ _ _ (s2 _ _ _ _ (h i d j k di (by omega) jk kn))
      · exact s3 _ _ _ _ (s2 _ _ _ _ (s1 _ _ _ _ (h d i j k (by omega) ij jk kn)))

theorem Gd.nO {ps : List Pt} (g : Gd ps) (a b c : Nat) (ha : a < ps.length) (hb : b < ps.length) (hc : c < ps.length) (h1 : a ≠ b) (h2 : a ≠ c) (h3 : b ≠ c) : O (gX ps) (gY ps) a b c ≠ 0 :=
  any3 (P := fun a b c => O (gX ps) (gY ps) a b c ≠ 0) (fun a b c h => by rw [O_swap']; omega) (fun a b c h => by rw [O_swap]; omega) (fun i j k h1 h2 h3 => by rw [← oP_O]; exact g.ho i j k h1 h2 h3) a b c ha hb hc h1 h2 h3

theorem D_swap3 (X Y Z : Nat → Int) (a b c d : Nat) : D X Y Z a b d c = - D X Y Z a b c d := by unfold D O; grind
theorem Gd.nD {ps : List Pt} (g : Gd ps) (a b c d : Nat) (ha : a < ps.length) (hb : b < ps.length) (hc : c < ps.length) (hd : d < ps.length) (h1 : a ≠ b) (h2 : a ≠ c) (h3 : b ≠ c) (h4 : d ≠ a) (h5 : d ≠ b) (h6 : d ≠ c) :
    D (gX ps) (gY ps) (fun i => gX ps i * gX ps i + gY ps i * gY ps i) a b c d ≠ 0 :=
  any4 (P := fun a b c d => D (gX ps) (gY ps) (fun i => gX ps i * gX ps i + gY ps i * gY ps i) a b c d ≠ 0) (fun a b c d h => by rw [D_swap']; omega) (fun a b c d h => by rw [D_swap]; omega) (fun a b c d h => by rw [D_swap3]; omega)
    (fun i j k m h1 h2 h3 h4 => by rw [← dP_D]; exact g.hd i j k m h1 h2 h3 h4) a b c d ha hb hc hd h1 h2 h3 h4 h5 h6

/-- two places hold two points -/
theorem Gd.ne {ps : List Pt} (g : Gd ps) {i j : Nat} (hi : i < ps.length) (hj : j < ps.length) (ij : i ≠ j) : ps.getD i (0, 0, 1) ≠ ps.getD j (0, 0, 1) := by
  intro e
  have h3 := g.n3
  obtain ⟨k, hk, ki, kj⟩ : ∃ k, k < ps.length ∧ k ≠ i ∧ k ≠ j := by
    by_cases h0 : 0 ≠ i ∧ 0 ≠ j
    · exact ⟨0, by omega, h0.1, h0.2⟩
    · by_cases h1 : 1 ≠ i ∧ 1 ≠ j
      · exact ⟨1, by omega, h1.1, h1.2⟩
      · exact ⟨2, by omega, by omega, by omega⟩
  refine g.nO i j k hi hj hk ij ki.symm kj.symm ?_
  unfold Vk.O gX gY
  rw [e]; grind
end Vk
/-! the text, by places -/
namespace Mc
open PySem PySem.Spec PyProof.Rows L2
def topS (i : Nat) : Stmt := PySem.Challenge.pw_meshcore_k70_whole_numbers_of_cells.main.body.getD i (.Pass ⟨0, 0, 0, 0⟩)
abbrev s_law_taken : Stmt := topS 40
abbrev N_law_taken : List Str := ["_law_row", "_law_many", "_law_found", "_law_cell"]
theorem sc_law_taken : FnScope N_law_taken ["_law_row", "_law_many"] (defScope s_law_taken) := ⟨rfl, rfl, rfl, by decide +kernel, rfl, by decide +kernel, by decide +kernel⟩

abbrev s_law_pick : Stmt := topS 41
abbrev N_law_pick : List Str := ["_law_row", "_law_things"]
theorem sc_law_pick : FnScope N_law_pick ["_law_row", "_law_things"] (defScope s_law_pick) := ⟨rfl, rfl, rfl, by decide +kernel, rfl, by decide +kernel, by decide +kernel⟩

abbrev s_law_signed : Stmt := topS 42
abbrev N_law_signed : List Str := ["_law_row", "_law_most"]
theorem sc_law_signed : FnScope N_law_signed ["_law_row", "_law_most"] (defScope s_law_signed) := ⟨rfl, rfl, rfl, by decide +kernel, rfl, by decide +kernel, by decide +kernel⟩

abbrev s_law_grid : Stmt := topS 43
abbrev N_law_grid : List Str := ["_law_row", "_law_size"]
theorem sc_law_grid : FnScope N_law_grid ["_law_row", "_law_size"] (defScope s_law_grid) := ⟨rfl, rfl, rfl, by decide +kernel, rfl, by decide +kernel, by decide +kernel⟩

abbrev s_law_gcd : Stmt := topS 49
abbrev N_law_gcd : List Str := ["_law_one", "_law_other"]
theorem sc_law_gcd : FnScope N_law_gcd ["_law_one", "_law_other"] (defScope s_law_gcd) := ⟨rfl, rfl, rfl, by decide +kernel, rfl, by decide +kernel, by decide +kernel⟩

abbrev s_law_lowest : Stmt := topS 50
abbrev N_law_lowest : List Str := ["_law_x", "_law_y", "_law_w", "_law_common"]
theorem sc_law_lowest : FnScope N_law_lowest ["_law_x", "_law_y", "_law_w"] (defScope s_law_lowest) := ⟨rfl, rfl, rfl, by decide +kernel, rfl, by decide +kernel, by decide +kernel⟩

abbrev s_law_sign : Stmt := topS 44
abbrev N_law_sign : List Str := ["_law_number"]
theorem sc_law_sign : FnScope N_law_sign ["_law_number"] (defScope s_law_sign) := ⟨rfl, rfl, rfl, by decide +kernel, rfl, by decide +kernel, by decide +kernel⟩

abbrev s_law_doubled : Stmt := topS 45
abbrev N_law_doubled : List Str := ["_law_a", "_law_b", "_law_c", "_law_x", "_law_y", "_law_p", "_law_q"]
theorem sc_law_doubled : FnScope N_law_doubled ["_law_a", "_law_b", "_law_c"] (defScope s_law_doubled) := ⟨rfl, rfl, rfl, by decide +kernel, rfl, by decide +kernel, by decide +kernel⟩

abbrev s_law_turn : Stmt := topS 46
abbrev N_law_turn : List Str := ["_law_a", "_law_b", "_law_c"]
theorem sc_law_turn : FnScope N_law_turn ["_law_a", "_law_b", "_law_c"] (defScope s_law_turn) := ⟨rfl, rfl, rfl, by decide +kernel, rfl, by decide +kernel, by decide +kernel⟩

abbrev s_law_det : Stmt := topS 47
abbrev N_law_det : List Str := ["_law_a", "_law_b", "_law_c", "_law_first"]
theorem sc_law_det : FnScope N_law_det ["_law_a", "_law_b", "_law_c"] (defScope s_law_det) := ⟨rfl, rfl, rfl, by decide +kernel, rfl, by decide +kernel, by decide +kernel⟩

abbrev s_law_in_circle : Stmt := topS 48
abbrev N_law_in_circle : List Str := ["_law_a", "_law_b", "_law_c", "_law_d", "_law_rows", "_law_p", "_law_x", "_law_y", "_law_w"]
theorem sc_law_in_circle : FnScope N_law_in_circle ["_law_a", "_law_b", "_law_c", "_law_d"] (defScope s_law_in_circle) := ⟨rfl, rfl, rfl, by decide +kernel, rfl, by decide +kernel, by decide +kernel⟩

abbrev s_law_sites : Stmt := topS 51
abbrev N_law_sites : List Str := ["_law_row", "_law_least", "_law_most", "_law_found", "_law_many", "_law_size", "_law_turn_here", "_law_p", "_law_bad", "_law_i", "_law_j", "_law_some", "_law_k"]
theorem sc_law_sites : FnScope N_law_sites ["_law_row", "_law_least", "_law_most"] (defScope s_law_sites) := ⟨rfl, rfl, rfl, by decide +kernel, rfl, by decide +kernel, by decide +kernel⟩

abbrev s_is_in : Stmt := topS 9
abbrev N_is_in : List Str := ["value", "least", "most"]
theorem sc_is_in : FnScope N_is_in ["value", "least", "most"] (defScope s_is_in) := ⟨rfl, rfl, rfl, by decide +kernel, rfl, by decide +kernel, by decide +kernel⟩

abbrev s_gcd : Stmt := topS 10
abbrev N_gcd : List Str := ["one", "other"]
theorem sc_gcd : FnScope N_gcd ["one", "other"] (defScope s_gcd) := ⟨rfl, rfl, rfl, by decide +kernel, rfl, by decide +kernel, by decide +kernel⟩

abbrev s_is_point : Stmt := topS 15
abbrev N_is_point : List Str := ["value"]
theorem sc_is_point : FnScope N_is_point ["value"] (defScope s_is_point) := ⟨rfl, rfl, rfl, by decide +kernel, rfl, by decide +kernel, by decide +kernel⟩

abbrev s_need_points : Stmt := topS 16
abbrev N_need_points : List Str := ["value", "at"]
theorem sc_need_points : FnScope N_need_points ["value"] (defScope s_need_points) := ⟨rfl, rfl, rfl, by decide +kernel, rfl, by decide +kernel, by decide +kernel⟩

abbrev s_sign : Stmt := topS 11
abbrev N_sign : List Str := ["number"]
theorem sc_sign : FnScope N_sign ["number"] (defScope s_sign) := ⟨rfl, rfl, rfl, by decide +kernel, rfl, by decide +kernel, by decide +kernel⟩

abbrev s_doubled : Stmt := topS 20
abbrev N_doubled : List Str := ["a", "b", "c", "first", "second"]
theorem sc_doubled : FnScope N_doubled ["a", "b", "c"] (defScope s_doubled) := ⟨rfl, rfl, rfl, by decide +kernel, rfl, by decide +kernel, by decide +kernel⟩

abbrev s_turn_of : Stmt := topS 21
abbrev N_turn_of : List Str := ["a", "b", "c"]
theorem sc_turn_of : FnScope N_turn_of ["a", "b", "c"] (defScope s_turn_of) := ⟨rfl, rfl, rfl, by decide +kernel, rfl, by decide +kernel, by decide +kernel⟩

abbrev s_need_general : Stmt := topS 26
abbrev N_need_general : List Str := ["points", "a", "b", "c"]
theorem sc_need_general : FnScope N_need_general ["points"] (defScope s_need_general) := ⟨rfl, rfl, rfl, by decide +kernel, rfl, by decide +kernel, by decide +kernel⟩

abbrev s_pairs_in : Stmt := topS 30
abbrev N_pairs_in : List Str := ["many", "i", "j"]
theorem sc_pairs_in : FnScope N_pairs_in ["many"] (defScope s_pairs_in) := ⟨rfl, rfl, rfl, by decide +kernel, rfl, by decide +kernel, by decide +kernel⟩

abbrev s_triples_in : Stmt := topS 31
abbrev N_triples_in : List Str := ["many", "i", "j", "k"]
theorem sc_triples_in : FnScope N_triples_in ["many"] (defScope s_triples_in) := ⟨rfl, rfl, rfl, by decide +kernel, rfl, by decide +kernel, by decide +kernel⟩

abbrev s_common_weight : Stmt := topS 17
abbrev N_common_weight : List Str := ["points", "found", "p"]
theorem sc_common_weight : FnScope N_common_weight ["points"] (defScope s_common_weight) := ⟨rfl, rfl, rfl, by decide +kernel, rfl, by decide +kernel, by decide +kernel⟩

abbrev s_scaled : Stmt := topS 18
abbrev N_scaled : List Str := ["points", "weight", "p"]
theorem sc_scaled : FnScope N_scaled ["points"] (defScope s_scaled) := ⟨rfl, rfl, rfl, by decide +kernel, rfl, by decide +kernel, by decide +kernel⟩

abbrev s_minor : Stmt := topS 23
abbrev N_minor : List Str := ["a", "b", "c", "first"]
theorem sc_minor : FnScope N_minor ["a", "b", "c"] (defScope s_minor) := ⟨rfl, rfl, rfl, by decide +kernel, rfl, by decide +kernel, by decide +kernel⟩

abbrev s_side_of : Stmt := topS 24
abbrev N_side_of : List Str := ["a", "b", "c", "d", "pairs", "weight", "rows", "first", "second", "third", "x", "y"]
theorem sc_side_of : FnScope N_side_of ["a", "b", "c", "d"] (defScope s_side_of) := ⟨rfl, rfl, rfl, by decide +kernel, rfl, by decide +kernel, by decide +kernel⟩

abbrev s_need_sites : Stmt := topS 34
abbrev N_need_sites : List Str := ["points", "many", "i", "j", "k", "m"]
theorem sc_need_sites : FnScope N_need_sites ["points"] (defScope s_need_sites) := ⟨rfl, rfl, rfl, by decide +kernel, rfl, by decide +kernel, by decide +kernel⟩

abbrev s_need_size : Stmt := topS 35
abbrev N_need_size : List Str := ["points", "k"]
theorem sc_need_size : FnScope N_need_size ["points", "k"] (defScope s_need_size) := ⟨rfl, rfl, rfl, by decide +kernel, rfl, by decide +kernel, by decide +kernel⟩

abbrev s_inside_of : Stmt := topS 36
abbrev N_inside_of : List Str := ["points", "triple", "a", "b", "c", "others", "k"]
theorem sc_inside_of : FnScope N_inside_of ["points", "triple"] (defScope s_inside_of) := ⟨rfl, rfl, rfl, by decide +kernel, rfl, by decide +kernel, by decide +kernel⟩

abbrev s_choices_at : Stmt := topS 37
abbrev N_choices_at : List Str := ["points", "k", "found", "triple", "inside", "one", "rest", "other"]
theorem sc_choices_at : FnScope N_choices_at ["points", "k"] (defScope s_choices_at) := ⟨rfl, rfl, rfl, by decide +kernel, rfl, by decide +kernel, by decide +kernel⟩

abbrev s_nearest_choices : Stmt := topS 38
abbrev N_nearest_choices : List Str := ["points", "k", "triple", "some", "one", "side"]
theorem sc_nearest_choices : FnScope N_nearest_choices ["points", "k"] (defScope s_nearest_choices) := ⟨rfl, rfl, rfl, by decide +kernel, rfl, by decide +kernel, by decide +kernel⟩

abbrev s_lefts : Stmt := topS 27
abbrev N_lefts : List Str := ["points", "a", "b", "k"]
theorem sc_lefts : FnScope N_lefts ["points", "a", "b"] (defScope s_lefts) := ⟨rfl, rfl, rfl, by decide +kernel, rfl, by decide +kernel, by decide +kernel⟩

abbrev s_separable : Stmt := topS 28
abbrev N_separable : List Str := ["points", "k", "many", "found", "i", "j", "some", "more"]
theorem sc_separable : FnScope N_separable ["points", "k"] (defScope s_separable) := ⟨rfl, rfl, rfl, by decide +kernel, rfl, by decide +kernel, by decide +kernel⟩

abbrev s_law : Stmt := topS 52
abbrev N_law : List Str := ["_law_script", "_law_row", "_law_points", "_law_many", "_law_less", "_law_k", "_law_found"]
theorem sc_law : FnScope N_law ["_law_script"] (defScope s_law) := ⟨rfl, rfl, rfl, by decide +kernel, rfl, by decide +kernel, by decide +kernel⟩

/-- what the top has written -/
structure Txt (K : PySem.W.Frag) (mg : Str → Option Value) where
  n_isinstance : mg "isinstance" = none
  n_int : mg "int" = none
  n_bool : mg "bool" = none
  n_abs : mg "abs" = none
  n_tuple : mg "tuple" = none
  n_len : mg "len" = none
  n_range : mg "range" = none
  n_sorted : mg "sorted" = none
  n_set : mg "set" = none
  n_list : mg "list" = none
  t_LARGEST : Tok
  g_LARGEST : mg "LARGEST" = some (.int 1000000000000 t_LARGEST)
  t_MOST_POINTS : Tok
  g_MOST_POINTS : mg "MOST_POINTS" = some (.int 40 t_MOST_POINTS)
  t_MOST_NEAR : Tok
  g_MOST_NEAR : mg "MOST_NEAR" = some (.int 8 t_MOST_NEAR)
  a_law_taken : Addr
  fd_law_taken : FuncData
  F_law_taken : Fun K "_law_taken" "_law_taken" s_law_taken a_law_taken fd_law_taken
  g_law_taken : mg "_law_taken" = some (.ref a_law_taken)
  b_law_taken : Binds K fd_law_taken ["_law_row", "_law_many"] []
  a_law_pick : Addr
  fd_law_pick : FuncData
  F_law_pick : Fun K "_law_pick" "_law_pick" s_law_pick a_law_pick fd_law_pick
  g_law_pick : mg "_law_pick" = some (.ref a_law_pick)
  b_law_pick : Binds K fd_law_pick ["_law_row", "_law_things"] []
  a_law_signed : Addr
  fd_law_signed : FuncData
  F_law_signed : Fun K "_law_signed" "_law_signed" s_law_signed a_law_signed fd_law_signed
  g_law_signed : mg "_law_signed" = some (.ref a_law_signed)
  b_law_signed : Binds K fd_law_signed ["_law_row", "_law_most"] []
  a_law_grid : Addr
  fd_law_grid : FuncData
  F_law_grid : Fun K "_law_grid" "_law_grid" s_law_grid a_law_grid fd_law_grid
  g_law_grid : mg "_law_grid" = some (.ref a_law_grid)
  b_law_grid : Binds K fd_law_grid ["_law_row", "_law_size"] []
  a_law_gcd : Addr
  fd_law_gcd : FuncData
  F_law_gcd : Fun K "_law_gcd" "_law_gcd" s_law_gcd a_law_gcd fd_law_gcd
  g_law_gcd : mg "_law_gcd" = some (.ref a_law_gcd)
  b_law_gcd : Binds K fd_law_gcd ["_law_one", "_law_other"] []
  a_law_lowest : Addr
  fd_law_lowest : FuncData
  F_law_lowest : Fun K "_law_lowest" "_law_lowest" s_law_lowest a_law_lowest fd_law_lowest
  g_law_lowest : mg "_law_lowest" = some (.ref a_law_lowest)
  b_law_lowest : Binds K fd_law_lowest ["_law_x", "_law_y", "_law_w"] []
  a_law_sign : Addr
  fd_law_sign : FuncData
  F_law_sign : Fun K "_law_sign" "_law_sign" s_law_sign a_law_sign fd_law_sign
  g_law_sign : mg "_law_sign" = some (.ref a_law_sign)
  b_law_sign : Binds K fd_law_sign ["_law_number"] []
  a_law_doubled : Addr
  fd_law_doubled : FuncData
  F_law_doubled : Fun K "_law_doubled" "_law_doubled" s_law_doubled a_law_doubled fd_law_doubled
  g_law_doubled : mg "_law_doubled" = some (.ref a_law_doubled)
  b_law_doubled : Binds K fd_law_doubled ["_law_a", "_law_b", "_law_c"] []
  a_law_turn : Addr
  fd_law_turn : FuncData
  F_law_turn : Fun K "_law_turn" "_law_turn" s_law_turn a_law_turn fd_law_turn
  g_law_turn : mg "_law_turn" = some (.ref a_law_turn)
  b_law_turn : Binds K fd_law_turn ["_law_a", "_law_b", "_law_c"] []
  a_law_det : Addr
  fd_law_det : FuncData
  F_law_det : Fun K "_law_det" "_law_det" s_law_det a_law_det fd_law_det
  g_law_det : mg "_law_det" = some (.ref a_law_det)
  b_law_det : Binds K fd_law_det ["_law_a", "_law_b", "_law_c"] []
  a_law_in_circle : Addr
  fd_law_in_circle : FuncData
  F_law_in_circle : Fun K "_law_in_circle" "_law_in_circle" s_law_in_circle a_law_in_circle fd_law_in_circle
  g_law_in_circle : mg "_law_in_circle" = some (.ref a_law_in_circle)
  b_law_in_circle : Binds K fd_law_in_circle ["_law_a", "_law_b", "_law_c", "_law_d"] []
  a_law_sites : Addr
  fd_law_sites : FuncData
  F_law_sites : Fun K "_law_sites" "_law_sites" s_law_sites a_law_sites fd_law_sites
  g_law_sites : mg "_law_sites" = some (.ref a_law_sites)
  b_law_sites : Binds K fd_law_sites ["_law_row", "_law_least", "_law_most"] []
  a_is_in : Addr
  fd_is_in : FuncData
  F_is_in : Fun K "is_in" "is_in" s_is_in a_is_in fd_is_in
  g_is_in : mg "is_in" = some (.ref a_is_in)
  b_is_in : Binds K fd_is_in ["value", "least", "most"] []
  a_gcd : Addr
  fd_gcd : FuncData
  F_gcd : Fun K "gcd" "gcd" s_gcd a_gcd fd_gcd
  g_gcd : mg "gcd" = some (.ref a_gcd)
  b_gcd : Binds K fd_gcd ["one", "other"] []
  a_is_point : Addr
  fd_is_point : FuncData
  F_is_point : Fun K "is_point" "is_point" s_is_point a_is_point fd_is_point
  g_is_point : mg "is_point" = some (.ref a_is_point)
  b_is_point : Binds K fd_is_point ["value"] []
  a_need_points : Addr
  fd_need_points : FuncData
  F_need_points : Fun K "need_points" "need_points" s_need_points a_need_points fd_need_points
  g_need_points : mg "need_points" = some (.ref a_need_points)
  b_need_points : Binds K fd_need_points ["value"] []
  a_sign : Addr
  fd_sign : FuncData
  F_sign : Fun K "sign" "sign" s_sign a_sign fd_sign
  g_sign : mg "sign" = some (.ref a_sign)
  b_sign : Binds K fd_sign ["number"] []
  a_doubled : Addr
  fd_doubled : FuncData
  F_doubled : Fun K "doubled" "doubled" s_doubled a_doubled fd_doubled
  g_doubled : mg "doubled" = some (.ref a_doubled)
  b_doubled : Binds K fd_doubled ["a", "b", "c"] []
  a_turn_of : Addr
  fd_turn_of : FuncData
  F_turn_of : Fun K "turn_of" "turn_of" s_turn_of a_turn_of fd_turn_of
  g_turn_of : mg "turn_of" = some (.ref a_turn_of)
  b_turn_of : Binds K fd_turn_of ["a", "b", "c"] []
  a_need_general : Addr
  fd_need_general : FuncData
  F_need_general : Fun K "need_general" "need_general" s_need_general a_need_general fd_need_general
  g_need_general : mg "need_general" = some (.ref a_need_general)
  b_need_general : Binds K fd_need_general ["points"] []
  a_pairs_in : Addr
  fd_pairs_in : FuncData
  F_pairs_in : Fun K "pairs_in" "pairs_in" s_pairs_in a_pairs_in fd_pairs_in
  g_pairs_in : mg "pairs_in" = some (.ref a_pairs_in)
  b_pairs_in : Binds K fd_pairs_in ["many"] []
  a_triples_in : Addr
  fd_triples_in : FuncData
  F_triples_in : Fun K "triples_in" "triples_in" s_triples_in a_triples_in fd_triples_in
  g_triples_in : mg "triples_in" = some (.ref a_triples_in)
  b_triples_in : Binds K fd_triples_in ["many"] []
  a_common_weight : Addr
  fd_common_weight : FuncData
  F_common_weight : Fun K "common_weight" "common_weight" s_common_weight a_common_weight fd_common_weight
  g_common_weight : mg "common_weight" = some (.ref a_common_weight)
  b_common_weight : Binds K fd_common_weight ["points"] []
  a_scaled : Addr
  fd_scaled : FuncData
  F_scaled : Fun K "scaled" "scaled" s_scaled a_scaled fd_scaled
  g_scaled : mg "scaled" = some (.ref a_scaled)
  b_scaled : Binds K fd_scaled ["points"] []
  a_minor : Addr
  fd_minor : FuncData
  F_minor : Fun K "minor" "minor" s_minor a_minor fd_minor
  g_minor : mg "minor" = some (.ref a_minor)
  b_minor : Binds K fd_minor ["a", "b", "c"] []
  a_side_of : Addr
  fd_side_of : FuncData
  F_side_of : Fun K "side_of" "side_of" s_side_of a_side_of fd_side_of
  g_side_of : mg "side_of" = some (.ref a_side_of)
  b_side_of : Binds K fd_side_of ["a", "b", "c", "d"] []
  a_need_sites : Addr
  fd_need_sites : FuncData
  F_need_sites : Fun K "need_sites" "need_sites" s_need_sites a_need_sites fd_need_sites
  g_need_sites : mg "need_sites" = some (.ref a_need_sites)
  b_need_sites : Binds K fd_need_sites ["points"] []
  a_need_size : Addr
  fd_need_size : FuncData
  F_need_size : Fun K "need_size" "need_size" s_need_size a_need_size fd_need_size
  g_need_size : mg "need_size" = some (.ref a_need_size)
  b_need_size : Binds K fd_need_size ["points", "k"] []
  a_inside_of : Addr
  fd_inside_of : FuncData
  F_inside_of : Fun K "inside_of" "inside_of" s_inside_of a_inside_of fd_inside_of
  g_inside_of : mg "inside_of" = some (.ref a_inside_of)
  b_inside_of : Binds K fd_inside_of ["points", "triple"] []
  a_choices_at : Addr
  fd_choices_at : FuncData
  F_choices_at : Fun K "choices_at" "choices_at" s_choices_at a_choices_at fd_choices_at
  g_choices_at : mg "choices_at" = some (.ref a_choices_at)
  b_choices_at : Binds K fd_choices_at ["points", "k"] []
  a_nearest_choices : Addr
  fd_nearest_choices : FuncData
  F_nearest_choices : Fun K "nearest_choices" "nearest_choices" s_nearest_choices a_nearest_choices fd_nearest_choices
  g_nearest_choices : mg "nearest_choices" = some (.ref a_nearest_choices)
  b_nearest_choices : Binds K fd_nearest_choices ["points", "k"] []
  a_lefts : Addr
  fd_lefts : FuncData
  F_lefts : Fun K "lefts" "lefts" s_lefts a_lefts fd_lefts
  g_lefts : mg "lefts" = some (.ref a_lefts)
  b_lefts : Binds K fd_lefts ["points", "a", "b"] []
  a_separable : Addr
  fd_separable : FuncData
  F_separable : Fun K "separable" "separable" s_separable a_separable fd_separable
  g_separable : mg "separable" = some (.ref a_separable)
  b_separable : Binds K fd_separable ["points", "k"] []
  a_law : Addr
  fd_law : FuncData
  F_law : Fun K "law" "law" s_law a_law fd_law
  g_law : mg "law" = some (.ref a_law)
  b_law : Binds K fd_law ["_law_script"] []
end Mc
/-! small defs: numbers, turns -/
namespace Mc
open PySem PySem.Spec PyProof.Rows L2 Evl
open Vk (Pt Sm sgn dbl mnr)

/-! ### own rules -/
def rSubB : R2 := fun x y H Q => ∃ a b : Bool, x = .bl a ∧ y = .bl b ∧ Q (.int (b2i a - b2i b)) H
theorem op_subB {X : Cx} : OpR X (binaryOp .Sub) rSubB := by
  intro pins s σ H x y v u Q I rx ry h
  obtain ⟨a, b, rfl, rfl, q⟩ := h
  cases (show v = Value.bool a from rx)
  cases (show u = Value.bool b from ry)
  exact sub_bool ⟨.int (b2i a - b2i b), H, I.tok _, ⟨_, rfl⟩, q⟩

/-! ### rules that name the written part by a letter -/
section
variable {X : Cx} (K : PySem.W.Frag)
theorem ix_tupK (h : X.K = K) : IxR X (rIxT K) := h ▸ ix_tup
theorem ix_listK (h : X.K = K) : IxR X (rIxL K) := h ▸ ix_list
theorem sl_listK (h : X.K = K) : SlR X (rSlL K) := h ▸ sl_list
theorem sl_tupK (h : X.K = K) : SlR X (rSlT K) := h ▸ sl_tup
theorem call_lenK (h : X.K = K) : CallR X (.builtin "len") (rLenS K) := h ▸ call_len_seq
theorem call_isiK (h : X.K = K) : CallR X (.builtin "isinstance") (rIsi K) := h ▸ call_isi
theorem cr_sortedK (h : X.K = K) : CallR X (.builtin "sorted") (rSorted K) := h ▸ cr_sorted
theorem op_inK (h : X.K = K) : OpR X (compareOp .In) (rIn K false) := h ▸ op_in_seq
theorem op_notInK (h : X.K = K) : OpR X (compareOp .NotIn) (rIn K true) := h ▸ op_notIn_seq
def rTupS (K : PySem.W.Frag) : List V → Hp → VK → Prop := fun xs H Q => ∃ p ys, xs = [.ref p] ∧ ((SqL K H p ys ∧ ∀ l, H l = none → Q (.ref l) (upd H l (.tup ys))) ∨ (SqT K H p ys ∧ Q (.ref p) H))
theorem call_tupleK (h : X.K = K) : CallR X (.type "tuple") (rTupS K) := h ▸ call_tuple_of
theorem call_listK (h : X.K = K) : CallR X (.type "list") (rListS K) := h ▸ call_list_of
theorem pi_listK {tg l : Expr} {tl : TE} (h : X.K = K) (hl : PE X l tl) : PI X tg l (iList K tl) := h ▸ pi_list hl
theorem pi_tupK {tg l : Expr} {tl : TE} (h : X.K = K) (hl : PE X l tl) : PI X tg l (iTup K tl) := h ▸ pi_tup hl
theorem pg_tupK {pos : Pos} {es : List Expr} {k : Nat} {t : TGs} {n : Nat} (h : X.K = K) (hc : X.calm = true) (hg : PGs X es t) (hn : (assignEach es X.env).length = n := by rfl) (hst : (assignEach es X.env).findIdx? (·.1) = none := by rfl) :
    PG X (.Tuple es k pos) (gTup K n t) := h ▸ pg_tup hc hg hn hst
theorem pg_unlK {pos : Pos} {es : List Expr} {k : Nat} {t : TGs} {n : Nat} (h : X.K = K) (hc : X.calm = true) (hg : PGs X es t) (hn : (assignEach es X.env).length = n := by rfl) (hst : (assignEach es X.env).findIdx? (·.1) = none := by rfl) :
    PG X (.Tuple es k pos) (gUnl K n t) := h ▸ pg_unl hc hg hn hst
end

/-! ### readings, one step -/
section
variable {ta te : TE} {t tr : TA} {D : Ends} {σ : L2.St} {H : Hp} {Q : VK} {QA : List V → Hp → Prop} {tu tz : TS} {g : TG} {r : R2} {rc : List V → Hp → VK → Prop}
theorem r_ret (h : te σ H D.rt) : tRet te D σ H := h
theorem r_tup (h : t σ H fun xs H1 => xs.length ≤ sizeLine ∧ ∀ p, H1 p = none → Q (.ref p) (upd H1 p (.tup xs))) : tTup t σ H Q := h
theorem r_lst (h : t σ H fun xs H1 => xs.length ≤ sizeLine ∧ ∀ p, H1 p = none → Q (.ref p) (upd H1 p (.lst xs))) : tLst t σ H Q := h
theorem r_cons (h : ta σ H fun x H1 => tr σ H1 fun xs H2 => QA (x :: xs) H2) : tCons ta tr σ H QA := h
theorem r_nil (h : QA [] H) : tNil σ H QA := h
theorem r_cb (h : t σ H fun vs H1 => rc vs H1 Q) : tCB rc t σ H Q := h
theorem r_call {sp : Sp} {dvs : List V} {E : XK} (h : t σ H fun vs H1 => sp (vs ++ dvs) H1 Q E) : tCall sp dvs E t σ H Q := h
theorem r_op (h : ta σ H fun x H1 => te σ H1 fun y H2 => r x y H2 Q) : tOp r ta te σ H Q := h
theorem r_asg {i : Nat} (h : te σ H fun v H1 => D.nx (σ.set i (some v)) H1) : tAsg te (gName i) D σ H := h
theorem r_asgG (h : te σ H fun v H1 => g v σ H1 D.nx) : tAsg te g D σ H := h
theorem r_q {i : Nat} (h : te σ H fun v H1 => tz D (σ.set i (some v)) H1) : tSeq (tAsg te (gName i)) tz D σ H := h
theorem r_qG (h : te σ H fun v H1 => g v σ H1 fun σ2 H2 => tz D σ2 H2) : tSeq (tAsg te g) tz D σ H := h
theorem r_drop (h : te σ H fun _ H1 => D.nx σ H1) : tDrop te D σ H := h
theorem r_qdrop (h : te σ H fun _ H1 => tz D σ H1) : tSeq (tDrop te) tz D σ H := h
theorem r_bm {K : PySem.W.Frag} {T : String} {rm : V → List V → Hp → VK → Prop} (h : ta σ H fun x H1 => tyV K T x H1 ∧ t σ H1 fun xs H2 => rm x xs H2 Q) : tBM K T rm ta t σ H Q := h
theorem r_seq (h : tu { D with nx := tz D } σ H) : tSeq tu tz D σ H := h
theorem r_of {v : V} (h : Ev ta σ H v) (q : ∀ H1, Ex H H1 → Q v H1) : ta σ H Q := h H (Ex.refl H) Q q
end

/-! ### how things are said -/
def pvs (p : Pt) : List V := [.int p.1, .int p.2.1, .int p.2.2]
def PtAt (K : PySem.W.Frag) (H : Hp) (a : Addr) (p : Pt) : Prop := SqT K H a (pvs p)
theorem PtAt.ex {K : PySem.W.Frag} {H H' : Hp} {a : Addr} {p : Pt} (e : Ex H H') (h : PtAt K H a p) : PtAt K H' a p := ex_t e h
/-- a value handed back over any larger heap -/
def Ret (v : V) (H : Hp) (Q : VK) : Prop := ∀ H2, Ex H H2 → Q v H2

local macro_rules | `(tactic| walk_at "ev") => `(tactic| first
  | exact ev_c
  | exact ev_var rfl
  | exact ev_op (ev_var rfl) ev_c (rv_ixT (by assumption) rfl)
  | (refine ev_op ?_ ?_ rv_I0 <;> walk_at "ev")
  | (refine ev_op ?_ ?_ (rv_I ?hc) <;> first | (case hc => first | exact Or.inl ⟨by omega, by omega⟩ | exact Or.inr ⟨by omega, by omega⟩) | walk_at "ev"))

section
variable {P : Program} {w : World} {K : PySem.W.Frag} {mg : Str → Option Value} {base : Heap}

def sp_is_in (K : PySem.W.Frag) : Sp := fun vs H Q _ => ∃ i lo hi : Int, vs = [.int i, .int lo, .int hi] ∧ Ret (.bl (decide (lo ≤ i) && decide (i ≤ hi))) H Q
theorem ok_is_in (M : Txt K mg) : FnOk P w K mg base CX0 1 M.a_is_in M.fd_is_in ["value", "least", "most"] (sp_is_in K) := by
  refine M.F_is_in.ok sc_is_in (fun vs H Q E h => ?_) (fun cdv A outer s H vs Q E hr h => ?_)
  · obtain ⟨_, _, _, rfl, _⟩ := h; rfl
  · obtain ⟨i, lo, hi, rfl, q⟩ := h
    refine ⟨_, (pss_one 
      (ps_ret (pe_and (pe_callB (call_isiK K rfl) (by rfl) M.n_isinstance (by decide +kernel) (pa_cons (pv 0) (pa_cons (pe_bltn (v := .ty "int") (u := .type "int") (by rfl) M.n_int (by decide +kernel) rfl) pa_nil))) (pe_and (pe_not (pe_callB (call_isiK K rfl) (by rfl) M.n_isinstance (by decide +kernel) (pa_cons (pv 0) (pa_cons (pe_bltn (v := .ty "bool") (u := .type "bool") (by rfl) M.n_bool (by decide +kernel) rfl) pa_nil)))) (pe_one (pe_chain op_le op_le (pv 1) (pv 0) (pv 2))))))), ?_⟩
    refine ⟨_, rfl, _, _, _, .type "int", true, rfl, .ty _, .base (.int _), kit_ty (by decide +kernel), true, rfl, iteT ?_⟩
    refine ⟨_, rfl, _, _, _, .type "bool", false, rfl, .ty _, .base (.int _), kit_ty (by decide +kernel), false, rfl, true, rfl, iteT ?_⟩
    refine ⟨_, rfl, _, rfl, _, _, rfl, rfl, _, rfl, ite2 (fun e => ?_) (fun e => ?_)⟩
    · refine ⟨_, rfl, _, _, rfl, rfl, ?_⟩
      rw [show decide (lo ≤ i) = true from e, Bool.true_and] at q
      exact q H (Ex.refl H)
    · rw [show decide (lo ≤ i) = false by simpa using e, Bool.false_and] at q
      exact q H (Ex.refl H)

def sp_sign (K : PySem.W.Frag) : Sp := fun vs H Q _ => ∃ n : Int, vs = [.int n] ∧ Ret (.int (sgn n)) H Q

theorem ok_sign (M : Txt K mg) : FnOk P w K mg base CX0 1 M.a_sign M.fd_sign ["number"] (sp_sign K) := by
  refine M.F_sign.ok sc_sign (fun vs H Q E h => ?_) (fun cdv A outer s H vs Q E hr h => ?_)
  · obtain ⟨_, rfl, _⟩ := h; rfl
  · obtain ⟨n, rfl, q⟩ := h
    refine ⟨_, (pss_one 
      (ps_ret (pe_op op_subB (pe_cmpR op_gt (pv 0) pe_int (nomark _)) (pe_cmpR op_lt (pv 0) pe_int (nomark _))))), ?_⟩
    refine ⟨_, rfl, _, _, rfl, rfl, _, rfl, _, _, rfl, rfl, _, _, rfl, rfl, ?_⟩
    have e : b2i (decide (0 < n)) - b2i (decide (n < 0)) = sgn n := by
      unfold Vk.sgn b2i; simp only [decide_eq_true_eq, gt_iff_lt]
    exact e ▸ q H (Ex.refl H)

def sp_gcd (K : PySem.W.Frag) : Sp := fun vs H Q _ => ∃ a b : Int, vs = [.int a, .int b] ∧ Ret (.int (Int.gcd a b : Nat)) H Q
theorem abs_if (a : Int) : (if a < 0 then -a else a) = (a.natAbs : Int) := by split <;> omega
theorem ok_gcd (M : Txt K mg) : FnOk P w K mg base CX0 1 M.a_gcd M.fd_gcd ["one", "other"] (sp_gcd K) := by
  refine M.F_gcd.ok sc_gcd (fun vs H Q E h => ?_) (fun cdv A outer s H vs Q E hr h => ?_)
  · obtain ⟨_, _, rfl, _⟩ := h; rfl
  · obtain ⟨a, b, rfl, q⟩ := h
    refine ⟨_, (pss_cons 
      (ps_par (i := 0) (j := 1) (by rfl) sc_gcd.nd rfl rfl (by decide) rfl rfl (pa_cons (pe_callB call_abs (by rfl) M.n_abs (by decide +kernel) (pa_cons (pv 0) pa_nil)) (pa_cons (pe_callB call_abs (by rfl) M.n_abs (by decide +kernel) (pa_cons (pv 1) pa_nil)) pa_nil)) (by rfl)) (pss_cons 
      (ps_while PassesOwn.never (pt_cmpR op_ne (pv 1) pe_int (nomark _)) (pss_one 
        (ps_par (i := 0) (j := 1) (by rfl) sc_gcd.nd rfl rfl (by decide) rfl rfl (pa_cons (pv 1) (pa_cons (pe_op op_modN (pv 0) (pv 1)) pa_nil)) (by rfl)))) (pss_one 
      (ps_ret (pv 0))))), ?_⟩
    refine ⟨_, rfl, _, rfl, _, rfl, _, rfl, _, _, rfl, ?_⟩
    rw [abs_if, abs_if]
    refine ⟨fun m σ H' => H' = H ∧ ∃ x y : Nat, σ = [some (.int (x : Int)), some (.int (y : Int))] ∧ y = m ∧ Nat.gcd x y = Int.gcd a b, ⟨_, rfl, a.natAbs, b.natAbs, rfl, rfl, rfl⟩, ?_⟩
    rintro m σ H' ⟨rfl, x, y, rfl, rfl, g⟩
    refine ⟨_, rfl, rfl, _, rfl, ite2 (fun e => ?_) (fun e => ?_)⟩
    · have hy : y ≠ 0 := by
        intro z; subst z; simp at e
      refine ⟨fun σ' H'' => ∃ m', m' < y ∧ H'' = H' ∧ ∃ x y : Nat, σ' = [some (.int (x : Int)), some (.int (y : Int))] ∧ y = m' ∧ Nat.gcd x y = Int.gcd a b, fun _ _ n => n, ?_⟩
      refine ⟨_, rfl, _, rfl, _, rfl, _, _, rfl, rfl, by omega, _, _, rfl, x % y, Nat.mod_lt _ (by omega), rfl, y, x % y, ?_, rfl, ?_⟩
      · show [some (V.int (y : Int)), some (V.int (Int.fmod (x : Int) (y : Int)))] = _
        rw [show Int.fmod (x : Int) (y : Int) = ((x % y : Nat) : Int) by rw [Int.fmod_eq_emod_of_nonneg _ (by omega)]; rfl]
      · rw [← g, Nat.gcd_comm y, ← Nat.gcd_rec, Nat.gcd_comm]
    · have hy : y = 0 := by
        simp at e; omega
      subst hy
      refine ⟨_, rfl, ?_⟩
      rw [Nat.gcd_zero_right] at g
      rw [g]
      exact q _ (Ex.refl _)

def sp_doubled (K : PySem.W.Frag) : Sp := fun vs H Q _ => ∃ (a b c : Addr) (p q r : Pt), vs = [.ref a, .ref b, .ref c] ∧ PtAt K H a p ∧ PtAt K H b q ∧ PtAt K H c r ∧ Sm p ∧ Sm q ∧ Sm r ∧ Ret (.int (dbl p q r)) H Q
theorem ok_doubled (M : Txt K mg) : FnOk P w K mg base CX0 1 M.a_doubled M.fd_doubled ["a", "b", "c"] (sp_doubled K) := by
  refine M.F_doubled.ok sc_doubled (fun vs H Q E h => ?_) (fun cdv A outer s H vs Q E hr h => ?_)
  · obtain ⟨_, _, _, _, _, _, rfl, _⟩ := h; rfl
  · obtain ⟨a, b, c, ⟨p1, p2, p3⟩, ⟨q1, q2, q3⟩, ⟨r1, r2, r3⟩, rfl, ha, hb, hc, sp, sq, sr, q⟩ := h
    unfold Vk.Sm at sp sq sr
    dsimp only at sp sq sr
    refine ⟨_, (pss_cons 
      (ps_set (i := 3) sc_doubled.nd rfl (by first | exact Or.inl rfl | exact Or.inr rfl) (pe_op op_mul (pe_ix (ix_tupK K rfl) (pv 0) pe_int (fun _ _ => rfl)) (pe_op op_sub (pe_op op_mul (pe_ix (ix_tupK K rfl) (pv 1) pe_int (fun _ _ => rfl)) (pe_ix (ix_tupK K rfl) (pv 2) pe_int (fun _ _ => rfl))) (pe_op op_mul (pe_ix (ix_tupK K rfl) (pv 2) pe_int (fun _ _ => rfl)) (pe_ix (ix_tupK K rfl) (pv 1) pe_int (fun _ _ => rfl)))))) (pss_cons 
      (ps_set (i := 4) sc_doubled.nd rfl (by first | exact Or.inl rfl | exact Or.inr rfl) (pe_op op_mul (pe_ix (ix_tupK K rfl) (pv 0) pe_int (fun _ _ => rfl)) (pe_op op_sub (pe_op op_mul (pe_ix (ix_tupK K rfl) (pv 1) pe_int (fun _ _ => rfl)) (pe_ix (ix_tupK K rfl) (pv 2) pe_int (fun _ _ => rfl))) (pe_op op_mul (pe_ix (ix_tupK K rfl) (pv 2) pe_int (fun _ _ => rfl)) (pe_ix (ix_tupK K rfl) (pv 1) pe_int (fun _ _ => rfl)))))) (pss_one 
      (ps_ret (pe_op op_add (pe_op op_sub (pv 3) (pv 4)) (pe_op op_mul (pe_ix (ix_tupK K rfl) (pv 0) pe_int (fun _ _ => rfl)) (pe_op op_sub (pe_op op_mul (pe_ix (ix_tupK K rfl) (pv 1) pe_int (fun _ _ => rfl)) (pe_ix (ix_tupK K rfl) (pv 2) pe_int (fun _ _ => rfl))) (pe_op op_mul (pe_ix (ix_tupK K rfl) (pv 2) pe_int (fun _ _ => rfl)) (pe_ix (ix_tupK K rfl) (pv 1) pe_int (fun _ _ => rfl)))))))))), ?_⟩
    have ha : SqT K H a [.int p1, .int p2, .int p3] := ha
    have hb : SqT K H b [.int q1, .int q2, .int q3] := hb
    have hc : SqT K H c [.int r1, .int r2, .int r3] := hc
    refine q_asg (v := .int (p1 * (q2 * r3 - r2 * q3))) (by walk_at "ev") fun H1 e1 => ?_
    refine q_asg (v := .int (p2 * (q1 * r3 - r1 * q3))) (Ev.mono e1 (by walk_at "ev")) fun H2 e2 => ?_
    exact s_ret (v := .int (dbl (p1, p2, p3) (q1, q2, q3) (r1, r2, r3))) (Ev.mono (e1.trans e2) (by unfold Vk.dbl; dsimp only; walk_at "ev")) fun H3 e3 => q H3 ((e1.trans e2).trans e3)

def sp_turn_of (K : PySem.W.Frag) : Sp := fun vs H Q _ => ∃ (a b c : Addr) (p q r : Pt), vs = [.ref a, .ref b, .ref c] ∧ PtAt K H a p ∧ PtAt K H b q ∧ PtAt K H c r ∧ Sm p ∧ Sm q ∧ Sm r ∧ Ret (.int (sgn (dbl p q r))) H Q
theorem ok_turn_of (M : Txt K mg) : FnOk P w K mg base CX0 2 M.a_turn_of M.fd_turn_of ["a", "b", "c"] (sp_turn_of K) := by
  refine M.F_turn_of.ok sc_turn_of (fun vs H Q E h => ?_) (fun cdv A outer s H vs Q E hr h => ?_)
  · obtain ⟨_, _, _, _, _, _, rfl, _⟩ := h; rfl
  · obtain ⟨a, b, c, p, q, r, rfl, ha, hb, hc, sp, sq, sr, k⟩ := h
    refine ⟨_, (pss_one 
      (ps_ret (pe_call (ok_sign M) (hr.mono (by decide)) (by rfl) M.g_sign M.F_sign.kp M.b_sign .nil pass0 (pa_cons (pe_call (ok_doubled M) (hr.mono (by decide)) (by rfl) M.g_doubled M.F_doubled.kp M.b_doubled .nil pass0 (pa_cons (pv 0) (pa_cons (pv 1) (pa_cons (pv 2) pa_nil)))) pa_nil)))), ?_⟩
    exact ⟨_, rfl, _, rfl, _, rfl, a, b, c, p, q, r, rfl, ha, hb, hc, sp, sq, sr, fun H1 e1 => ⟨_, rfl, fun H2 e2 => k H2 (e1.trans e2)⟩⟩

/-- three numbers, the first two small -/
def Sm3 (p : Pt) : Prop := (-(2 ^ 60) < p.1 ∧ p.1 < 2 ^ 60) ∧ (-(2 ^ 60) < p.2.1 ∧ p.2.1 < 2 ^ 60)
def sp_minor (K : PySem.W.Frag) : Sp := fun vs H Q _ => ∃ (a b c : Addr) (p q r : Pt), vs = [.ref a, .ref b, .ref c] ∧ PtAt K H a p ∧ PtAt K H b q ∧ PtAt K H c r ∧ Sm3 p ∧ Sm3 q ∧ Sm3 r ∧ (-(2 ^ 63) < p.2.2 ∧ p.2.2 < 2 ^ 63) ∧ Ret (.int (mnr p q r)) H Q
theorem ok_minor (M : Txt K mg) : FnOk P w K mg base CX0 1 M.a_minor M.fd_minor ["a", "b", "c"] (sp_minor K) := by
  refine M.F_minor.ok sc_minor (fun vs H Q E h => ?_) (fun cdv A outer s H vs Q E hr h => ?_)
  · obtain ⟨_, _, _, _, _, _, rfl, _⟩ := h; rfl
  · obtain ⟨a, b, c, ⟨p1, p2, p3⟩, ⟨q1, q2, q3⟩, ⟨r1, r2, r3⟩, rfl, ha, hb, hc, sp, sq, sr, sz, q⟩ := h
    unfold Sm3 at sp sq sr
    dsimp only at sp sq sr sz
    refine ⟨_, (pss_cons 
      (ps_set (i := 3) sc_minor.nd rfl (by first | exact Or.inl rfl | exact Or.inr rfl) (pe_op op_mul (pe_ix (ix_tupK K rfl) (pv 0) pe_int (fun _ _ => rfl)) (pe_op op_sub (pe_op op_mul (pe_ix (ix_tupK K rfl) (pv 1) pe_int (fun _ _ => rfl)) (pe_ix (ix_tupK K rfl) (pv 2) pe_int (fun _ _ => rfl))) (pe_op op_mul (pe_ix (ix_tupK K rfl) (pv 1) pe_int (fun _ _ => rfl)) (pe_ix (ix_tupK K rfl) (pv 2) pe_int (fun _ _ => rfl)))))) (pss_one 
      (ps_ret (pe_op op_add (pe_op op_sub (pv 3) (pe_op op_mul (pe_ix (ix_tupK K rfl) (pv 0) pe_int (fun _ _ => rfl)) (pe_op op_sub (pe_op op_mul (pe_ix (ix_tupK K rfl) (pv 1) pe_int (fun _ _ => rfl)) (pe_ix (ix_tupK K rfl) (pv 2) pe_int (fun _ _ => rfl))) (pe_op op_mul (pe_ix (ix_tupK K rfl) (pv 1) pe_int (fun _ _ => rfl)) (pe_ix (ix_tupK K rfl) (pv 2) pe_int (fun _ _ => rfl)))))) (pe_op op_mul (pe_ix (ix_tupK K rfl) (pv 0) pe_int (fun _ _ => rfl)) (pe_op op_sub (pe_op op_mul (pe_ix (ix_tupK K rfl) (pv 1) pe_int (fun _ _ => rfl)) (pe_ix (ix_tupK K rfl) (pv 2) pe_int (fun _ _ => rfl))) (pe_op op_mul (pe_ix (ix_tupK K rfl) (pv 1) pe_int (fun _ _ => rfl)) (pe_ix (ix_tupK K rfl) (pv 2) pe_int (fun _ _ => rfl))))))))), ?_⟩
    have ha : SqT K H a [.int p1, .int p2, .int p3] := ha
    have hb : SqT K H b [.int q1, .int q2, .int q3] := hb
    have hc : SqT K H c [.int r1, .int r2, .int r3] := hc
    refine q_asg (v := .int (p1 * (q2 * r3 - q3 * r2))) (by walk_at "ev") fun H1 e1 => ?_
    exact s_ret (v := .int (mnr (p1, p2, p3) (q1, q2, q3) (r1, r2, r3))) (Ev.mono e1 (by unfold Vk.mnr; dsimp only; walk_at "ev")) fun H3 e3 => q H3 (e1.trans e3)
end
end Mc
/-! weights, scaled points, the side of a circle -/
namespace Mc
open PySem PySem.Spec PyProof.Rows L2 Evl
open Vk (Pt Sm sgn dbl mnr rowP sideP)

section
variable {K : PySem.W.Frag} {σ : L2.St} {H : Hp} {Q : VK}
/-- a list of new tuples, one for each item of a list: what stands at the turn's slots is told by st -/
theorem lc_new {a : Addr} {xs : List V} {g : TG} {te : TE} {vs : List Nat} (st : Nat → L2.St) (f : Nat → List V) {H0 : Hp} (e0 : Ex H H0) (hx : SqL K H0 a xs) (hz : xs.length ≤ 1000)
    (hw : ∀ i, wipe (st i) vs = wipe σ vs)
    (hg : ∀ i x, xs[i]? = some x → ∀ H1, Ex H H1 → ∀ R : L2.St → Hp → Prop, (∀ H2, Ex H1 H2 → R (st i) H2) → g x (wipe σ vs) H1 R)
    (he : ∀ i, i < xs.length → ∀ H1, Ex H H1 → EvU te (st i) H1 (f i))
    (k : ∀ (D : Addr) (H2 : Hp) (as : List Addr), H D = none → Ex H H2 → H2 D = some (.lst (as.map V.ref)) → as.length = xs.length → (∀ (i : Nat) (p : Addr), as[i]? = some p → H2 p = some (.tup (f i))) → Q (.ref D) H2) :
    ∀ D, H0 D = none → ∃ W : Nat → Nat → Hp → Prop, (∃ m, W 0 m (upd H0 D (.lst []))) ∧ ∀ i m H, W i m H →
      ((Itl K a).stop i H ∧ Q (.ref D) H) ∨ ((Itl K a).go i H ∧ ∃ Nx : Hp → Prop, (∀ H', Nx H' → ∃ m', m' < m ∧ W (i + 1) m' H') ∧ ∀ x H', (Itl K a).yld i H x H' →
        g x (wipe σ vs) H' fun σ2 H2 => wipe σ2 vs = wipe σ vs ∧ tYes σ2 H2 fun b H3 => if b = true then te σ2 H3 fun y H4 => ∃ acc, H4 D = some (.lst acc) ∧ acc.length < sizeLine ∧ Nx (upd H4 D (.lst (acc ++ [y]))) else Nx H3) := by
  intro D hD
  refine lc_list (xs := xs) (fun i H2 => ∃ as : List Addr, as.length = i ∧ H2 D = some (.lst (as.map V.ref)) ∧ Ex H0 H2 ∧ ∀ (j : Nat) (p : Addr), as[j]? = some p → H2 p = some (.tup (f j))) ?_ ?_ ?_ ?_
  · exact ⟨[], rfl, upd_same, Ex.new hD, fun j p h => by simp at h⟩
  · rintro i H2 _ ⟨as, _, _, e, _⟩
    exact ex_l e hx
  · rintro i x H2 hxi ⟨as, hl, hd, e, hp⟩
    have il : i < xs.length := (List.getElem?_eq_some_iff.1 hxi).1
    refine hg i x hxi H2 (e0.trans e) _ fun H3 e3 => ⟨hw i, ?_⟩
    show te (st i) H3 _
    refine he i il H3 (e0.trans (e.trans e3)) H3 (Ex.refl H3) _ fun p H4 np e4 hp4 => ?_
    have d4 : H4 D = some (.lst (as.map V.ref)) := e4 D _ (e3 D _ hd)
    have pD : p ≠ D := fun z => by rw [z] at hp4; rw [d4] at hp4; cases hp4
    refine ⟨as.map V.ref, d4, by rw [List.length_map]; exact small1000 (by omega), as ++ [p], by simp [hl], ?_, ?_, fun j q hj => ?_⟩
    · rw [upd_same, List.map_append]; rfl
    · exact Ex.mut (e.trans (e3.trans e4)) hD
    · by_cases jl : j < as.length
      · rw [List.getElem?_append_left jl] at hj
        have h1 := e4 q _ (e3 q _ (hp j q hj))
        rw [upd_ne (fun z => by rw [z, d4] at h1; cases h1)]
        exact h1
      · rw [List.getElem?_append_right (by omega)] at hj
        have j0 : j = i := by
          have := (List.getElem?_eq_some_iff.1 hj).1
          simp at this; omega
        subst j0
        rw [hl, Nat.sub_self] at hj
        obtain rfl : p = q := by simpa using hj
        rw [upd_ne pD]; exact hp4
  · rintro H2 ⟨as, hl, hd, e, hp⟩
    exact k D H2 as (fresh_back e0 hD) (e0.trans e) hd hl hp
theorem el_new {a : Addr} {xs : List V} {tl : TE} {g : TG} {te : TE} {vs : List Nat} (st : Nat → L2.St) (f : Nat → List V) (ht : Ev tl σ H (.ref a)) (hx : SqL K H a xs) (hz : xs.length ≤ 1000)
    (hw : ∀ i, wipe (st i) vs = wipe σ vs)
    (hg : ∀ i x, xs[i]? = some x → ∀ H1, Ex H H1 → ∀ R : L2.St → Hp → Prop, (∀ H2, Ex H1 H2 → R (st i) H2) → g x (wipe σ vs) H1 R)
    (he : ∀ i, i < xs.length → ∀ H1, Ex H H1 → EvU te (st i) H1 (f i))
    (k : ∀ (D : Addr) (H2 : Hp) (as : List Addr), H D = none → Ex H H2 → H2 D = some (.lst (as.map V.ref)) → as.length = xs.length → (∀ (i : Nat) (p : Addr), as[i]? = some p → H2 p = some (.tup (f i))) → Q (.ref D) H2) :
    tLc (iList K tl) g tYes te vs σ H Q :=
  ht H (Ex.refl H) _ fun H0 e0 => ⟨a, rfl, ⟨_, ex_l e0 hx⟩, lc_new st f e0 (ex_l e0 hx) hz hw hg he k⟩
theorem el_newN {xs : List V} {tl : TE} {g : TG} {te : TE} {vs : List Nat} (st : Nat → L2.St) (f : Nat → List V) (ht : EvL tl σ H xs) (hz : xs.length ≤ 1000)
    (hw : ∀ i, wipe (st i) vs = wipe σ vs)
    (hg : ∀ i x, xs[i]? = some x → ∀ H1, Ex H H1 → ∀ R : L2.St → Hp → Prop, (∀ H2, Ex H1 H2 → R (st i) H2) → g x (wipe σ vs) H1 R)
    (he : ∀ i, i < xs.length → ∀ H1, Ex H H1 → EvU te (st i) H1 (f i))
    (k : ∀ (D : Addr) (H2 : Hp) (as : List Addr), H D = none → Ex H H2 → H2 D = some (.lst (as.map V.ref)) → as.length = xs.length → (∀ (i : Nat) (p : Addr), as[i]? = some p → H2 p = some (.tup (f i))) → Q (.ref D) H2) :
    tLc (iList K tl) g tYes te vs σ H Q :=
  ht H (Ex.refl H) _ fun p H0 _ e0 hp => ⟨p, rfl, ⟨_, sq_of hp⟩, lc_new st f e0 (sq_of hp) hz hw hg he k⟩
/-- a pair is taken apart -/
theorem g_pair {i j : Nat} {p : Addr} {x y : V} {R : L2.St → Hp → Prop} (h : SqT K H p [x, y]) (r : R ((σ.set i (some x)).set j (some y)) H) : gTup K 2 (gCons (gName i) (gCons (gName j) gNil)) (.ref p) σ H R :=
  ⟨p, _, rfl, h, rfl, _, _, rfl, _, _, rfl, rfl, r⟩
end

section
variable {P : Program} {w : World} {K : PySem.W.Frag} {mg : Str → Option Value} {base : Heap}

/-- refs to points -/
def PtsL (K : PySem.W.Frag) (H : Hp) (ps : List (Addr × Pt)) : Prop := ∀ p, p ∈ ps → PtAt K H p.1 p.2
theorem PtsL.ex {K : PySem.W.Frag} {H H' : Hp} {ps : List (Addr × Pt)} (e : Ex H H') (h : PtsL K H ps) : PtsL K H' ps := fun p hp => (h p hp).ex e
abbrev refs (ps : List (Addr × Pt)) : List V := ps.map fun p => V.ref p.1

def sp_common_weight (K : PySem.W.Frag) : Sp := fun vs H Q _ => ∃ (l : Addr) (ps : List (Addr × Pt)), vs = [.ref l] ∧ SqL K H l (refs ps) ∧ PtsL K H ps ∧ (∀ p, p ∈ ps → Sm p.2) ∧
  ∀ W : Int, (W = 1 ∨ W = 2) → (∀ p, p ∈ ps → p.2.2.2 ∣ W) → Ret (.int W) H Q

theorem ok_common_weight (M : Txt K mg) : FnOk P w K mg base CX0 2 M.a_common_weight M.fd_common_weight ["points"] (sp_common_weight K) := by
  refine M.F_common_weight.ok sc_common_weight (fun vs H Q E h => ?_) (fun cdv A outer s H vs Q E hr h => ?_)
  · obtain ⟨_, _, rfl, _⟩ := h; rfl
  · obtain ⟨l, ps, rfl, hl, hp, sm, q⟩ := h
    refine ⟨_, (pss_cons 
      (ps_set (i := 1) sc_common_weight.nd rfl (by first | exact Or.inl rfl | exact Or.inr rfl) pe_int) (pss_cons 
      (ps_for PassesOwn.never rfl (pi_listK K rfl (pv 0)) (pg_name (i := 2) sc_common_weight.nd rfl (by first | exact Or.inl rfl | exact Or.inr rfl)) (pss_one 
        (ps_set (i := 1) sc_common_weight.nd rfl (by first | exact Or.inl rfl | exact Or.inr rfl) (pe_op op_mul (pe_op op_fdivW (pv 1) (pe_call (ok_gcd M) (hr.mono (by decide)) (by rfl) M.g_gcd M.F_gcd.kp M.b_gcd .nil pass0 (pa_cons (pv 1) (pa_cons (pe_ix (ix_tupK K rfl) (pv 2) pe_int (fun _ _ => rfl)) pa_nil)))) (pe_ix (ix_tupK K rfl) (pv 2) pe_int (fun _ _ => rfl)))))) (pss_one 
      (ps_ret (pv 1))))), ?_⟩
    refine q_asg (v := .int 1) ev_c fun H1 e1 => ?_
    refine q_forLn (a := l) (xs := refs ps) (ev_var rfl) (ex_l e1 hl)
      (fun i σ H2 => Ex H H2 ∧ ∃ (W : Int) (x : Option V), σ = [some (.ref l), some (.int W), x] ∧ (W = 1 ∨ W = 2) ∧ ∀ (j : Nat) (p : Addr × Pt), j < i → ps[j]? = some p → p.2.2.2 ∣ W)
      (fun H2 e2 => ⟨e1.trans e2, 1, none, rfl, .inl rfl, fun j p h => by omega⟩) ?_ ?_ ?_
    · rintro i σ H2 _ ⟨e, _⟩
      exact ex_l e hl
    · rintro i x σ H2 hx ⟨e2, W, x0, rfl, hW, hd⟩
      rw [List.getElem?_map] at hx
      obtain ⟨⟨a, p1, p2, p3⟩, hpi, rfl⟩ := Option.map_eq_some_iff.1 hx
      have mem : (a, p1, p2, p3) ∈ ps := List.mem_of_getElem? hpi
      have hA : SqT K H2 a [.int p1, .int p2, .int p3] := ex_t e2 (hp _ mem)
      have h3 : p3 = 1 ∨ p3 = 2 := (sm _ mem).2.2
      refine s_asg (v := .int (W / (Int.gcd W p3 : Nat) * p3)) ?_ fun H3 e3 => ?_
      · refine ev_op (ev_op (ev_var rfl) (ev_call (ea_cons (ev_var rfl) (ea_cons (ev_op (ev_var rfl) ev_c (rv_ixT hA rfl)) ea_nil)) (z := .int (Int.gcd W p3 : Nat)) ?_) (rv_I ?_)) (ev_op (ev_var rfl) ev_c (rv_ixT hA rfl)) (rv_I ?_)
        · intro H1 e1 Q q E
          exact ⟨W, p3, rfl, q⟩
        · refine wide_div (b := 10) ?_ ?_ (by decide) (by decide) <;> rcases hW with rfl | rfl <;> rcases h3 with rfl | rfl <;> decide
        · exact Or.inr ⟨by omega, by omega⟩
      · have key : (W / (Int.gcd W p3 : Nat) * p3 = 1 ∨ W / (Int.gcd W p3 : Nat) * p3 = 2) ∧ W ∣ W / (Int.gcd W p3 : Nat) * p3 ∧ p3 ∣ W / (Int.gcd W p3 : Nat) * p3 := by
          rcases hW with rfl | rfl <;> rcases h3 with rfl | rfl <;> decide
        refine ⟨e2.trans e3, _, _, rfl, key.1, fun j p hj hpj => ?_⟩
        by_cases ji : j < i
        · exact Int.dvd_trans (hd j p ji hpj) key.2.1
        · obtain rfl : j = i := by omega
          rw [hpi] at hpj
          cases hpj
          exact key.2.2
    · rintro σ H2 ⟨e2, W, x0, rfl, hW, hd⟩
      refine s_ret (ev_var rfl) fun H3 e3 => q W hW (fun p hp => ?_) H3 (e2.trans e3)
      obtain ⟨j, hj⟩ := List.getElem?_of_mem hp
      exact hd j p (by
        have := (List.getElem?_eq_some_iff.1 hj).1
        simpa using this) hj

def spt (W : Int) (p : Pt) : List V := [.int (p.1 * (W / p.2.2)), .int (p.2.1 * (W / p.2.2))]
def sp_scaled (K : PySem.W.Frag) : Sp := fun vs H Q _ => ∃ (l : Addr) (ps : List (Addr × Pt)), vs = [.ref l] ∧ SqL K H l (refs ps) ∧ PtsL K H ps ∧ (∀ p, p ∈ ps → Sm p.2) ∧ ps.length ≤ 1000 ∧
  ∀ (W : Int) (H2 : Hp) (t L : Addr) (as : List Addr), (W = 1 ∨ W = 2) → (∀ p, p ∈ ps → p.2.2.2 ∣ W) → Ex H H2 → H2 t = some (.tup [.ref L, .int W]) → H2 L = some (.lst (as.map V.ref)) → as.length = ps.length →
    (∀ (i : Nat) (a : Addr) (p : Addr × Pt), as[i]? = some a → ps[i]? = some p → H2 a = some (.tup (spt W p.2))) → Q (.ref t) H2
theorem ok_scaled (M : Txt K mg) : FnOk P w K mg base CX0 3 M.a_scaled M.fd_scaled ["points"] (sp_scaled K) := by
  refine M.F_scaled.ok sc_scaled (fun vs H Q E h => ?_) (fun cdv A outer s H vs Q E hr h => ?_)
  · obtain ⟨_, _, rfl, _⟩ := h; rfl
  · obtain ⟨l, ps, rfl, hl, hp, sm, len, q⟩ := h
    refine ⟨_, (pss_cons 
      (ps_set (i := 1) sc_scaled.nd rfl (by first | exact Or.inl rfl | exact Or.inr rfl) (pe_call (ok_common_weight M) (hr.mono (by decide)) (by rfl) M.g_common_weight M.F_common_weight.kp M.b_common_weight .nil pass0 (pa_cons (pv 0) pa_nil))) (pss_one 
      (ps_ret (pe_tup (pa_cons (pe_lc (own := [("p", 2)]) (by rfl) sc_scaled.nd (pi_listK K rfl (pv 0)) (blkOk_by (own := [("p", 2)]) (N := N_scaled) (sc := defScope s_scaled) (by decide +kernel)) (fun _ _ _ _ _ => (pg_name (i := 2) sc_scaled.nd rfl (by first | exact Or.inl rfl | exact Or.inr rfl))) (fun _ _ _ _ _ => pts_nil) (fun _ _ _ _ _ => (pe_tup (pa_cons (pe_op op_mul (pe_ix (ix_tupK K rfl) (pv 2) pe_int (fun _ _ => rfl)) (pe_op op_fdivW (pv 1) (pe_ix (ix_tupK K rfl) (pv 2) pe_int (fun _ _ => rfl)))) (pa_cons (pe_op op_mul (pe_ix (ix_tupK K rfl) (pv 2) pe_int (fun _ _ => rfl)) (pe_op op_fdivW (pv 1) (pe_ix (ix_tupK K rfl) (pv 2) pe_int (fun _ _ => rfl)))) pa_nil))))) (pa_cons (pv 1) pa_nil)))))), ?_⟩
    refine r_q (r_call (r_cons (r_of (ev_var rfl) fun H0 e0 => r_nil ⟨l, ps, rfl, ex_l e0 hl, hp.ex e0, sm, fun W hW hd H1 e1' => ?_⟩)))
    have e1 := e0.trans e1'
    refine r_ret (r_tup (r_cons (el_new (a := l) (xs := refs ps) (fun (i : Nat) => [some (.ref l), some (.int W), (ps[i]?).map fun p => V.ref p.1]) (fun (i : Nat) => spt W ((ps[i]?).getD (0, 0, 0, 1)).2) (by exact ev_var rfl) (ex_l e1 hl) (by rw [List.length_map]; exact len) ?_ ?_ ?_ ?_)))
    · intro i; rfl
    · intro i x hx H2 e2 R r
      rw [List.getElem?_map] at hx
      obtain ⟨p, hpi, rfl⟩ := Option.map_eq_some_iff.1 hx
      have := r H2 (Ex.refl H2)
      rw [hpi] at this
      exact this
    · intro i hi H2 e2
      rw [List.length_map] at hi
      obtain ⟨⟨a, p1, p2, p3⟩, hpi⟩ : ∃ p, ps[i]? = some p := ⟨_, List.getElem?_eq_getElem hi⟩
      have mem : (a, p1, p2, p3) ∈ ps := List.mem_of_getElem? hpi
      have hA : SqT K H2 a [.int p1, .int p2, .int p3] := ex_t (e1.trans e2) (hp _ mem)
      have hs := sm _ mem
      unfold Vk.Sm at hs
      dsimp only at hs
      rw [hpi]
      have h3 := hs.2.2
      have cd : CDivW W p3 := by
        refine wide_div (b := 10) ?_ ?_ (by decide) (by decide) <;> rcases h3 with rfl | rfl <;> decide
      exact eu_tup (ea_cons (ev_op (ev_op (ev_var rfl) ev_c (rv_ixT hA rfl)) (ev_op (ev_var rfl) (ev_op (ev_var rfl) ev_c (rv_ixT hA rfl)) (rv_I cd)) (rv_I (Or.inl ⟨by omega, by omega⟩)))
        (ea_cons (ev_op (ev_op (ev_var rfl) ev_c (rv_ixT hA rfl)) (ev_op (ev_var rfl) (ev_op (ev_var rfl) ev_c (rv_ixT hA rfl)) (rv_I cd)) (rv_I (Or.inl ⟨by omega, by omega⟩))) ea_nil)) (by show 2 ≤ 100000; decide)
    · intro D H2 as hD e2 hd2 hlen hel
      refine ⟨_, rfl, by show 2 ≤ sizeLine; decide, fun t nt => ?_⟩
      have ht : Ex H2 (upd H2 t (.tup [.ref D, .int W])) := Ex.new nt
      refine q W _ t D as hW hd ((e1.trans e2).trans ht) upd_same (ht D _ hd2) (by rw [hlen, List.length_map]) fun i a p ha hpi => ?_
      have := hel i a ha
      rw [hpi] at this
      exact ht a _ this

theorem sc_bd {p : Pt} {W : Int} (h : Sm p) (hW : W = 1 ∨ W = 2) : (-200000000 ≤ p.1 * (W / p.2.2) ∧ p.1 * (W / p.2.2) ≤ 200000000) ∧ (-200000000 ≤ p.2.1 * (W / p.2.2) ∧ p.2.1 * (W / p.2.2) ≤ 200000000) := by
  obtain ⟨p1, p2, p3⟩ := p
  unfold Vk.Sm at h
  dsimp only at h ⊢
  obtain ⟨h1, h2, h3⟩ := h
  have e11 : (1 : Int) / 1 = 1 := rfl
  have e12 : (1 : Int) / 2 = 0 := rfl
  have e21 : (2 : Int) / 1 = 2 := rfl
  have e22 : (2 : Int) / 2 = 1 := rfl
  rcases hW with rfl | rfl <;> rcases h3 with rfl | rfl <;> simp only [e11, e12, e21, e22] <;> omega
theorem sq_bd {x : Int} (h : -400000000 ≤ x ∧ x ≤ 400000000) : 0 ≤ x * x ∧ x * x ≤ 160000000000000000 := by
  have a := Int.mul_nonneg (show 0 ≤ 400000000 - x by omega) (show 0 ≤ 400000000 + x by omega)
  have b : (400000000 - x) * (400000000 + x) = 160000000000000000 - x * x := by grind
  have c : 0 ≤ x * x := by
    by_cases z : 0 ≤ x
    · exact Int.mul_nonneg z z
    · exact Int.mul_nonneg_of_nonpos_of_nonpos (by omega) (by omega)
  omega

def sp_side_of (K : PySem.W.Frag) : Sp := fun vs H Q _ => ∃ (a b c d : Addr) (p q r t : Pt), vs = [.ref a, .ref b, .ref c, .ref d] ∧ PtAt K H a p ∧ PtAt K H b q ∧ PtAt K H c r ∧ PtAt K H d t ∧ Sm p ∧ Sm q ∧ Sm r ∧ Sm t ∧
  ∀ W : Int, (W = 1 ∨ W = 2) → p.2.2 ∣ W → q.2.2 ∣ W → r.2.2 ∣ W → t.2.2 ∣ W → Ret (.int (sideP W p q r t)) H Q

theorem ok_side_of (M : Txt K mg) : FnOk P w K mg base CX0 4 M.a_side_of M.fd_side_of ["a", "b", "c", "d"] (sp_side_of K) := by
  refine M.F_side_of.ok sc_side_of (fun vs H Q E h => ?_) (fun cdv A outer s H vs Q E hr h => ?_)
  · obtain ⟨_, _, _, _, _, _, _, _, rfl, _⟩ := h; rfl
  · obtain ⟨a, b, c, d, p, q, r, t, rfl, ha, hb, hc, hd, sp, sq, sr, st, k⟩ := h
    refine ⟨_, (pss_cons 
      (ps_asg (pe_call (ok_scaled M) (hr.mono (by decide)) (by rfl) M.g_scaled M.F_scaled.kp M.b_scaled .nil pass0 (pa_cons (pe_lst (pa_cons (pv 0) (pa_cons (pv 1) (pa_cons (pv 2) (pa_cons (pv 3) pa_nil))))) pa_nil)) (pg_tupK (n := 2) K rfl rfl (pgs_cons (pg_name (i := 4) sc_side_of.nd rfl (by first | exact Or.inl rfl | exact Or.inr rfl)) (pgs_cons (pg_name (i := 5) sc_side_of.nd rfl (by first | exact Or.inl rfl | exact Or.inr rfl)) pgs_nil)))) (pss_cons 
      (ps_setLc (i := 6) (own := [("x", 10), ("y", 11)]) (by rfl) sc_side_of.nd rfl rfl (sw_true rfl rfl rfl (by decide +kernel)) (pi_listK K rfl (pe_slice (sl_listK K rfl) (pv 4) po_none (po_some pe_int))) (blkOk_by (own := [("x", 10), ("y", 11)]) (N := N_side_of) (sc := defScope s_side_of) (by decide +kernel)) (fun _ _ _ _ _ => (pg_tupK (n := 2) K rfl rfl (pgs_cons (pg_name (i := 10) sc_side_of.nd rfl (by first | exact Or.inl rfl | exact Or.inr rfl)) (pgs_cons (pg_name (i := 11) sc_side_of.nd rfl (by first | exact Or.inl rfl | exact Or.inr rfl)) pgs_nil)))) (fun _ _ _ _ _ => pts_nil) (fun _ _ _ _ _ => (pe_tup (pa_cons (pe_op op_sub (pv 10) (pe_ix (ix_tupK K rfl) (pe_ix (ix_listK K rfl) (pv 4) pe_int (fun _ _ => rfl)) pe_int (fun _ _ => rfl))) (pa_cons (pe_op op_sub (pv 11) (pe_ix (ix_tupK K rfl) (pe_ix (ix_listK K rfl) (pv 4) pe_int (fun _ _ => rfl)) pe_int (fun _ _ => rfl))) pa_nil))))) (pss_cons 
      (ps_asg (pe_lc (own := [("x", 10), ("y", 11)]) (by rfl) sc_side_of.nd (pi_listK K rfl (pv 6)) (blkOk_by (own := [("x", 10), ("y", 11)]) (N := N_side_of) (sc := defScope s_side_of) (by decide +kernel)) (fun _ _ _ _ _ => (pg_tupK (n := 2) K rfl rfl (pgs_cons (pg_name (i := 10) sc_side_of.nd rfl (by first | exact Or.inl rfl | exact Or.inr rfl)) (pgs_cons (pg_name (i := 11) sc_side_of.nd rfl (by first | exact Or.inl rfl | exact Or.inr rfl)) pgs_nil)))) (fun _ _ _ _ _ => pts_nil) (fun _ _ _ _ _ => (pe_tup (pa_cons (pv 10) (pa_cons (pv 11) (pa_cons (pe_op op_add (pe_op op_mul (pv 10) (pv 10)) (pe_op op_mul (pv 11) (pv 11))) pa_nil)))))) (pg_unlK (n := 3) K rfl rfl (pgs_cons (pg_name (i := 7) sc_side_of.nd rfl (by first | exact Or.inl rfl | exact Or.inr rfl)) (pgs_cons (pg_name (i := 8) sc_side_of.nd rfl (by first | exact Or.inl rfl | exact Or.inr rfl)) (pgs_cons (pg_name (i := 9) sc_side_of.nd rfl (by first | exact Or.inl rfl | exact Or.inr rfl)) pgs_nil))))) (pss_one 
      (ps_ret (pe_op op_mul (pe_call (ok_sign M) (hr.mono (by decide)) (by rfl) M.g_sign M.F_sign.kp M.b_sign .nil pass0 (pa_cons (pe_call (ok_minor M) (hr.mono (by decide)) (by rfl) M.g_minor M.F_minor.kp M.b_minor .nil pass0 (pa_cons (pv 7) (pa_cons (pv 8) (pa_cons (pv 9) pa_nil)))) pa_nil)) (pe_call (ok_turn_of M) (hr.mono (by decide)) (by rfl) M.g_turn_of M.F_turn_of.kp M.b_turn_of .nil pass0 (pa_cons (pv 0) (pa_cons (pv 1) (pa_cons (pv 2) pa_nil)))))))))), ?_⟩
    refine r_qG (r_call (r_cons (r_lst (r_cons (r_of (ev_var rfl) fun H1 e1 => r_cons (r_of (ev_var rfl) fun H2 e2 => r_cons (r_of (ev_var rfl) fun H3 e3 => r_cons (r_of (ev_var rfl) fun H4 e4 => r_nil ?_))))))))
    have e := ((e1.trans e2).trans e3).trans e4
    clear e1 e2 e3 e4
    refine ⟨by show 4 ≤ sizeLine; decide, fun L nL => r_nil ?_⟩
    have eL := Ex.new (o := HO.lst [.ref a, .ref b, .ref c, .ref d]) nL
    have e5 := e.trans eL
    refine ⟨L, [(a, p), (b, q), (c, r), (d, t)], rfl, sq_of upd_same, ?_, ?_, by show 4 ≤ 1000; decide, ?_⟩
    · intro x hx
      simp only [List.mem_cons, List.not_mem_nil, or_false] at hx
      rcases hx with rfl | rfl | rfl | rfl
      · exact ha.ex e5
      · exact hb.ex e5
      · exact hc.ex e5
      · exact hd.ex e5
    · intro x hx
      simp only [List.mem_cons, List.not_mem_nil, or_false] at hx
      rcases hx with rfl | rfl | rfl | rfl
      · exact sp
      · exact sq
      · exact sr
      · exact st
    intro W H5 tt PL as hW hdv e6 htt hPL hlen hel
    have e7 := e5.trans e6
    match as, hlen with
    | [a0, a1, a2, a3], _ =>
    have d0 : p.2.2 ∣ W := hdv (a, p) (by simp)
    have d1 : q.2.2 ∣ W := hdv (b, q) (by simp)
    have d2 : r.2.2 ∣ W := hdv (c, r) (by simp)
    have d3 : t.2.2 ∣ W := hdv (d, t) (by simp)
    have h0 := hel 0 a0 (a, p) rfl rfl
    have h1 := hel 1 a1 (b, q) rfl rfl
    have h2 := hel 2 a2 (c, r) rfl rfl
    have h3 := hel 3 a3 (d, t) rfl rfl
    dsimp only [spt] at h0 h1 h2 h3
    have b0 := sc_bd sp hW
    have b1 := sc_bd sq hW
    have b2 := sc_bd sr hW
    have b3 := sc_bd st hW
    refine g_pair (st_of htt) ?_
    have K0 := k W hW d0 d1 d2 d3
    unfold sideP at K0
    have er : ∀ u : Pt, rowP W u t = ((rowP W u t).1, (rowP W u t).2.1, (rowP W u t).1 * (rowP W u t).1 + (rowP W u t).2.1 * (rowP W u t).2.1) := fun u => rfl
    have r1 : ∀ u : Pt, (rowP W u t).1 = u.1 * (W / u.2.2) - t.1 * (W / t.2.2) := fun u => rfl
    have r2 : ∀ u : Pt, (rowP W u t).2.1 = u.2.1 * (W / u.2.2) - t.2.1 * (W / t.2.2) := fun u => rfl
    let pu : Nat → Pt := fun i => match i with | 0 => p | 1 => q | _ => r
    refine r_q (el_newN (xs := [.ref a0, .ref a1, .ref a2]) (fun i => [some (.ref a), some (.ref b), some (.ref c), some (.ref d), some (.ref PL), some (.int W), none, none, none, none, some (.int ((pu i).1 * (W / (pu i).2.2))), some (.int ((pu i).2.1 * (W / (pu i).2.2)))])
      (fun i => [.int (rowP W (pu i) t).1, .int (rowP W (pu i) t).2.1]) (by exact el_sl (ev_var rfl) eo_none (eo_some ev_c) (sq_of hPL)) (by show 3 ≤ 1000; decide) ?_ ?_ ?_ ?_)
    · intro i; rfl
    · intro i x hx H6 e8 R rr
      match i, hx with
      | 0, hx => cases hx; exact g_pair (st_of (e8 _ _ h0)) (rr H6 (Ex.refl _))
      | 1, hx => cases hx; exact g_pair (st_of (e8 _ _ h1)) (rr H6 (Ex.refl _))
      | 2, hx => cases hx; exact g_pair (st_of (e8 _ _ h2)) (rr H6 (Ex.refl _))
    · intro i hi H6 e8
      have ix : ∀ n v, atI [V.int (t.1 * (W / t.2.2)), V.int (t.2.1 * (W / t.2.2))] n = some v → ∀ σ : L2.St, σ[4]? = some (some (.ref PL)) → Ev (tOp (rIxT K) (tOp (rIxL K) (tVar 4) (tC (.int 3))) (tC (.int n))) σ H6 v := fun n v hv σ h4 =>
        ev_op (ev_op (ev_var h4) ev_c (rv_ixL (sq_of (e8 _ _ hPL)) (v := .ref a3) rfl)) ev_c (rv_ixT (st_of (e8 _ _ h3)) hv)
      exact eu_tup (ea_cons (ev_op (ev_var rfl) (ix 0 _ rfl _ rfl) rv_I0) (ea_cons (ev_op (ev_var rfl) (ix 1 _ rfl _ rfl) rv_I0) ea_nil)) (by show 2 ≤ 100000; decide)
    intro RL H6 as2 _ e8 hRL hlen2 hel2
    match as2, hlen2 with
    | [c0, c1, c2], _ =>
    have g0 := hel2 0 c0 rfl
    have g1 := hel2 1 c1 rfl
    have g2 := hel2 2 c2 rfl
    have bd : ∀ i, (-400000000 ≤ (rowP W (pu i) t).1 ∧ (rowP W (pu i) t).1 ≤ 400000000) ∧ (-400000000 ≤ (rowP W (pu i) t).2.1 ∧ (rowP W (pu i) t).2.1 ≤ 400000000) := by
      intro i
      rw [r1, r2]
      match i with
      | 0 => rw [show pu 0 = p from rfl]; omega
      | 1 => rw [show pu 1 = q from rfl]; omega
      | (n + 2) => rw [show pu (n + 2) = r from rfl]; omega
    refine r_qG (el_new (a := RL) (xs := [.ref c0, .ref c1, .ref c2]) (fun i => [some (.ref a), some (.ref b), some (.ref c), some (.ref d), some (.ref PL), some (.int W), some (.ref RL), none, none, none, some (.int (rowP W (pu i) t).1), some (.int (rowP W (pu i) t).2.1)])
      (fun i => [.int (rowP W (pu i) t).1, .int (rowP W (pu i) t).2.1, .int ((rowP W (pu i) t).1 * (rowP W (pu i) t).1 + (rowP W (pu i) t).2.1 * (rowP W (pu i) t).2.1)]) (by exact ev_var rfl) (sq_of hRL) (by show 3 ≤ 1000; decide) ?_ ?_ ?_ ?_)
    · intro i; rfl
    · intro i x hx H7 e9 R rr
      match i, hx with
      | 0, hx => cases hx; exact g_pair (st_of (e9 _ _ g0)) (rr H7 (Ex.refl _))
      | 1, hx => cases hx; exact g_pair (st_of (e9 _ _ g1)) (rr H7 (Ex.refl _))
      | 2, hx => cases hx; exact g_pair (st_of (e9 _ _ g2)) (rr H7 (Ex.refl _))
    · intro i hi H7 e9
      have bi := bd i
      exact eu_tup (ea_cons (ev_var rfl) (ea_cons (ev_var rfl) (ea_cons (ev_op (ev_op (ev_var rfl) (ev_var rfl) (rv_I (Or.inl ⟨by omega, by omega⟩))) (ev_op (ev_var rfl) (ev_var rfl) (rv_I (Or.inl ⟨by omega, by omega⟩))) rv_I0) ea_nil))) (by show 3 ≤ 100000; decide)
    intro UL H7 as3 _ e9 hUL hlen3 hel3
    match as3, hlen3 with
    | [u0, u1, u2], _ =>
    have f0 : PtAt K H7 u0 (rowP W p t) := st_of (hel3 0 u0 rfl)
    have f1 : PtAt K H7 u1 (rowP W q t) := st_of (hel3 1 u1 rfl)
    have f2 : PtAt K H7 u2 (rowP W r t) := st_of (hel3 2 u2 rfl)
    refine ⟨UL, _, rfl, sq_of hUL, rfl, _, _, rfl, _, _, rfl, _, _, rfl, rfl, ?_⟩
    have ee := (e7.trans e8).trans e9
    have s0 := bd 0
    have s1 := bd 1
    have s2 := bd 2
    have z0 : -(2 ^ 63) < (rowP W p t).2.2 ∧ (rowP W p t).2.2 < 2 ^ 63 := by
      rw [er p]
      have x1 := sq_bd s0.1
      have x2 := sq_bd s0.2
      have y1 : (rowP W (pu 0) t) = rowP W p t := rfl
      rw [y1] at x1 x2
      dsimp only
      omega
    have m3 : ∀ i, Vk.Sm (pu i) → Sm3 (rowP W (pu i) t) := fun i _ => by
      have := bd i
      unfold Sm3; omega
    refine s_ret (v := .int (sgn (mnr (rowP W p t) (rowP W q t) (rowP W r t)) * sgn (dbl p q r))) ?_ fun H8 e10 => K0 H8 (ee.trans e10)
    have sg := Vk.sgn_small (mnr (rowP W p t) (rowP W q t) (rowP W r t))
    refine ev_op (ev_call (ea_cons (ev_call (ea_cons (ev_var rfl) (ea_cons (ev_var rfl) (ea_cons (ev_var rfl) ea_nil))) (z := .int (mnr (rowP W p t) (rowP W q t) (rowP W r t))) ?_) ea_nil) (z := .int (sgn (mnr (rowP W p t) (rowP W q t) (rowP W r t)))) ?_)
      (ev_call (ea_cons (ev_var rfl) (ea_cons (ev_var rfl) (ea_cons (ev_var rfl) ea_nil))) (z := .int (sgn (dbl p q r))) ?_) (rv_I (Or.inl ⟨by omega, by omega⟩))
    · intro H8 e10 Q' q' E'
      exact ⟨u0, u1, u2, _, _, _, rfl, f0.ex e10, f1.ex e10, f2.ex e10, m3 0 sp, m3 1 sq, m3 2 sr, z0, q'⟩
    · intro H8 e10 Q' q' E'
      exact ⟨_, rfl, q'⟩
    · intro H8 e10 Q' q' E'
      exact ⟨a, b, c, p, q, r, rfl, ha.ex (ee.trans e10), hb.ex (ee.trans e10), hc.ex (ee.trans e10), sp, sq, sr, q'⟩
end
end Mc
/-! the looks at the points -/
namespace Mc
open PySem PySem.Spec PyProof.Rows L2 Evl
open Vk (Pt Sm sgn dbl mnr rowP sideP Gd)

/-! ### tuples of ints as data -/
def tD (ns : List Int) : PyData := .tuple (ns.map PyData.int)
theorem ints_lay : ∀ ns : List Int, PyData.canLayAll0 (ns.map PyData.int) = true
  | [] => by simp only [List.map_nil, PyData.canLayAll0]
  | n :: ns => by simp only [List.map_cons, PyData.canLayAll0, PyData.canLay0, ints_lay ns, Bool.and_self]
theorem ints_depth : ∀ ns : List Int, PyData.depthAll (ns.map PyData.int) = 0
  | [] => by simp only [List.map_nil, PyData.depthAll]
  | n :: ns => by simp only [List.map_cons, PyData.depthAll, PyData.depth, ints_depth ns, Nat.max_self]
theorem tD_lay (ns : List Int) : (tD ns).canLay0 = true := by simp only [tD, PyData.canLay0, ints_lay]
theorem tD_depth (ns : List Int) : (tD ns).depth = 1 := by simp only [tD, PyData.depth, ints_depth]
theorem tDs_lay : ∀ l : List (List Int), PyData.canLayAll0 (l.map tD) = true
  | [] => by simp only [List.map_nil, PyData.canLayAll0]
  | n :: ns => by simp only [List.map_cons, PyData.canLayAll0, tD_lay, tDs_lay ns, Bool.and_self]
theorem tDs_depth : ∀ l : List (List Int), PyData.depthAll (l.map tD) ≤ 1
  | [] => by simp only [List.map_nil, PyData.depthAll]; omega
  | n :: ns => by
    have := tDs_depth ns
    simp only [List.map_cons, PyData.depthAll, tD_depth]
    omega
theorem tD_shaped (ns : List Int) : SeqAt.shaped (tD ns) = true := by
  unfold SeqAt.shaped; rw [tD_lay, tD_depth]; rfl
theorem tDl_shaped (l : List (List Int)) : SeqAt.shaped (.list (l.map tD)) = true := by
  unfold SeqAt.shaped
  have h := tDs_depth l
  refine Bool.and_eq_true_iff.2 ⟨by simp only [PyData.canLay0, tDs_lay], decide_eq_true ?_⟩
  simp only [PyData.depth]; omega
theorem tDt_shaped (l : List (List Int)) : SeqAt.shaped (.tuple (l.map tD)) = true := by
  unfold SeqAt.shaped
  have h := tDs_depth l
  refine Bool.and_eq_true_iff.2 ⟨by simp only [PyData.canLay0, tDs_lay], decide_eq_true ?_⟩
  simp only [PyData.depth]; omega
theorem eqv_ints : ∀ a b : List Int, PyData.eqvAll (a.map PyData.int) (b.map PyData.int) = decide (a = b)
  | [], [] => by simp [PyData.eqvAll]
  | [], _ :: _ => by simp [PyData.eqvAll]
  | _ :: _, [] => by simp [PyData.eqvAll]
  | x :: a, y :: b => by
    simp only [List.map_cons, PyData.eqvAll, PyData.eqv, eqv_ints a b]
    by_cases h : x = y <;> by_cases h2 : a = b <;> simp [h, h2]
theorem eqv_tD (a b : List Int) : PyData.eqv (tD a) (tD b) = decide (a = b) := by simp only [tD, PyData.eqv, eqv_ints]
theorem eqv_tDs : ∀ a b : List (List Int), PyData.eqvAll (a.map tD) (b.map tD) = decide (a = b)
  | [], [] => by simp [PyData.eqvAll]
  | [], _ :: _ => by simp [PyData.eqvAll]
  | _ :: _, [] => by simp [PyData.eqvAll]
  | x :: a, y :: b => by
    simp only [List.map_cons, PyData.eqvAll, eqv_tD, eqv_tDs a b]
    by_cases h : x = y <;> by_cases h2 : a = b <;> simp [h, h2]
theorem any_tD (l : List (List Int)) (a : List Int) : ((l.map tD).any fun z => PyData.eqv z (tD a)) = decide (a ∈ l) := by
  induction l with
  | nil => simp
  | cons x l ih =>
    rw [List.map_cons, List.any_cons, ih, eqv_tD]
    by_cases h : x = a
    · simp [h]
    · have : a ≠ x := fun e => h e.symm
      simp [h, this]
theorem dp_ints {K : PySem.W.Frag} {H : Hp} : ∀ ns : List Int, DpAll K H (ns.map V.int) (ns.map PyData.int)
  | [] => .nil
  | n :: ns => .cons (.int n) (dp_ints ns)
theorem dp_tD {K : PySem.W.Frag} {H : Hp} {a : Addr} {ns : List Int} (h : SqT K H a (ns.map V.int)) : Dp K H (.ref a) (tD ns) := .tup h (dp_ints ns)
/-- refs to tuples of ints -/
theorem dp_tDs {K : PySem.W.Frag} {H : Hp} : ∀ ks : List (Addr × List Int), (∀ p, p ∈ ks → SqT K H p.1 (p.2.map V.int)) → DpAll K H (ks.map fun p => V.ref p.1) ((ks.map (·.2)).map tD)
  | [], _ => .nil
  | k :: ks, h => .cons (dp_tD (h k (by simp))) (dp_tDs ks fun p hp => h p (by simp [hp]))

/-- x in t, t a tuple of data -/
def rInDT (K : PySem.W.Frag) : R2 := fun x y H Q => ∃ d ds, Dp K H x d ∧ Dp K H y (.tuple ds) ∧ SeqAt.shaped d = true ∧ SeqAt.shaped (.tuple ds) = true ∧ Q (.bl (ds.any fun z => PyData.eqv z d)) H
theorem op_inDT {X : Cx} (K : PySem.W.Frag) (hK : X.K = K) (hu : X.A.units + 65 < cLine) : OpR X (compareOp .In) (rInDT K) := by
  subst hK
  intro pins s σ H x y v u Q I rx ry ⟨d, ds, hd, he, sd, se, q⟩
  have ⟨as, ra⟩ := Dp.reads I d x v hd rx
  have ⟨bs, rb⟩ := Dp.reads I (.tuple ds) y u he ry
  have z : PyData.depthAll ds ≤ 64 := by
    have := SeqAt.depth_of_shaped se
    simp only [PyData.depth] at this; omega
  refine SeqAt.in_tuple_reads rb ra (by have := SeqAt.canLay_of_shaped se; simpa only [PyData.canLay0] using this) (SeqAt.canLay_of_shaped sd) (by
    have := Nat.min_le_left (PyData.depthAll ds) d.depth
    omega) ⟨.bl _, H, I, rfl, q⟩
theorem op_inDK {X : Cx} (K : PySem.W.Frag) (hK : X.K = K) (hu : X.A.units + 65 < cLine) : OpR X (compareOp .In) (rInD K) := by
  subst hK; exact op_inD hu
theorem op_neDK {X : Cx} (K : PySem.W.Frag) (hK : X.K = K) (hu : X.A.units + 64 < cLine) : OpR X (compareOp .NotEq) (rNeD K) := by
  subst hK; exact op_neD hu

theorem tyx_t {K : PySem.W.Frag} {H : Hp} {a : Addr} {xs : List V} (h : SqT K H a xs) : TyX K H (.ref a) (.type "tuple") := by
  rcases h with (h | ⟨o, h⟩) | ⟨o, its, n, h, hc, _⟩
  · exact .base (.tup h)
  · exact .fTuple h
  · exact .kTuple h hc
theorem rc_isT {K : PySem.W.Frag} {H : Hp} {a : Addr} {xs : List V} (h : SqT K H a xs) : RC (rIsi K) [.ref a, .ty "tuple"] H (.bl true) := fun H1 e Q q =>
  ⟨.ref a, .ty "tuple", .type "tuple", .type "tuple", true, rfl, .ty _, tyx_t (ex_t e h), kit_ty (by decide +kernel), q H1 (Ex.refl H1)⟩
theorem rc_lenT {K : PySem.W.Frag} {H : Hp} {a : Addr} {xs : List V} (h : SqT K H a xs) : RC (rLenS K) [.ref a] H (.int xs.length) := fun H1 e Q q => ⟨a, xs, rfl, .inr (ex_t e h), q H1 (Ex.refl H1)⟩
theorem rc_lenL {K : PySem.W.Frag} {H : Hp} {a : Addr} {xs : List V} (h : SqL K H a xs) : RC (rLenS K) [.ref a] H (.int xs.length) := fun H1 e Q q => ⟨a, xs, rfl, .inl (ex_l e h), q H1 (Ex.refl H1)⟩

section
variable {P : Program} {w : World} {K : PySem.W.Frag} {mg : Str → Option Value} {base : Heap}

def sp_is_point (K : PySem.W.Frag) : Sp := fun vs H Q _ => ∃ (a : Addr) (p : Pt), vs = [.ref a] ∧ PtAt K H a p ∧ Sm p ∧ Int.gcd (Int.gcd p.1 p.2.1 : Nat) p.2.2 = 1 ∧ Ret (.bl true) H Q
theorem ok_is_point (M : Txt K mg) : FnOk P w K mg base CX0 2 M.a_is_point M.fd_is_point ["value"] (sp_is_point K) := by
  refine M.F_is_point.ok sc_is_point (fun vs H Q E h => ?_) (fun cdv A outer s H vs Q E hr h => ?_)
  · obtain ⟨_, _, rfl, _⟩ := h; rfl
  · obtain ⟨a, ⟨p1, p2, p3⟩, rfl, ha, sm, g, k⟩ := h
    have ha : SqT K H a [.int p1, .int p2, .int p3] := ha
    unfold Vk.Sm at sm
    dsimp only at sm g
    refine ⟨_, (pss_cons 
      (ps_if (PW.pt (pw_or (pt_not (pt_val (pe_callB (call_isiK K rfl) (by rfl) M.n_isinstance (by decide +kernel) (pa_cons (pv 0) (pa_cons (pe_bltn (v := .ty "tuple") (u := .type "tuple") (by rfl) M.n_tuple (by decide +kernel) rfl) pa_nil))))) (pw_or1 (pt_cmpR op_ne (pe_callB (call_lenK K rfl) (by rfl) M.n_len (by decide +kernel) (pa_cons (pv 0) pa_nil)) pe_int (nomark _))))) (pss_one 
        (ps_ret pe_bl)) pss_nil) (pss_cons 
      (ps_if (PW.pt (pw_or (pt_not (pt_val (pe_call (ok_is_in M) (hr.mono (by decide)) (by rfl) M.g_is_in M.F_is_in.kp M.b_is_in .nil pass0 (pa_cons (pe_ix (ix_tupK K rfl) (pv 0) pe_int (fun _ _ => rfl)) (pa_cons (pe_un un_neg (pe_glob (v := .int 1000000000000) rfl M.g_LARGEST ⟨_, rfl⟩)) (pa_cons (pe_glob (v := .int 1000000000000) rfl M.g_LARGEST ⟨_, rfl⟩) pa_nil)))))) (pw_or1 (pt_not (pt_val (pe_call (ok_is_in M) (hr.mono (by decide)) (by rfl) M.g_is_in M.F_is_in.kp M.b_is_in .nil pass0 (pa_cons (pe_ix (ix_tupK K rfl) (pv 0) pe_int (fun _ _ => rfl)) (pa_cons (pe_un un_neg (pe_glob (v := .int 1000000000000) rfl M.g_LARGEST ⟨_, rfl⟩)) (pa_cons (pe_glob (v := .int 1000000000000) rfl M.g_LARGEST ⟨_, rfl⟩) pa_nil))))))))) (pss_one 
        (ps_ret pe_bl)) pss_nil) (pss_one 
      (ps_ret (pe_and (pe_call (ok_is_in M) (hr.mono (by decide)) (by rfl) M.g_is_in M.F_is_in.kp M.b_is_in .nil pass0 (pa_cons (pe_ix (ix_tupK K rfl) (pv 0) pe_int (fun _ _ => rfl)) (pa_cons pe_int (pa_cons (pe_glob (v := .int 1000000000000) rfl M.g_LARGEST ⟨_, rfl⟩) pa_nil)))) (pe_one (pe_cmpR op_eq (pe_call (ok_gcd M) (hr.mono (by decide)) (by rfl) M.g_gcd M.F_gcd.kp M.b_gcd .nil pass0 (pa_cons (pe_call (ok_gcd M) (hr.mono (by decide)) (by rfl) M.g_gcd M.F_gcd.kp M.b_gcd .nil pass0 (pa_cons (pe_ix (ix_tupK K rfl) (pv 0) pe_int (fun _ _ => rfl)) (pa_cons (pe_ix (ix_tupK K rfl) (pv 0) pe_int (fun _ _ => rfl)) pa_nil))) (pa_cons (pe_ix (ix_tupK K rfl) (pv 0) pe_int (fun _ _ => rfl)) pa_nil))) pe_int (nomark _)))))))), ?_⟩
    have isin : ∀ (te tl tr : TE) (σ : L2.St) (i lo hi : Int), Ev te σ H (.int i) → Ev tl σ H (.int lo) → Ev tr σ H (.int hi) → lo ≤ i → i ≤ hi → Ev (tCall (sp_is_in K) [] E0 (tCons te (tCons tl (tCons tr tNil)))) σ H (.bl true) := by
      intro te tl tr σ i lo hi h1 h2 h3 x1 x2
      refine ev_call (ea_cons h1 (ea_cons h2 (ea_cons h3 ea_nil))) fun H1 e Q q E => ⟨i, lo, hi, rfl, ?_⟩
      rw [decide_eq_true x1, decide_eq_true x2]; exact q
    have c1 : Ev (tOp (rIxT K) (tVar 0) (tC (.int 0))) [some (.ref a)] H (.int p1) := ev_op (ev_var rfl) ev_c (rv_ixT ha rfl)
    have c2 : Ev (tOp (rIxT K) (tVar 0) (tC (.int 1))) [some (.ref a)] H (.int p2) := ev_op (ev_var rfl) ev_c (rv_ixT ha rfl)
    have c3 : Ev (tOp (rIxT K) (tVar 0) (tC (.int 2))) [some (.ref a)] H (.int p3) := ev_op (ev_var rfl) ev_c (rv_ixT ha rfl)
    have neg : Ev (tUn (rU fun i => .int (-i)) (tC (.int 1000000000000))) [some (.ref a)] H (.int (-1000000000000)) := ev_un ev_c ru_neg
    refine q_when (b := false) (et_or (a := false) (b := false) (et_not (a := true) (et_B (ev_cb (ea_cons (ev_var rfl) (ea_cons ev_c ea_nil)) (rc_isT ha)))) fun _ => et_test (ev_op (ev_cb (ea_cons (ev_var rfl) ea_nil) (rc_lenT ha)) ev_c (rv_ne rfl))) (fun h => nomatch h) fun _ H1 e1 => ?_
    refine q_when (b := false) (EvT.mono e1 (et_or (a := false) (b := false) (et_not (a := true) (et_B (isin _ _ _ _ _ _ _ c1 neg ev_c (by omega) (by omega)))) fun _ => et_not (a := true) (et_B (isin _ _ _ _ _ _ _ c2 neg ev_c (by omega) (by omega))))) (fun h => nomatch h) fun _ H2 e2 => ?_
    have gd : ∀ (te tl : TE) (σ : L2.St) (i j : Int), Ev te σ H (.int i) → Ev tl σ H (.int j) → Ev (tCall (sp_gcd K) [] E0 (tCons te (tCons tl tNil))) σ H (.int (Int.gcd i j : Nat)) := by
      intro te tl σ i j h1 h2
      exact ev_call (ea_cons h1 (ea_cons h2 ea_nil)) fun H1 e Q q E => ⟨i, j, rfl, q⟩
    refine s_ret (v := .bl true) (Ev.mono (e1.trans e2) (ev_andV (a := true) (b := true) (isin _ _ _ _ _ _ _ c3 ev_c ev_c (by omega) (by omega)) fun _ => ?_)) fun H3 e3 => k H3 ((e1.trans e2).trans e3)
    exact ev_is (ev_op (gd _ _ _ _ _ (gd _ _ _ _ _ c1 c2) c3) ev_c (rv_eq rfl)) (by rw [g]; rfl)

section
variable {K : PySem.W.Frag} {σ : L2.St} {H : Hp} {ta tb tc te : TE}
theorem ev_chain {f g : Int → Int → Bool} {i j k : Int} (ha : Ev ta σ H (.int i)) (hb : Ev tb σ H (.int j)) (hc : Ev tc σ H (.int k)) :
    Ev (tChain (rI0 fun i j => .bl (f i j)) (rI0 fun i j => .bl (g i j)) ta tb tc) σ H (.bl (f i j && g j k)) := fun H1 e Q q =>
  ha H1 e _ fun H2 e2 => hb H2 (e.trans e2) _ fun H3 e3 => ⟨i, j, rfl, rfl, f i j, rfl, by
    cases h : f i j with
    | true => exact hc H3 ((e.trans e2).trans e3) _ fun H4 e4 => ⟨j, k, rfl, rfl, by rw [h] at q; exact q H4 ((e2.trans e3).trans e4)⟩
    | false => rw [h] at q; exact q H3 (e2.trans e3)⟩
theorem eu_slT {tl th : TO} {a : Addr} {xs : List V} {lo hi : Option Int} (h : Ev te σ H (.ref a)) (h1 : EvO tl σ H lo) (h2 : EvO th σ H hi) (hs : SqT K H a xs) (hn : ¬ (HT.sIx xs.length 0 lo = 0 ∧ HT.sIx xs.length xs.length hi = xs.length)) :
    EvU (tSl (rSlT K) te tl th) σ H (cutV xs lo hi) := fun H1 e Q q =>
  h H1 e _ fun H2 e2 => h1 H2 (e.trans e2) _ fun H3 e3 => h2 H3 ((e.trans e2).trans e3) _ fun H4 e4 => ⟨a, xs, rfl, ex_t (((e.trans e2).trans e3).trans e4) hs, hn, fun p np =>
    q p _ (fresh_back ((e2.trans e3).trans e4) np) (((e2.trans e3).trans e4).trans (Ex.new np)) upd_same⟩
end
theorem cut_to (xs : List V) (i : Nat) : cutV xs none (some (i : Int)) = xs.take (min i xs.length) := by
  unfold cutV
  rw [HT.sIx_none, HT.sIx_nat]
  simp

/-- a point list at an address -/
def PtsT (K : PySem.W.Frag) (H : Hp) (a : Addr) (ps : List (Addr × Pt)) : Prop := SqT K H a (refs ps) ∧ PtsL K H ps
theorem PtsT.ex {K : PySem.W.Frag} {H H' : Hp} {a : Addr} {ps : List (Addr × Pt)} (e : Ex H H') (h : PtsT K H a ps) : PtsT K H' a ps := ⟨ex_t e h.1, h.2.ex e⟩
def pts (ps : List (Addr × Pt)) : List Pt := ps.map (·.2)
def pD (p : Pt) : List Int := [p.1, p.2.1, p.2.2]
theorem pD_inj {p q : Pt} (h : pD p = pD q) : p = q := by
  obtain ⟨a, b, c⟩ := p
  obtain ⟨d, e, f⟩ := q
  unfold pD at h
  simpa using h
theorem pt_get {ps : List (Addr × Pt)} {i : Nat} {p : Addr × Pt} (h : ps[i]? = some p) : (pts ps).getD i (0, 0, 1) = p.2 := by
  unfold pts
  rw [List.getD_eq_getElem?_getD, List.getElem?_map, h]; rfl
theorem pts_len (ps : List (Addr × Pt)) : (pts ps).length = ps.length := List.length_map _
theorem pts_mem {ps : List (Addr × Pt)} {p : Addr × Pt} (h : p ∈ ps) : p.2 ∈ pts ps := List.mem_map.2 ⟨p, h, rfl⟩
theorem ref_at {ps : List (Addr × Pt)} {i : Nat} {p : Addr × Pt} (h : ps[i]? = some p) : (refs ps)[i]? = some (.ref p.1) := by rw [List.getElem?_map, h]; rfl
theorem refs_len (ps : List (Addr × Pt)) : (refs ps).length = ps.length := List.length_map _
theorem dp_pts {K : PySem.W.Frag} {H : Hp} : ∀ ps : List (Addr × Pt), PtsL K H ps → DpAll K H (refs ps) ((ps.map fun p => pD p.2).map tD)
  | [], _ => .nil
  | p :: ps, h => .cons (dp_tD (h p (by simp))) (dp_pts ps fun q hq => h q (by simp [hq]))
/-- an item of a point list -/
theorem ev_pt {K : PySem.W.Frag} {H : Hp} {a : Addr} {ps : List (Addr × Pt)} {σ : L2.St} {ta ti : TE} {i : Nat} {p : Addr × Pt} (h : PtsT K H a ps) (hp : ps[i]? = some p) (ha : Ev ta σ H (.ref a)) (hi : Ev ti σ H (.int (i : Int))) :
    Ev (tOp (rIxT K) ta ti) σ H (.ref p.1) := ev_op ha hi (rv_ixT h.1 (at_of rfl (ref_at hp)))
theorem ev_lenP {K : PySem.W.Frag} {H : Hp} {a : Addr} {ps : List (Addr × Pt)} {σ : L2.St} {ta : TE} (h : PtsT K H a ps) (ha : Ev ta σ H (.ref a)) : Ev (tCB (rLenS K) (tCons ta tNil)) σ H (.int (ps.length : Int)) :=
  ev_is (ev_cb (ea_cons ha ea_nil) (rc_lenT h.1)) (by rw [refs_len])

def sp_need_points (K : PySem.W.Frag) : Sp := fun vs H Q _ => ∃ (a : Addr) (ps : List (Addr × Pt)), vs = [.ref a] ∧ PtsT K H a ps ∧ Gd (pts ps) ∧ Ret .non H Q

theorem ok_need_points (M : Txt K mg) : FnOk P w K mg base CX0 3 M.a_need_points M.fd_need_points ["value"] (sp_need_points K) := by
  refine M.F_need_points.ok sc_need_points (fun vs H Q E h => ?_) (fun cdv A outer s H vs Q E hr h => ?_)
  · obtain ⟨_, _, rfl, _⟩ := h; rfl
  · obtain ⟨a, ps, rfl, ha, gd, k⟩ := h
    have n3 := gd.n3
    have n7 := gd.n7
    rw [pts_len] at n3 n7
    have hu : (A.deeper (envOfC (Str.ofString "need_points") (defScope s_need_points) s.heap.objs.size M.a_need_points cdv)).units + 65 < cLine := by have := hr.un; omega
    refine ⟨_, (pss_cons 
      (ps_if (PW.pt (pw_or (pt_not (pt_val (pe_callB (call_isiK K rfl) (by rfl) M.n_isinstance (by decide +kernel) (pa_cons (pv 0) (pa_cons (pe_bltn (v := .ty "tuple") (u := .type "tuple") (by rfl) M.n_tuple (by decide +kernel) rfl) pa_nil))))) (pw_or1 (pt_not (pt_chain op_le op_le pe_int (pe_callB (call_lenK K rfl) (by rfl) M.n_len (by decide +kernel) (pa_cons (pv 0) pa_nil)) (pe_glob (v := .int 40) rfl M.g_MOST_POINTS ⟨_, rfl⟩)))))) (pss_one 
        ps_never) pss_nil) (pss_one 
      (ps_for PassesOwn.never rfl (pi_range1 (by rfl) M.n_range (pa_cons (pe_callB (call_lenK K rfl) (by rfl) M.n_len (by decide +kernel) (pa_cons (pv 0) pa_nil)) pa_nil)) (pg_name (i := 1) sc_need_points.nd rfl (by first | exact Or.inl rfl | exact Or.inr rfl)) (pss_one 
        (ps_if (PW.pt (pw_or (pt_not (pt_val (pe_call (ok_is_point M) (hr.mono (by decide)) (by rfl) M.g_is_point M.F_is_point.kp M.b_is_point .nil pass0 (pa_cons (pe_ix (ix_tupK K rfl) (pv 0) (pv 1) (fun _ _ => rfl)) pa_nil)))) (pw_or1 (pt_cmpR (op_inDT K rfl hu) (pe_ix (ix_tupK K rfl) (pv 0) (pv 1) (fun _ _ => rfl)) (pe_slice (sl_tupK K rfl) (pv 0) po_none (po_some (pv 1))) (by rfl))))) (pss_one 
          ps_never) pss_nil))))), ?_⟩
    refine q_when (b := false) (et_or (a := false) (b := false) (et_not (a := true) (et_B (ev_cb (ea_cons (ev_var rfl) (ea_cons ev_c ea_nil)) (rc_isT ha.1)))) fun _ => et_not (a := true) (et_test (ev_is (ev_chain ev_c (ev_lenP ha (ev_var rfl)) ev_c) ?_))) (fun h => nomatch h) fun _ H1 e1 => ?_
    · rw [decide_eq_true (by omega), decide_eq_true (by omega)]; rfl
    refine s_forR1 (n := (ps.length : Int)) (ea_cons (Ev.mono e1 (ev_lenP ha (ev_var rfl))) ea_nil) (by omega) (fun i σ H2 => Ex H H2 ∧ ∃ x, σ = [some (.ref a), x]) (fun H2 e2 => ⟨e1.trans e2, _, rfl⟩) ?_ ?_
    · rintro i σ H2 hi ⟨e2, x, rfl⟩
      have il : i < ps.length := by omega
      obtain ⟨p, hp⟩ : ∃ p, ps[i]? = some p := ⟨_, List.getElem?_eq_getElem il⟩
      have mem := List.mem_of_getElem? hp
      have ha2 := ha.ex e2
      have c1 : Ev (tOp (rIxT K) (tVar 0) (tVar 1)) [some (.ref a), some (.int (i : Int))] H2 (.ref p.1) := ev_pt ha2 hp (ev_var rfl) (ev_var rfl)
      refine s_when (b := false) (et_or (a := false) (b := false) (et_not (a := true) (et_B (ev_call (ea_cons c1 ea_nil) fun H3 e3 Q q E => ⟨p.1, p.2, rfl, (ha2.2 p mem).ex e3, gd.sm _ (pts_mem mem), gd.gc _ (pts_mem mem), q⟩))) fun _ => et_test (ev_opU c1 (eu_slT (ev_var rfl) eo_none (eo_some (ev_var rfl)) ha2.1 ?_) ?_)) (fun h => nomatch h) fun _ H3 e3 => ⟨e2.trans e3, _, rfl⟩
      · intro z
        have := z.2
        rw [HT.sIx_nat, refs_len] at this
        omega
      · intro t H3 ht e3
        rw [cut_to, Nat.min_eq_left (by rw [refs_len]; omega)] at ht
        refine rv_val fun H4 e4 Q q => ?_
        have tk : (refs ps).take i = refs (ps.take i) := List.map_take.symm
        rw [tk] at ht
        have pl : PtsL K H4 (ps.take i) := fun p hp => (ha2.2 p (List.mem_of_mem_take hp)).ex (e3.trans e4)
        refine ⟨tD (pD p.2), ((ps.take i).map fun p => pD p.2).map tD, dp_tD ((ha2.2 p mem).ex (e3.trans e4)), .tup (st_of (e4 _ _ ht)) (dp_pts _ pl), tD_shaped _, tDt_shaped _, ?_⟩
        rw [any_tD, decide_eq_false ?_]
        · exact q
        · intro hm
          obtain ⟨p', hp', e⟩ := List.mem_map.1 hm
          obtain ⟨j, hj⟩ := List.getElem?_of_mem hp'
          have jl : j < i := by
            have := (List.getElem?_eq_some_iff.1 hj).1
            rw [List.length_take] at this; omega
          rw [List.getElem?_take_of_lt jl] at hj
          refine gd.ne (i := j) (j := i) (by rw [pts_len]; omega) (by rw [pts_len]; omega) (by omega) ?_
          rw [pt_get hj, pt_get hp]
          exact pD_inj e
    · rintro σ H2 ⟨e2, x, rfl⟩
      exact k H2 e2
end
end Mc
/-! pairs and triples of indexes; general position looked at -/
namespace Mc
open PySem PySem.Spec PyProof.Rows L2 Evl
open Vk (Pt Sm sgn dbl mnr rowP sideP Gd)

/-! ### lists of new tuples of ints -/
def TupL (H : Hp) (D : Addr) (ks : List (Addr × List Int)) : Prop := H D = some (.lst (ks.map fun p => V.ref p.1)) ∧ ∀ p, p ∈ ks → H p.1 = some (.tup (p.2.map V.int))
theorem TupL.ex {H H' : Hp} {D : Addr} {ks : List (Addr × List Int)} (e : Ex H H') (h : TupL H D ks) : TupL H' D ks := ⟨e _ _ h.1, fun p hp => e _ _ (h.2 p hp)⟩
def Acc (H0 : Hp) (D : Addr) (L : List (List Int)) (H : Hp) : Prop := H0 D = none ∧ Ex H0 H ∧ ∃ ks, TupL H D ks ∧ ks.map (·.2) = L
theorem Acc.start {H0 : Hp} {D : Addr} (h : H0 D = none) : Acc H0 D [] (upd H0 D (.lst [])) := ⟨h, Ex.new h, [], ⟨upd_same, fun p hp => nomatch hp⟩, rfl⟩
theorem Acc.step {H0 H H4 : Hp} {D : Addr} {L : List (List Int)} {ns : List Int} {te : TE} {σ : L2.St} (a : Acc H0 D L H) (hl : L.length ≤ 1000) (he : EvU te σ H (ns.map V.int)) {N : Hp → Prop} (hN : ∀ H', Acc H0 D (L ++ [ns]) H' → N H') :
    te σ H fun y H4 => ∃ acc, H4 D = some (.lst acc) ∧ acc.length < sizeLine ∧ N (upd H4 D (.lst (acc ++ [y]))) := by
  obtain ⟨n0, e, ks, ⟨h1, h2⟩, rfl⟩ := a
  rw [List.length_map] at hl
  refine he H (Ex.refl H) _ fun p H4 np e4 hp => ⟨_, e4 _ _ h1, by rw [List.length_map]; exact small1000 (by omega), hN _ ⟨n0, Ex.mut (e.trans e4) n0, ks ++ [(p, ns)], ⟨?_, ?_⟩, by simp⟩⟩
  · rw [upd_same, List.map_append]; rfl
  · intro q hq
    have hD := e4 _ _ h1
    rcases List.mem_append.1 hq with hq | hq
    · have := e4 _ _ (h2 q hq)
      rw [upd_ne (fun z => by rw [z, hD] at this; cases this)]
      exact this
    · obtain rfl : q = (p, ns) := by simpa using hq
      rw [upd_ne (fun z => by rw [show p = D from z, hD] at hp; cases hp)]
      exact hp

/-- the inner clause: for x in range(lo, hi), a new tuple each -/
theorem in_rng {n : Nat} {lo : Int} {te : TE} {vs1 : List Nat} {σ2 : L2.St} {D : Addr} {H0 H4 : Hp} {L : List (List Int)} {G : Nat → List Int} {s : Nat} {Nx : Hp → Prop} (h : Acc H0 D L H4) (hl : L.length + n ≤ 1000)
    (hw : ∀ v, wipe ((wipe σ2 vs1).set s (some v)) vs1 = wipe σ2 vs1)
    (he : ∀ j : Nat, j < n → ∀ H', Ex H0 H' → EvU te ((wipe σ2 vs1).set s (some (.int (lo + (j : Int))))) H' ((G j).map V.int)) (hN : ∀ H', Acc H0 D (L ++ (List.range n).map G) H' → Nx H') :
    ∃ W1 : Nat → Nat → Hp → Prop, (∃ m, W1 0 m H4) ∧ ∀ j k H, W1 j k H →
      ((Itr lo n).stop j H ∧ Nx H) ∨ ((Itr lo n).go j H ∧ ∃ Nx1 : Hp → Prop, (∀ H', Nx1 H' → ∃ k', k' < k ∧ W1 (j + 1) k' H') ∧ ∀ x H', (Itr lo n).yld j H x H' → gName s x (wipe σ2 vs1) H' fun σ3 H5 => wipe σ3 vs1 = wipe σ2 vs1 ∧ tYes σ3 H5 fun b H6 =>
        if b = true then te σ3 H6 fun y H7 => ∃ acc, H7 D = some (.lst acc) ∧ acc.length < sizeLine ∧ Nx1 (upd H7 D (.lst (acc ++ [y]))) else Nx1 H6) := by
  refine ⟨fun j k H => k = n - j ∧ j ≤ n ∧ Acc H0 D (L ++ (List.range j).map G) H, ⟨n, rfl, Nat.zero_le _, by simpa using h⟩, ?_⟩
  rintro j k H ⟨rfl, hj, a⟩
  by_cases hlt : j < n
  · refine .inr ⟨hlt, fun H' => Acc H0 D (L ++ (List.range (j + 1)).map G) H', fun H' a' => ⟨n - (j + 1), by omega, rfl, by omega, a'⟩, ?_⟩
    rintro x H' ⟨rfl, rfl⟩
    refine ⟨hw _, ?_⟩
    show te ((wipe σ2 vs1).set s (some (.int (lo + (j : Int))))) H' _
    refine a.step (H4 := H') (by simp; omega) (he j hlt H' a.2.1) fun H'' a' => ?_
    rw [List.range_succ, List.map_append, ← List.append_assoc]
    exact a'
  · obtain rfl : j = n := by omega
    exact .inl ⟨Nat.le_refl _, hN H a⟩

/-! ### pairs, triples -/
def prN (n : Nat) : List (Nat × Nat) := (List.range n).flatMap fun i => (List.range (n - (i + 1))).map fun j => (i, i + 1 + j)
def trN (n : Nat) : List (Nat × Nat × Nat) := (prN n).flatMap fun p => (List.range (n - (p.2 + 1))).map fun k => (p.1, p.2, p.2 + 1 + k)
def i2 (p : Nat × Nat) : List Int := [(p.1 : Int), (p.2 : Int)]
def i3 (p : Nat × Nat × Nat) : List Int := [(p.1 : Int), (p.2.1 : Int), (p.2.2 : Int)]
theorem mem_prN {n i j : Nat} : (i, j) ∈ prN n ↔ i < j ∧ j < n := by
  unfold prN
  simp only [List.mem_flatMap, List.mem_range, List.mem_map, Prod.mk.injEq]
  constructor
  · rintro ⟨a, h, b, h', rfl, rfl⟩; omega
  · intro h; exact ⟨i, by omega, j - (i + 1), by omega, rfl, by omega⟩
theorem mem_trN {n i j k : Nat} : (i, j, k) ∈ trN n ↔ i < j ∧ j < k ∧ k < n := by
  unfold trN
  simp only [List.mem_flatMap, List.mem_range, List.mem_map, Prod.mk.injEq]
  constructor
  · rintro ⟨⟨a, b⟩, h, c, h', rfl, rfl, rfl⟩
    have := mem_prN.1 h
    dsimp only at *; omega
  · intro h; exact ⟨(i, j), mem_prN.2 (by omega), k - (j + 1), by dsimp only; omega, rfl, rfl, by dsimp only; omega⟩
theorem prN_len : ∀ n, n ≤ 8 → ∀ i, i ≤ n → ((List.range i).flatMap fun i => (List.range (n - (i + 1))).map fun j => (i, i + 1 + j)).length ≤ 28 := by decide
theorem trN_len : ∀ n, n ≤ 8 → (trN n).length ≤ 56 := by decide +kernel

section
variable {P : Program} {w : World} {K : PySem.W.Frag} {mg : Str → Option Value} {base : Heap}

def sp_pairs_in (K : PySem.W.Frag) : Sp := fun vs H Q _ => ∃ n : Nat, vs = [.int (n : Int)] ∧ n ≤ 8 ∧ ∀ D H2 ks, Ex H H2 → TupL H2 D ks → ks.map (·.2) = (prN n).map i2 → Q (.ref D) H2
theorem ok_pairs_in (M : Txt K mg) : FnOk P w K mg base CX0 1 M.a_pairs_in M.fd_pairs_in ["many"] (sp_pairs_in K) := by
  refine M.F_pairs_in.ok sc_pairs_in (fun vs H Q E h => ?_) (fun cdv A outer s H vs Q E hr h => ?_)
  · obtain ⟨_, rfl, _⟩ := h; rfl
  · obtain ⟨n, rfl, n8, q⟩ := h
    refine ⟨_, (pss_one 
      (ps_ret (pe_lc2 (own := [("i", 1), ("j", 2)]) (vs1 := [2]) (by rfl) sc_pairs_in.nd (pi_range1 (by rfl) M.n_range (pa_cons (pv 0) pa_nil)) (blkOk_by (own := [("i", 1), ("j", 2)]) (N := N_pairs_in) (sc := defScope s_pairs_in) (by decide +kernel)) (by decide) (fun _ _ _ _ _ => (pg_name (i := 1) sc_pairs_in.nd rfl (by first | exact Or.inl rfl | exact Or.inr rfl))) (fun _ _ _ _ _ => pts_nil) (fun _ _ _ _ _ => (pi_range2 (by rfl) M.n_range (pa_cons (pe_op op_add (pv 1) pe_int) (pa_cons (pv 0) pa_nil)))) (fun _ _ _ _ _ => (pg_name (i := 2) sc_pairs_in.nd rfl (by first | exact Or.inl rfl | exact Or.inr rfl))) (fun _ _ _ _ _ => pts_nil) (fun _ _ _ _ _ => (pe_tup (pa_cons (pv 1) (pa_cons (pv 2) pa_nil))))))), ?_⟩
    refine ⟨_, rfl, _, rfl, by omega, by omega, fun D hD => ?_⟩
    refine ⟨fun i m H' => m = n - i ∧ i ≤ n ∧ Acc H D (((List.range i).flatMap fun i => (List.range (n - (i + 1))).map fun j => (i, i + 1 + j)).map i2) H', ⟨n, rfl, Nat.zero_le _, by simpa using Acc.start hD⟩, ?_⟩
    rintro i m H1 ⟨rfl, hi, a⟩
    by_cases hlt : i < n
    · refine .inr ⟨by show i < (n : Int).toNat; omega, fun H' => Acc H D (((List.range (i + 1)).flatMap fun i => (List.range (n - (i + 1))).map fun j => (i, i + 1 + j)).map i2) H', fun H' a' => ⟨n - (i + 1), by omega, rfl, by omega, a'⟩, ?_⟩
      rintro x H' ⟨rfl, rfl⟩
      have e0 : (0 : Int) + (i : Int) = (i : Int) := Int.zero_add _
      rw [e0]
      refine ⟨rfl, ?_⟩
      refine ⟨_, rfl, _, _, rfl, rfl, _, rfl, _, _, rfl, by omega, ?_⟩
      refine in_rng (n := ((n : Int) - ((i : Int) + 1)).toNat) (G := fun j => i2 (i, i + 1 + j)) a ?_ (fun v => rfl) ?_ ?_
      · have := prN_len n n8 i (by omega)
        rw [List.length_map]; omega
      · intro j hj H2 e2
        have : (i : Int) + 1 + (j : Int) = ((i + 1 + j : Nat) : Int) := by omega
        rw [this]
        exact eu_tup (ea_cons (ev_var rfl) (ea_cons (ev_var rfl) ea_nil)) (by show 2 ≤ 100000; decide)
      · intro H2 a2
        have hn : ((n : Int) - ((i : Int) + 1)).toNat = n - (i + 1) := by omega
        rw [hn] at a2
        rw [List.range_succ, List.flatMap_append, List.map_append]
        simpa [List.map_map, Function.comp_def] using a2
    · obtain rfl : i = n := by omega
      refine .inl ⟨by show (i : Int).toNat ≤ i; omega, ?_⟩
      obtain ⟨_, e, ks, t, hk⟩ := a
      exact q D H1 ks e t hk

def sp_triples_in (K : PySem.W.Frag) : Sp := fun vs H Q _ => ∃ n : Nat, vs = [.int (n : Int)] ∧ n ≤ 8 ∧ ∀ D H2 ks, Ex H H2 → TupL H2 D ks → ks.map (·.2) = (trN n).map i3 → Q (.ref D) H2
theorem ok_triples_in (M : Txt K mg) : FnOk P w K mg base CX0 2 M.a_triples_in M.fd_triples_in ["many"] (sp_triples_in K) := by
  refine M.F_triples_in.ok sc_triples_in (fun vs H Q E h => ?_) (fun cdv A outer s H vs Q E hr h => ?_)
  · obtain ⟨_, rfl, _⟩ := h; rfl
  · obtain ⟨n, rfl, n8, q⟩ := h
    refine ⟨_, (pss_one 
      (ps_ret (pe_lc2 (own := [("i", 1), ("j", 2), ("k", 3)]) (vs1 := [3]) (by rfl) sc_triples_in.nd (pi_listK K rfl (pe_call (ok_pairs_in M) (hr.mono (by decide)) (by rfl) M.g_pairs_in M.F_pairs_in.kp M.b_pairs_in .nil pass0 (pa_cons (pv 0) pa_nil))) (blkOk_by (own := [("i", 1), ("j", 2), ("k", 3)]) (N := N_triples_in) (sc := defScope s_triples_in) (by decide +kernel)) (by decide) (fun _ _ _ _ _ => (pg_tupK (n := 2) K rfl rfl (pgs_cons (pg_name (i := 1) sc_triples_in.nd rfl (by first | exact Or.inl rfl | exact Or.inr rfl)) (pgs_cons (pg_name (i := 2) sc_triples_in.nd rfl (by first | exact Or.inl rfl | exact Or.inr rfl)) pgs_nil)))) (fun _ _ _ _ _ => pts_nil) (fun _ _ _ _ _ => (pi_range2 (by rfl) M.n_range (pa_cons (pe_op op_add (pv 2) pe_int) (pa_cons (pv 0) pa_nil)))) (fun _ _ _ _ _ => (pg_name (i := 3) sc_triples_in.nd rfl (by first | exact Or.inl rfl | exact Or.inr rfl))) (fun _ _ _ _ _ => pts_nil) (fun _ _ _ _ _ => (pe_tup (pa_cons (pv 1) (pa_cons (pv 2) (pa_cons (pv 3) pa_nil)))))))), ?_⟩
    refine ⟨_, rfl, n, rfl, n8, fun PL H0 ks e0 tl hks => ?_⟩
    have lenk : ks.length = (prN n).length := by
      have := congrArg List.length hks
      simpa using this
    refine ⟨PL, rfl, ⟨_, sq_of tl.1⟩, fun D hD => ?_⟩
    have rows : ∀ (i : Nat) (k : Addr × List Int), ks[i]? = some k → ∃ p : Nat × Nat, (prN n)[i]? = some p ∧ k.2 = i2 p := by
      intro i k hk
      have := congrArg (fun l => l[i]?) hks
      simp only [List.getElem?_map, hk, Option.map_some] at this
      cases h : (prN n)[i]? with
      | none => rw [h] at this; cases this
      | some p => rw [h] at this; exact ⟨p, rfl, by simpa using this⟩
    have len56 : ∀ i : Nat, (((prN n).take i).flatMap fun p => (List.range (n - (p.2 + 1))).map fun k => (p.1, p.2, p.2 + 1 + k)).length ≤ 56 := by
      intro i
      refine Nat.le_trans ?_ (trN_len n n8)
      unfold trN
      conv => rhs; rw [← List.take_append_drop i (prN n)]
      rw [List.flatMap_append, List.length_append]
      omega
    refine ⟨fun i m H' => m = ks.length - i ∧ i ≤ ks.length ∧ Acc H0 D ((((prN n).take i).flatMap fun p => (List.range (n - (p.2 + 1))).map fun k => (p.1, p.2, p.2 + 1 + k)).map i3) H', ⟨_, rfl, Nat.zero_le _, by simpa using Acc.start hD⟩, ?_⟩
    rintro i m H1 ⟨rfl, hi, a⟩
    have tl1 := tl.ex a.2.1
    by_cases hlt : i < ks.length
    · obtain ⟨k, hk⟩ : ∃ k, ks[i]? = some k := ⟨_, List.getElem?_eq_getElem hlt⟩
      obtain ⟨⟨p1, p2⟩, hp, ek⟩ := rows i k hk
      have hkx : (ks.map fun p => V.ref p.1)[i]? = some (V.ref k.1) := by rw [List.getElem?_map, hk]; rfl
      have lt12 := mem_prN.1 (List.mem_of_getElem? hp)
      refine .inr ⟨⟨_, _, sq_of tl1.1, hkx⟩, fun H' => Acc H0 D ((((prN n).take (i + 1)).flatMap fun p => (List.range (n - (p.2 + 1))).map fun k => (p.1, p.2, p.2 + 1 + k)).map i3) H', fun H' a' => ⟨ks.length - (i + 1), by omega, rfl, by omega, a'⟩, ?_⟩
      rintro x H' ⟨rfl, fv⟩
      obtain rfl : x = V.ref k.1 := Option.some.inj ((fv _ (sq_of tl1.1)).symm.trans hkx)
      have hkt : H' k.1 = some (.tup [.int (p1 : Int), .int (p2 : Int)]) := by
        rw [tl1.2 k (List.mem_of_getElem? hk), ek]; rfl
      refine g_pair (st_of hkt) ⟨rfl, ?_⟩
      refine ⟨_, rfl, _, _, rfl, rfl, _, rfl, _, _, rfl, by omega, ?_⟩
      refine in_rng (n := ((n : Int) - ((p2 : Int) + 1)).toNat) (G := fun j => i3 (p1, p2, p2 + 1 + j)) a ?_ (fun v => rfl) ?_ ?_
      · have := len56 i
        rw [List.length_map]; omega
      · intro j hj H2 e2
        have : (p2 : Int) + 1 + (j : Int) = ((p2 + 1 + j : Nat) : Int) := by omega
        rw [this]
        exact eu_tup (ea_cons (ev_var rfl) (ea_cons (ev_var rfl) (ea_cons (ev_var rfl) ea_nil))) (by show 3 ≤ 100000; decide)
      · intro H2 a2
        have hn : ((n : Int) - ((p2 : Int) + 1)).toNat = n - (p2 + 1) := by omega
        rw [hn] at a2
        rw [List.take_add_one, hp, List.flatMap_append, List.map_append]
        simpa [List.map_map, Function.comp_def] using a2
    · obtain rfl : i = ks.length := by omega
      refine .inl ⟨⟨_, sq_of tl1.1, by rw [List.length_map]; exact Nat.le_refl _⟩, ?_⟩
      obtain ⟨_, e, ks', t, hk⟩ := a
      refine q D H1 ks' (e0.trans e) t ?_
      rw [hk, lenk, List.take_length]; rfl
end
end Mc
/-! general position, sites, what lies inside -/
namespace Mc
open PySem PySem.Spec PyProof.Rows L2 Evl
open Vk (Pt Sm sgn dbl mnr rowP sideP Gd oP dP)

/-- the point at a place -/
def ptN (ps : List (Addr × Pt)) (i : Nat) : Pt := (pts ps).getD i (0, 0, 1)
theorem ptN_get {ps : List (Addr × Pt)} {i : Nat} {p : Addr × Pt} (h : ps[i]? = some p) : ptN ps i = p.2 := pt_get h
def insB (ps : List (Addr × Pt)) (i j k d : Nat) : Bool := decide (dP (ptN ps i) (ptN ps j) (ptN ps k) (ptN ps d) * oP (ptN ps i) (ptN ps j) (ptN ps k) < 0)
def inside (ps : List (Addr × Pt)) (i j k : Nat) : List Nat := (List.range ps.length).filter (insB ps i j k)
def leftB (ps : List (Addr × Pt)) (i j d : Nat) : Bool := decide (0 < oP (ptN ps i) (ptN ps j) (ptN ps d))
def left (ps : List (Addr × Pt)) (i j : Nat) : List Nat := (List.range ps.length).filter (leftB ps i j)
def nV (L : List Nat) : List V := L.map fun (d : Nat) => V.int (d : Int)

theorem given_of (L : List Nat) (g : Nat → Bool) : ∀ m, m ≤ L.length → given m (fun i => g (L.getD i 0)) (fun i => V.int ((L.getD i 0 : Nat) : Int)) = nV ((L.take m).filter g)
  | 0, _ => rfl
  | m + 1, h => by
    have ih := given_of L g m (by omega)
    have e : L[m]? = some L[m] := List.getElem?_eq_getElem (by omega)
    have e2 : L.getD m 0 = L[m] := by rw [List.getD_eq_getElem?_getD, e]; rfl
    rw [List.take_add_one, e, List.filter_append]
    cases hg : g (L.getD m 0) with
    | true =>
      rw [given_yes (f := fun i => g (L.getD i 0)) hg, ih, e2]
      rw [e2] at hg
      simp [nV, hg]
    | false =>
      rw [given_no (f := fun i => g (L.getD i 0)) hg, ih]
      rw [e2] at hg
      simp [nV, hg]
theorem given_rng (n : Nat) (g : Nat → Bool) : given n g (fun i => V.int (i : Int)) = nV ((List.range n).filter g) := rfl

section
variable {K : PySem.W.Frag} {σ : L2.St} {H : Hp}
/-- a comprehension over a tuple -/
theorem el_lcT {a : Addr} {xs : List V} {tl te : TE} {t : TT} {j : Nat} {vs : List Nat} (f : Nat → Bool) (v : Nat → V) (h : Ev tl σ H (.ref a)) (hx : SqT K H a xs) (hz : xs.length ≤ 40000) (hw : ∀ x, wipe ((wipe σ vs).set j (some x)) vs = wipe σ vs)
    (ht : ∀ (i : Nat) (x : V) H1, Ex H H1 → xs[i]? = some x → EvT t ((wipe σ vs).set j (some x)) H1 (f i)) (he : ∀ (i : Nat) (x : V) H1, Ex H H1 → xs[i]? = some x → f i = true → Ev te ((wipe σ vs).set j (some x)) H1 (v i)) :
    EvL (tLc (iTup K tl) (gName j) t te vs) σ H (given xs.length f v) := by
  intro H0 e Q q
  refine h H0 e _ fun H1 e1 => ⟨a, rfl, ⟨xs, ex_t (e.trans e1) hx⟩, fun Dl hD => ?_⟩
  refine lc_tup (xs := xs) (Cw H1 f v Dl) ⟨hD, Ex.new hD, upd_same⟩ ?_ ?_ ?_
  · exact fun i H' _ p => ex_t ((e.trans e1).trans p.2.1) hx
  · intro i x H' hi p
    have il := (List.getElem?_eq_some_iff.1 hi).1
    exact ⟨hw x, cw_turn p (by omega) (ht i x H1 (e.trans e1) hi) fun hf => he i x H1 (e.trans e1) hi hf⟩
  · exact fun H' p => q Dl H' (fresh_back e1 p.1) (e1.trans p.2.1) p.2.2
theorem et_yes : EvT tYes σ H true := fun H1 _ Q q => q H1 (Ex.refl H1)
/-- a triple is taken apart -/
theorem g_triple {i j l : Nat} {p : Addr} {x y z : V} {R : L2.St → Hp → Prop} (h : SqT K H p [x, y, z]) (r : R (((σ.set i (some x)).set j (some y)).set l (some z)) H) : gTup K 3 (gCons (gName i) (gCons (gName j) (gCons (gName l) gNil))) (.ref p) σ H R :=
  ⟨p, _, rfl, h, rfl, _, _, rfl, _, _, rfl, _, _, rfl, rfl, r⟩
theorem dvd2 {p : Pt} (h : Sm p) : p.2.2 ∣ 2 := by
  rcases h.2.2 with e | e <;> rw [e] <;> decide

/-- the side of a circle, asked -/
theorem ev_side {ta : TA} {a b c d : Addr} {p q r t : Pt} (h : EvA ta σ H [.ref a, .ref b, .ref c, .ref d]) (ha : PtAt K H a p) (hb : PtAt K H b q) (hc : PtAt K H c r) (hd : PtAt K H d t) (sp : Sm p) (sq : Sm q) (sr : Sm r) (st : Sm t)
    (o : oP p q r ≠ 0) (z : dP p q r t ≠ 0) {H1 : Hp} (e : Ex H H1) {Q : VK} (k : ∀ (v : Int) H2, Ex H1 H2 → v ≠ 0 → (0 < v ↔ dP p q r t * oP p q r < 0) → Q (.int v) H2) : tCall (sp_side_of K) [] E0 ta σ H1 Q := by
  refine h H1 e _ fun H2 e2 => ?_
  have e' := e.trans e2
  refine ⟨a, b, c, d, p, q, r, t, rfl, ha.ex e', hb.ex e', hc.ex e', hd.ex e', sp, sq, sr, st, fun W hW d1 d2 d3 d4 H3 e3 => ?_⟩
  have s := Vk.sideP_spec hW sp sq sr st d1 d2 d3 d4 o z
  exact k _ H3 (e2.trans e3) s.1 s.2
end

section
variable {P : Program} {w : World} {K : PySem.W.Frag} {mg : Str → Option Value} {base : Heap}

theorem gd_o {ps : List (Addr × Pt)} (g : Gd (pts ps)) {i j k : Nat} (hi : i < ps.length) (hj : j < ps.length) (hk : k < ps.length) (h1 : i ≠ j) (h2 : i ≠ k) (h3 : j ≠ k) : oP (ptN ps i) (ptN ps j) (ptN ps k) ≠ 0 := by
  have l := pts_len ps
  exact g.nO i j k (by omega) (by omega) (by omega) h1 h2 h3
theorem gd_d {ps : List (Addr × Pt)} (g : Gd (pts ps)) {i j k d : Nat} (hi : i < ps.length) (hj : j < ps.length) (hk : k < ps.length) (hd : d < ps.length) (h1 : i ≠ j) (h2 : i ≠ k) (h3 : j ≠ k) (h4 : d ≠ i) (h5 : d ≠ j) (h6 : d ≠ k) :
    dP (ptN ps i) (ptN ps j) (ptN ps k) (ptN ps d) ≠ 0 := by
  have l := pts_len ps
  exact g.nD i j k d (by omega) (by omega) (by omega) (by omega) h1 h2 h3 h4 h5 h6
theorem gd_sm {ps : List (Addr × Pt)} (g : Gd (pts ps)) {i : Nat} {p : Addr × Pt} (h : ps[i]? = some p) : Sm p.2 := g.sm _ (pts_mem (List.mem_of_getElem? h))

def sp_need_general (K : PySem.W.Frag) : Sp := fun vs H Q _ => ∃ (a : Addr) (ps : List (Addr × Pt)), vs = [.ref a] ∧ PtsT K H a ps ∧ Gd (pts ps) ∧ Ret .non H Q
theorem ok_need_general (M : Txt K mg) : FnOk P w K mg base CX0 4 M.a_need_general M.fd_need_general ["points"] (sp_need_general K) := by
  refine M.F_need_general.ok sc_need_general (fun vs H Q E h => ?_) (fun cdv A outer s H vs Q E hr h => ?_)
  · obtain ⟨_, _, rfl, _⟩ := h; rfl
  · obtain ⟨a, ps, rfl, ha, gd, k⟩ := h
    have n7 := gd.n7
    rw [pts_len] at n7
    refine ⟨_, (pss_cons 
      (ps_expr (pe_call (ok_need_points M) (hr.mono (by decide)) (by rfl) M.g_need_points M.F_need_points.kp M.b_need_points .nil pass0 (pa_cons (pv 0) pa_nil))) (pss_one 
      (ps_for PassesOwn.never rfl (pi_range1 (by rfl) M.n_range (pa_cons (pe_callB (call_lenK K rfl) (by rfl) M.n_len (by decide +kernel) (pa_cons (pv 0) pa_nil)) pa_nil)) (pg_name (i := 1) sc_need_general.nd rfl (by first | exact Or.inl rfl | exact Or.inr rfl)) (pss_one 
        (ps_for PassesOwn.never rfl (pi_range1 (by rfl) M.n_range (pa_cons (pv 1) pa_nil)) (pg_name (i := 2) sc_need_general.nd rfl (by first | exact Or.inl rfl | exact Or.inr rfl)) (pss_one 
          (ps_for PassesOwn.never rfl (pi_range1 (by rfl) M.n_range (pa_cons (pv 2) pa_nil)) (pg_name (i := 3) sc_need_general.nd rfl (by first | exact Or.inl rfl | exact Or.inr rfl)) (pss_one 
            (ps_if (pt_cmpR op_eq (pe_call (ok_turn_of M) (hr.mono (by decide)) (by rfl) M.g_turn_of M.F_turn_of.kp M.b_turn_of .nil pass0 (pa_cons (pe_ix (ix_tupK K rfl) (pv 0) (pv 1) (fun _ _ => rfl)) (pa_cons (pe_ix (ix_tupK K rfl) (pv 0) (pv 2) (fun _ _ => rfl)) (pa_cons (pe_ix (ix_tupK K rfl) (pv 0) (pv 3) (fun _ _ => rfl)) pa_nil)))) pe_int (nomark _)) (pss_one 
              ps_never) pss_nil))))))))), ?_⟩
    refine q_drop (v := .non) (ev_call (ea_cons (ev_var rfl) ea_nil) fun H1 e1 Q q E => ⟨a, ps, rfl, ha.ex e1, gd, q⟩) fun H1 e1 => ?_
    refine s_forR1 (n := (ps.length : Int)) (ea_cons (Ev.mono e1 (ev_lenP ha (ev_var rfl))) ea_nil) (by omega) (fun i σ H2 => Ex H H2 ∧ ∃ x y z, σ = [some (.ref a), x, y, z]) (fun H2 e2 => ⟨e1.trans e2, _, _, _, rfl⟩) ?_ ?_
    · rintro i σ H2 hi ⟨e2, x, y, z, rfl⟩
      refine s_forR1 (n := (i : Int)) (ea_cons (ev_var rfl) ea_nil) (by omega) (fun _ σ H2 => Ex H H2 ∧ ∃ y z, σ = [some (.ref a), some (.int (i : Int)), y, z]) (fun H3 e3 => ⟨e2.trans e3, _, _, rfl⟩) ?_ ?_
      · rintro j σ H3 hj ⟨e3, y, z, rfl⟩
        refine s_forR1 (n := (j : Int)) (ea_cons (ev_var rfl) ea_nil) (by omega) (fun _ σ H2 => Ex H H2 ∧ ∃ z, σ = [some (.ref a), some (.int (i : Int)), some (.int (j : Int)), z]) (fun H4 e4 => ⟨e3.trans e4, _, rfl⟩) ?_ ?_
        · rintro l σ H4 hl ⟨e4, z, rfl⟩
          obtain ⟨p, hp⟩ : ∃ p, ps[i]? = some p := ⟨_, List.getElem?_eq_getElem (by omega)⟩
          obtain ⟨q, hq⟩ : ∃ p, ps[j]? = some p := ⟨_, List.getElem?_eq_getElem (by omega)⟩
          obtain ⟨r, hr'⟩ : ∃ p, ps[l]? = some p := ⟨_, List.getElem?_eq_getElem (by omega)⟩
          have ha4 := ha.ex e4
          have o := gd_o gd (i := i) (j := j) (k := l) (by omega) (by omega) (by omega) (by omega) (by omega) (by omega)
          rw [ptN_get hp, ptN_get hq, ptN_get hr'] at o
          refine s_when (b := false) (et_test (ev_is (ev_op (ev_call (ea_cons (ev_pt ha4 hp (ev_var rfl) (ev_var rfl)) (ea_cons (ev_pt ha4 hq (ev_var rfl) (ev_var rfl)) (ea_cons (ev_pt ha4 hr' (ev_var rfl) (ev_var rfl)) ea_nil))) (z := .int (sgn (dbl p.2 q.2 r.2))) ?_) ev_c (rv_eq rfl)) ?_)) (fun h => nomatch h) fun _ H5 e5 => ⟨e4.trans e5, _, rfl⟩
          · intro H5 e5 Q q' E
            exact ⟨_, _, _, _, _, _, rfl, (ha4.2 p (List.mem_of_getElem? hp)).ex e5, (ha4.2 q (List.mem_of_getElem? hq)).ex e5, (ha4.2 r (List.mem_of_getElem? hr')).ex e5, gd_sm gd hp, gd_sm gd hq, gd_sm gd hr', q'⟩
          · congr 1
            refine decide_eq_false fun h => o ((Vk.dbl_pos (gd_sm gd hp) (gd_sm gd hq) (gd_sm gd hr')).2.1 (V.int.inj h))
        · rintro σ H4 ⟨e4, z, rfl⟩
          exact ⟨e4, _, _, rfl⟩
      · rintro σ H3 ⟨e3, y, z, rfl⟩
        exact ⟨e3, _, _, _, rfl⟩
    · rintro σ H2 ⟨e2, x, y, z, rfl⟩
      exact k H2 e2

def sp_need_size (K : PySem.W.Frag) : Sp := fun vs H Q _ => ∃ (a : Addr) (ps : List (Addr × Pt)) (k : Nat), vs = [.ref a, .int (k : Int)] ∧ PtsT K H a ps ∧ 1 ≤ k ∧ k + 1 ≤ ps.length ∧ Ret .non H Q
theorem ok_need_size (M : Txt K mg) : FnOk P w K mg base CX0 2 M.a_need_size M.fd_need_size ["points", "k"] (sp_need_size K) := by
  refine M.F_need_size.ok sc_need_size (fun vs H Q E h => ?_) (fun cdv A outer s H vs Q E hr h => ?_)
  · obtain ⟨_, _, _, rfl, _⟩ := h; rfl
  · obtain ⟨a, ps, n, rfl, ha, n1, n2, k⟩ := h
    refine ⟨_, (pss_one 
      (ps_if (pt_not (pt_val (pe_call (ok_is_in M) (hr.mono (by decide)) (by rfl) M.g_is_in M.F_is_in.kp M.b_is_in .nil pass0 (pa_cons (pv 1) (pa_cons pe_int (pa_cons (pe_op op_sub (pe_callB (call_lenK K rfl) (by rfl) M.n_len (by decide +kernel) (pa_cons (pv 0) pa_nil)) pe_int) pa_nil)))))) (pss_one 
        ps_never) pss_nil)), ?_⟩
    refine s_when (b := false) (et_not (a := true) (et_B (ev_call (ea_cons (ev_var rfl) (ea_cons ev_c (ea_cons (ev_op (ev_lenP ha (ev_var rfl)) ev_c rv_I0) ea_nil))) fun H1 e1 Q q E => ⟨_, _, _, rfl, ?_⟩))) (fun h => nomatch h) fun _ H1 e1 => k H1 e1
    rw [decide_eq_true (by omega), decide_eq_true (by omega)]
    exact q

def sp_lefts (K : PySem.W.Frag) : Sp := fun vs H Q _ => ∃ (a b c : Addr) (ps : List (Addr × Pt)) (i j : Nat) (p q : Addr × Pt), vs = [.ref a, .ref p.1, .ref q.1] ∧ PtsT K H a ps ∧ Gd (pts ps) ∧ ps[i]? = some p ∧ ps[j]? = some q ∧ RetL (nV (left ps i j)) H Q
theorem ok_lefts (M : Txt K mg) : FnOk P w K mg base CX0 3 M.a_lefts M.fd_lefts ["points", "a", "b"] (sp_lefts K) := by
  refine M.F_lefts.ok sc_lefts (fun vs H Q E h => ?_) (fun cdv A outer s H vs Q E hr h => ?_)
  · obtain ⟨_, _, _, _, _, _, _, _, rfl, _⟩ := h; rfl
  · obtain ⟨a, b, c, ps, i, j, p, q, rfl, ha, gd, hp, hq, k⟩ := h
    have n7 := gd.n7
    rw [pts_len] at n7
    refine ⟨_, (pss_one 
      (ps_ret (pe_lc (own := [("k", 3)]) (by rfl) sc_lefts.nd (pi_range1 (by rfl) M.n_range (pa_cons (pe_callB (call_lenK K rfl) (by rfl) M.n_len (by decide +kernel) (pa_cons (pv 0) pa_nil)) pa_nil)) (blkOk_by (own := [("k", 3)]) (N := N_lefts) (sc := defScope s_lefts) (by decide +kernel)) (fun _ _ _ _ _ => (pg_name (i := 3) sc_lefts.nd rfl (by first | exact Or.inl rfl | exact Or.inr rfl))) (fun _ _ _ _ _ => (pts_one (pt_cmpR op_gt (pe_call (ok_turn_of M) (hr.mono (by decide)) (by rfl) M.g_turn_of M.F_turn_of.kp M.b_turn_of .nil pass0 (pa_cons (pv 1) (pa_cons (pv 2) (pa_cons (pe_ix (ix_tupK K rfl) (pv 0) (pv 3) (fun _ _ => rfl)) pa_nil)))) pe_int (nomark _)))) (fun _ _ _ _ _ => (pv 3))))), ?_⟩
    refine s_retL (el_lcR1 (n := (ps.length : Int)) (leftB ps i j) (fun d => V.int (d : Int)) (ea_cons (ev_lenP ha (ev_var rfl)) ea_nil) (by omega) (fun x => rfl)
      (fun d H1 e1 hd => ?_) (fun d H1 e1 hd _ => ev_var rfl)) fun D H1 nD e1 hD => k D H1 nD e1 ?_
    · obtain ⟨r, hr'⟩ : ∃ p, ps[d]? = some p := ⟨_, List.getElem?_eq_getElem (by omega)⟩
      have ha1 := ha.ex e1
      refine et_test (ev_is (ev_op (ev_call (ea_cons (ev_var rfl) (ea_cons (ev_var rfl) (ea_cons (ev_pt ha1 hr' (ev_var rfl) (ev_var rfl)) ea_nil))) (z := .int (sgn (dbl p.2 q.2 r.2))) ?_) ev_c rv_I0) ?_)
      · intro H5 e5 Q q' E
        exact ⟨_, _, _, _, _, _, rfl, (ha1.2 p (List.mem_of_getElem? hp)).ex e5, (ha1.2 q (List.mem_of_getElem? hq)).ex e5, (ha1.2 r (List.mem_of_getElem? hr')).ex e5, gd_sm gd hp, gd_sm gd hq, gd_sm gd hr', q'⟩
      · unfold leftB
        rw [ptN_get hp, ptN_get hq, ptN_get hr']
        congr 1
        exact decide_eq_decide.2 (Vk.dbl_pos (gd_sm gd hp) (gd_sm gd hq) (gd_sm gd hr')).1
    · rw [hD, Int.toNat_natCast, given_rng]; rfl
end
end Mc
/-! sites, what lies inside -/
namespace Mc
open PySem PySem.Spec PyProof.Rows L2 Evl
open Vk (Pt Sm sgn dbl mnr rowP sideP Gd oP dP)

theorem inV3 (d i j k : Nat) : inV (.int (d : Int)) [.int (i : Int), .int (j : Int), .int (k : Int)] = decide (d = i ∨ d = j ∨ d = k) := by
  have e : ∀ a b : Nat, eqV (.int (a : Int)) (.int (b : Int)) = decide (b = a) := by
    intro a b
    show ((a : Int) == (b : Int)) = _
    by_cases h : b = a
    · subst h; simp
    · have : ¬ (a : Int) = (b : Int) := fun z => h (by omega)
      simp [h, this]
  unfold inV
  rw [List.any_cons, List.any_cons, List.any_cons, List.any_nil, e, e, e]
  by_cases h1 : d = i <;> by_cases h2 : d = j <;> by_cases h3 : d = k <;> simp [h1, h2, h3]

theorem ins_out {ps : List (Addr × Pt)} {i j k d : Nat} (h : d = i ∨ d = j ∨ d = k) : insB ps i j k d = false := by
  have z : dP (ptN ps i) (ptN ps j) (ptN ps k) (ptN ps d) = 0 := by
    rcases h with rfl | rfl | rfl
    · exact Vk.D_a (Vk.gX (pts ps)) (Vk.gY (pts ps)) (fun i => Vk.gX (pts ps) i * Vk.gX (pts ps) i + Vk.gY (pts ps) i * Vk.gY (pts ps) i) d j k
    · exact Vk.D_b (Vk.gX (pts ps)) (Vk.gY (pts ps)) (fun i => Vk.gX (pts ps) i * Vk.gX (pts ps) i + Vk.gY (pts ps) i * Vk.gY (pts ps) i) i d k
    · exact Vk.D_c (Vk.gX (pts ps)) (Vk.gY (pts ps)) (fun i => Vk.gX (pts ps) i * Vk.gX (pts ps) i + Vk.gY (pts ps) i * Vk.gY (pts ps) i) i j d
  unfold insB
  rw [z]
  refine decide_eq_false ?_
  omega

/-- what triples_in gives, item by item -/
theorem tr_item {n : Nat} {ks : List (Addr × List Int)} (h : ks.map (·.2) = (trN n).map i3) {x : Nat} {k : Addr × List Int} (hk : ks[x]? = some k) : ∃ i j l : Nat, (trN n)[x]? = some (i, j, l) ∧ k.2 = i3 (i, j, l) ∧ i < j ∧ j < l ∧ l < n := by
  have := congrArg (fun l => l[x]?) h
  simp only [List.getElem?_map, hk, Option.map_some] at this
  cases e : (trN n)[x]? with
  | none => rw [e] at this; cases this
  | some p =>
    rw [e] at this
    obtain ⟨i, j, l⟩ := p
    have m := mem_trN.1 (List.mem_of_getElem? e)
    exact ⟨i, j, l, rfl, by simpa using this, m⟩

section
variable {P : Program} {w : World} {K : PySem.W.Frag} {mg : Str → Option Value} {base : Heap}

def sp_need_sites (K : PySem.W.Frag) : Sp := fun vs H Q _ => ∃ (a : Addr) (ps : List (Addr × Pt)), vs = [.ref a] ∧ PtsT K H a ps ∧ Gd (pts ps) ∧ Ret .non H Q
theorem ok_need_sites (M : Txt K mg) : FnOk P w K mg base CX0 5 M.a_need_sites M.fd_need_sites ["points"] (sp_need_sites K) := by
  refine M.F_need_sites.ok sc_need_sites (fun vs H Q E h => ?_) (fun cdv A outer s H vs Q E hr h => ?_)
  · obtain ⟨_, _, rfl, _⟩ := h; rfl
  · obtain ⟨a, ps, rfl, ha, gd, k⟩ := h
    have n7 := gd.n7
    have n3 := gd.n3
    rw [pts_len] at n7 n3
    refine ⟨_, (pss_cons 
      (ps_expr (pe_call (ok_need_points M) (hr.mono (by decide)) (by rfl) M.g_need_points M.F_need_points.kp M.b_need_points .nil pass0 (pa_cons (pv 0) pa_nil))) (pss_cons 
      (ps_set (i := 1) sc_need_sites.nd rfl (by first | exact Or.inl rfl | exact Or.inr rfl) (pe_callB (call_lenK K rfl) (by rfl) M.n_len (by decide +kernel) (pa_cons (pv 0) pa_nil))) (pss_cons 
      (ps_if (pt_cmpR op_lt (pv 1) pe_int (nomark _)) (pss_one 
        ps_never) pss_nil) (pss_cons 
      (ps_if (pt_cmpR op_gt (pv 1) (pe_glob (v := .int 8) rfl M.g_MOST_NEAR ⟨_, rfl⟩) (nomark _)) (pss_one 
        ps_never) pss_nil) (pss_cons 
      (ps_expr (pe_call (ok_need_general M) (hr.mono (by decide)) (by rfl) M.g_need_general M.F_need_general.kp M.b_need_general .nil pass0 (pa_cons (pv 0) pa_nil))) (pss_one 
      (ps_for PassesOwn.never rfl (pi_listK K rfl (pe_call (ok_triples_in M) (hr.mono (by decide)) (by rfl) M.g_triples_in M.F_triples_in.kp M.b_triples_in .nil pass0 (pa_cons (pv 1) pa_nil))) (pg_tupK (n := 3) K rfl rfl (pgs_cons (pg_name (i := 2) sc_need_sites.nd rfl (by first | exact Or.inl rfl | exact Or.inr rfl)) (pgs_cons (pg_name (i := 3) sc_need_sites.nd rfl (by first | exact Or.inl rfl | exact Or.inr rfl)) (pgs_cons (pg_name (i := 4) sc_need_sites.nd rfl (by first | exact Or.inl rfl | exact Or.inr rfl)) pgs_nil)))) (pss_one 
        (ps_for PassesOwn.never rfl (pi_range2 (by rfl) M.n_range (pa_cons (pe_op op_add (pv 4) pe_int) (pa_cons (pv 1) pa_nil))) (pg_name (i := 5) sc_need_sites.nd rfl (by first | exact Or.inl rfl | exact Or.inr rfl)) (pss_one 
          (ps_if (pt_cmpR op_eq (pe_call (ok_side_of M) (hr.mono (by decide)) (by rfl) M.g_side_of M.F_side_of.kp M.b_side_of .nil pass0 (pa_cons (pe_ix (ix_tupK K rfl) (pv 0) (pv 2) (fun _ _ => rfl)) (pa_cons (pe_ix (ix_tupK K rfl) (pv 0) (pv 3) (fun _ _ => rfl)) (pa_cons (pe_ix (ix_tupK K rfl) (pv 0) (pv 4) (fun _ _ => rfl)) (pa_cons (pe_ix (ix_tupK K rfl) (pv 0) (pv 5) (fun _ _ => rfl)) pa_nil))))) pe_int (nomark _)) (pss_one 
            ps_never) pss_nil))))))))))), ?_⟩
    refine q_drop (v := .non) (ev_call (ea_cons (ev_var rfl) ea_nil) fun H1 e1 Q q E => ⟨a, ps, rfl, ha.ex e1, gd, q⟩) fun H1 e1 => ?_
    refine q_asg (v := .int (ps.length : Int)) (Ev.mono e1 (ev_lenP ha (ev_var rfl))) fun H2 e2 => ?_
    refine q_when (b := false) (et_test (ev_is (ev_op (ev_var rfl) ev_c rv_I0) (by congr 1; exact decide_eq_false (by omega)))) (fun h => nomatch h) fun _ H3 e3 => ?_
    refine q_when (b := false) (et_test (ev_is (ev_op (ev_var rfl) ev_c rv_I0) (by congr 1; exact decide_eq_false (by omega)))) (fun h => nomatch h) fun _ H4 e4 => ?_
    have e5 := ((e1.trans e2).trans e3).trans e4
    refine q_drop (v := .non) (ev_call (ea_cons (ev_var rfl) ea_nil) fun H1 e1 Q q E => ⟨a, ps, rfl, ha.ex (e5.trans e1), gd, q⟩) fun H5 e6 => ?_
    have e7 := e5.trans e6
    refine r_call (r_cons (r_of (ev_var rfl) fun H6 e8 => r_nil ⟨ps.length, rfl, by omega, fun D H7 ks e9 tl hks => ⟨D, rfl, ⟨_, sq_of tl.1⟩, ?_⟩⟩))
    have e10 := (e7.trans e8).trans e9
    refine for_list (xs := ks.map fun p => V.ref p.1) (fun x σ H' => Ex H7 H' ∧ ∃ x1 x2 x3 x4, σ = [some (.ref a), some (.int (ps.length : Int)), x1, x2, x3, x4]) ⟨Ex.refl _, _, _, _, _, rfl⟩ ?_ ?_ ?_
    · rintro x σ H' _ ⟨e, _⟩
      exact sq_of (e _ _ tl.1)
    · rintro x v σ H' hx ⟨e, x1, x2, x3, x4, rfl⟩
      rw [List.getElem?_map] at hx
      obtain ⟨kk, hk, rfl⟩ := Option.map_eq_some_iff.1 hx
      obtain ⟨i, j, l, _, ek, ij, jl, ln⟩ := tr_item hks hk
      have hkt : SqT K H' kk.1 [.int (i : Int), .int (j : Int), .int (l : Int)] := st_of (by rw [(tl.ex e).2 kk (List.mem_of_getElem? hk), ek]; rfl)
      refine g_triple hkt ?_
      refine s_forR2 (lo := (l : Int) + 1) (n := (ps.length : Int)) (ea_cons (ev_op (ev_var rfl) ev_c rv_I0) (ea_cons (ev_var rfl) ea_nil)) (by omega) (fun _ σ H'' => Ex H7 H'' ∧ ∃ x4, σ = [some (.ref a), some (.int (ps.length : Int)), some (.int (i : Int)), some (.int (j : Int)), some (.int (l : Int)), x4]) (fun H'' e'' => ⟨e.trans e'', _, rfl⟩) ?_ ?_
      · rintro m σ H8 hm ⟨e11, y, rfl⟩
        have ha8 := ha.ex (e10.trans e11)
        obtain ⟨p, hp⟩ : ∃ p, ps[i]? = some p := ⟨_, List.getElem?_eq_getElem (by omega)⟩
        obtain ⟨q, hq⟩ : ∃ p, ps[j]? = some p := ⟨_, List.getElem?_eq_getElem (by omega)⟩
        obtain ⟨r, hr'⟩ : ∃ p, ps[l]? = some p := ⟨_, List.getElem?_eq_getElem (by omega)⟩
        obtain ⟨t, ht⟩ : ∃ p, ps[l + 1 + m]? = some p := ⟨_, List.getElem?_eq_getElem (by omega)⟩
        have em : (l : Int) + 1 + (m : Int) = ((l + 1 + m : Nat) : Int) := by omega
        rw [em]
        have o := gd_o gd (i := i) (j := j) (k := l) (by omega) (by omega) (by omega) (by omega) (by omega) (by omega)
        have z := gd_d gd (i := i) (j := j) (k := l) (d := l + 1 + m) (by omega) (by omega) (by omega) (by omega) (by omega) (by omega) (by omega) (by omega) (by omega) (by omega)
        rw [ptN_get hp, ptN_get hq, ptN_get hr'] at o z
        rw [ptN_get ht] at z
        refine s_when (b := false) (fun H9 e9 Q q' => ?_) (fun h => nomatch h) fun _ H5 e5 => ⟨e11.trans e5, _, rfl⟩
        refine ev_side (ea_cons (ev_pt ha8 hp (ev_var rfl) (ev_var rfl)) (ea_cons (ev_pt ha8 hq (ev_var rfl) (ev_var rfl)) (ea_cons (ev_pt ha8 hr' (ev_var rfl) (ev_var rfl)) (ea_cons (ev_pt ha8 ht (ev_var rfl) (ev_var rfl)) ea_nil))))
          (ha8.2 p (List.mem_of_getElem? hp)) (ha8.2 q (List.mem_of_getElem? hq)) (ha8.2 r (List.mem_of_getElem? hr')) (ha8.2 t (List.mem_of_getElem? ht)) (gd_sm gd hp) (gd_sm gd hq) (gd_sm gd hr') (gd_sm gd ht) o z e9 fun v H10 e10 v0 _ => ?_
        refine ⟨rfl, _, rfl, ?_⟩
        rw [decide_eq_false (fun h => v0 (V.int.inj h))]
        exact q' _ e10
      · rintro σ H8 ⟨e11, y, rfl⟩
        exact ⟨e11, _, _, _, _, rfl⟩
    · rintro σ H8 ⟨e11, x1, x2, x3, x4, rfl⟩
      exact k H8 (e10.trans e11)

def sp_inside_of (K : PySem.W.Frag) : Sp := fun vs H Q _ => ∃ (a t : Addr) (ps : List (Addr × Pt)) (i j l : Nat), vs = [.ref a, .ref t] ∧ PtsT K H a ps ∧ Gd (pts ps) ∧ SqT K H t [.int (i : Int), .int (j : Int), .int (l : Int)] ∧ i < j ∧ j < l ∧ l < ps.length ∧ RetL (nV (inside ps i j l)) H Q

theorem ok_inside_of (M : Txt K mg) : FnOk P w K mg base CX0 5 M.a_inside_of M.fd_inside_of ["points", "triple"] (sp_inside_of K) := by
  refine M.F_inside_of.ok sc_inside_of (fun vs H Q E h => ?_) (fun cdv A outer s H vs Q E hr h => ?_)
  · obtain ⟨_, _, _, _, _, _, rfl, _⟩ := h; rfl
  · obtain ⟨a, t, ps, i, j, l, rfl, ha, gd, ht, ij, jl, ln, k⟩ := h
    have n7 := gd.n7
    rw [pts_len] at n7
    obtain ⟨p, hp⟩ : ∃ p, ps[i]? = some p := ⟨_, List.getElem?_eq_getElem (by omega)⟩
    obtain ⟨q, hq⟩ : ∃ p, ps[j]? = some p := ⟨_, List.getElem?_eq_getElem (by omega)⟩
    obtain ⟨r, hr'⟩ : ∃ p, ps[l]? = some p := ⟨_, List.getElem?_eq_getElem (by omega)⟩
    refine ⟨_, (pss_cons 
      (ps_asg (pe_lc (own := [("k", 6)]) (by rfl) sc_inside_of.nd (pi_tupK K rfl (pv 1)) (blkOk_by (own := [("k", 6)]) (N := N_inside_of) (sc := defScope s_inside_of) (by decide +kernel)) (fun _ _ _ _ _ => (pg_name (i := 6) sc_inside_of.nd rfl (by first | exact Or.inl rfl | exact Or.inr rfl))) (fun _ _ _ _ _ => pts_nil) (fun _ _ _ _ _ => (pe_ix (ix_tupK K rfl) (pv 0) (pv 6) (fun _ _ => rfl)))) (pg_unlK (n := 3) K rfl rfl (pgs_cons (pg_name (i := 2) sc_inside_of.nd rfl (by first | exact Or.inl rfl | exact Or.inr rfl)) (pgs_cons (pg_name (i := 3) sc_inside_of.nd rfl (by first | exact Or.inl rfl | exact Or.inr rfl)) (pgs_cons (pg_name (i := 4) sc_inside_of.nd rfl (by first | exact Or.inl rfl | exact Or.inr rfl)) pgs_nil))))) (pss_cons 
      (ps_setLc (i := 5) (own := [("k", 6)]) (by rfl) sc_inside_of.nd rfl rfl (sw_true rfl rfl rfl (by decide +kernel)) (pi_range1 (by rfl) M.n_range (pa_cons (pe_callB (call_lenK K rfl) (by rfl) M.n_len (by decide +kernel) (pa_cons (pv 0) pa_nil)) pa_nil)) (blkOk_by (own := [("k", 6)]) (N := N_inside_of) (sc := defScope s_inside_of) (by decide +kernel)) (fun _ _ _ _ _ => (pg_name (i := 6) sc_inside_of.nd rfl (by first | exact Or.inl rfl | exact Or.inr rfl))) (fun _ _ _ _ _ => (pts_one (pt_cmpR (op_notInK K rfl) (pv 6) (pv 1) (by rfl)))) (fun _ _ _ _ _ => (pv 6))) (pss_one 
      (ps_ret (pe_lc (own := [("k", 6)]) (by rfl) sc_inside_of.nd (pi_listK K rfl (pv 5)) (blkOk_by (own := [("k", 6)]) (N := N_inside_of) (sc := defScope s_inside_of) (by decide +kernel)) (fun _ _ _ _ _ => (pg_name (i := 6) sc_inside_of.nd rfl (by first | exact Or.inl rfl | exact Or.inr rfl))) (fun _ _ _ _ _ => (pts_one (pt_cmpR op_gt (pe_call (ok_side_of M) (hr.mono (by decide)) (by rfl) M.g_side_of M.F_side_of.kp M.b_side_of .nil pass0 (pa_cons (pv 2) (pa_cons (pv 3) (pa_cons (pv 4) (pa_cons (pe_ix (ix_tupK K rfl) (pv 0) (pv 6) (fun _ _ => rfl)) pa_nil))))) pe_int (nomark _)))) (fun _ _ _ _ _ => (pv 6))))))), ?_⟩
    refine r_qG (el_lcT (a := t) (fun _ => true) (fun x => match x with | 0 => .ref p.1 | 1 => .ref q.1 | _ => .ref r.1) (by exact ev_var rfl) ht (by show 3 ≤ 40000; decide) (fun x => rfl) (fun _ _ _ _ _ => et_yes) ?_ H (Ex.refl H) _ fun D H1 nD e1 hD => ?_)
    · intro x v H1 e1 hx _
      have ha1 := ha.ex e1
      match x, hx with
      | 0, hx => cases hx; exact ev_pt ha1 hp (ev_var rfl) (ev_var rfl)
      | 1, hx => cases hx; exact ev_pt ha1 hq (ev_var rfl) (ev_var rfl)
      | 2, hx => cases hx; exact ev_pt ha1 hr' (ev_var rfl) (ev_var rfl)
    refine ⟨D, _, rfl, sq_of hD, rfl, _, _, rfl, _, _, rfl, _, _, rfl, rfl, ?_⟩
    have ha1 := ha.ex e1
    let oth : Nat → Bool := fun d => !inV (.int (d : Int)) [.int (i : Int), .int (j : Int), .int (l : Int)]
    refine q_asgL (el_lcR1 (n := (ps.length : Int)) oth (fun d => V.int (d : Int)) (ea_cons (ev_lenP ha1 (ev_var rfl)) ea_nil) (by omega) (fun x => rfl)
      (fun d H2 e2 hd => et_test (ev_op (ev_var rfl) (ev_var rfl) (rv_niT (ex_t (e1.trans e2) ht) rfl rfl))) (fun d H2 e2 hd _ => ev_var rfl)) fun D2 H2 nD2 e2 hD2 => ?_
    rw [Int.toNat_natCast, given_rng] at hD2
    have len : ((List.range ps.length).filter oth).length ≤ 40000 := by
      have := List.length_filter_le oth (List.range ps.length)
      rw [List.length_range] at this; omega
    refine s_retL (el_lcL (a := D2) (xs := nV ((List.range ps.length).filter oth)) (fun m => insB ps i j l (((List.range ps.length).filter oth).getD m 0)) (fun m => V.int ((((List.range ps.length).filter oth).getD m 0 : Nat) : Int)) (by exact ev_var rfl) (sq_of hD2)
      (by unfold nV; rw [List.length_map]; exact len) (fun x => rfl) ?_ ?_) fun D3 H3 nD3 e3 hD3 => k D3 H3 (fresh_back (e1.trans e2) nD3) ((e1.trans e2).trans e3) ?_
    · intro m x H3 e3 hx
      unfold nV at hx
      rw [List.getElem?_map] at hx
      obtain ⟨d, hd, rfl⟩ := Option.map_eq_some_iff.1 hx
      have gD : ((List.range ps.length).filter oth).getD m 0 = d := by rw [List.getD_eq_getElem?_getD, hd]; rfl
      rw [gD]
      obtain ⟨dm, od⟩ := List.mem_filter.1 (List.mem_of_getElem? hd)
      have dn := List.mem_range.1 dm
      have dne : ¬ (d = i ∨ d = j ∨ d = l) := by
        have : (!inV (.int (d : Int)) [.int (i : Int), .int (j : Int), .int (l : Int)]) = true := od
        rw [inV3] at this
        simpa using this
      obtain ⟨u, hu⟩ : ∃ p, ps[d]? = some p := ⟨_, List.getElem?_eq_getElem dn⟩
      have ha3 := ha.ex ((e1.trans e2).trans e3)
      have o := gd_o gd (i := i) (j := j) (k := l) (by omega) (by omega) (by omega) (by omega) (by omega) (by omega)
      have z := gd_d gd (i := i) (j := j) (k := l) (d := d) (by omega) (by omega) (by omega) (by omega) (by omega) (by omega) (by omega) (by omega) (by omega) (by omega)
      intro H4 e4 Q' q'
      unfold insB at q'
      rw [ptN_get hp, ptN_get hq, ptN_get hr'] at o z q'
      rw [ptN_get hu] at z q'
      refine ev_side (ea_cons (ev_var rfl) (ea_cons (ev_var rfl) (ea_cons (ev_var rfl) (ea_cons (ev_pt ha3 hu (ev_var rfl) (ev_var rfl)) ea_nil))))
          (ha3.2 p (List.mem_of_getElem? hp)) (ha3.2 q (List.mem_of_getElem? hq)) (ha3.2 r (List.mem_of_getElem? hr')) (ha3.2 u (List.mem_of_getElem? hu)) (gd_sm gd hp) (gd_sm gd hq) (gd_sm gd hr') (gd_sm gd hu) o z e4 fun v H10 e10 v0 vp => ?_
      refine ⟨_, _, rfl, rfl, _, rfl, ?_⟩
      rw [decide_eq_decide.2 vp]
      exact q' _ e10
    · intro m x H3 e3 hx _
      unfold nV at hx
      rw [List.getElem?_map] at hx
      obtain ⟨d, hd, rfl⟩ := Option.map_eq_some_iff.1 hx
      have gD : ((List.range ps.length).filter oth).getD m 0 = d := by rw [List.getD_eq_getElem?_getD, hd]; rfl
      rw [gD]
      exact ev_var rfl
    · rw [hD3]
      congr 2
      have := given_of ((List.range ps.length).filter oth) (insB ps i j l) _ (Nat.le_refl _)
      rw [List.take_length] at this
      rw [show (nV ((List.range ps.length).filter oth)).length = ((List.range ps.length).filter oth).length by unfold nV; rw [List.length_map]]
      rw [this, List.filter_filter]
      unfold inside
      congr 1
      refine List.filter_congr fun d _ => ?_
      by_cases h : d = i ∨ d = j ∨ d = l
      · rw [ins_out h]; rfl
      · have : oth d = true := by
          show (!inV (.int (d : Int)) [.int (i : Int), .int (j : Int), .int (l : Int)]) = true
          rw [inV3, decide_eq_false h]; rfl
        rw [this, Bool.and_true]
end
end Mc
/-! the choices at the centers -/
namespace Mc
open PySem PySem.Spec PyProof.Rows L2 Evl
open Vk (Pt Sm sgn dbl mnr rowP sideP Gd oP dP)

/-- a set of indexes, in order -/
def canon (n : Nat) (S : Nat → Bool) : List Nat := (List.range n).filter S
theorem canon_sorted (n : Nat) (S : Nat → Bool) : (canon n S).Pairwise (· < ·) := List.pairwise_lt_range.filter _
theorem canon_mem {n : Nat} {S : Nat → Bool} {d : Nat} : d ∈ canon n S ↔ d < n ∧ S d = true := by
  unfold canon; rw [List.mem_filter, List.mem_range]
theorem nodup_of_lt {l : List Nat} (h : l.Pairwise (· < ·)) : l.Nodup := h.imp fun h e => by omega
/-- what sorted gives -/
theorem sorted_canon {n : Nat} {S : Nat → Bool} {L : List Nat} {ns : List Int} (hn : L.Nodup) (hm : ∀ d, d ∈ L ↔ d < n ∧ S d = true) (p : ns.Perm (L.map fun (d : Nat) => (d : Int))) (s : ns.Pairwise (· ≤ ·)) : ns = (canon n S).map fun (d : Nat) => (d : Int) := by
  have p2 : L.Perm (canon n S) := (List.perm_ext_iff_of_nodup hn (nodup_of_lt (canon_sorted n S))).2 fun d => by rw [hm, canon_mem]
  refine List.Perm.eq_of_pairwise (le := (· ≤ ·)) (fun a b _ _ h1 h2 => by omega) s ?_ (p.trans (p2.map _))
  exact List.Pairwise.map _ (fun a b h => by omega) ((canon_sorted n S).imp (fun {a b} h => h))
theorem canon_cong {n : Nat} {S T : Nat → Bool} (h : ∀ d, d < n → S d = T d) : canon n S = canon n T :=
  List.filter_congr fun d hd => h d (List.mem_range.1 hd)

section
variable {K : PySem.W.Frag} {σ : L2.St} {H : Hp}
/-- tuple(sorted(xs + ys)) -/
theorem eu_some {ta tb : TE} {l : Addr} {A B : List Nat} {n : Nat} {S : Nat → Bool} (ha : Ev ta σ H (.ref l)) (hl : H l = some (.lst (nV A)))
    (hb : ∀ H1, Ex H H1 → ∀ Q : VK, (∀ b H2, Ex H1 H2 → H2 b = some (.lst (nV B)) → Q (.ref b) H2) → tb σ H1 Q) (hz : A.length + B.length < 64) (hn : (A ++ B).Nodup) (hm : ∀ d, d ∈ A ++ B ↔ d < n ∧ S d = true) :
    EvU (tCB (rTupS K) (tCons (tCB (rSorted K) (tCons (tOp rCat ta tb) tNil)) tNil)) σ H (nV (canon n S)) := by
  intro H1 e1 Q q
  refine ha H1 e1 _ fun H2 e2 => ?_
  refine hb H2 (e1.trans e2) _ fun b H3 e3 hb3 => ?_
  have hl3 := e3 _ _ (e2 _ _ (e1 _ _ hl))
  have len : (nV A).length + (nV B).length < 64 := by unfold nV; rw [List.length_map, List.length_map]; exact hz
  refine ⟨l, b, nV A, nV B, rfl, rfl, hl3, hb3, Nat.le_of_lt (small1000 (by omega)), fun p np => ?_⟩
  have e4 : Ex H3 (upd H3 p (.lst (nV A ++ nV B))) := Ex.new np
  refine ⟨p, (A ++ B).map (fun (d : Nat) => (d : Int)), rfl, .inl (.inl ?_), by rw [List.length_map, List.length_append]; exact hz, fun ns q1 pm st nq1 => ?_⟩
  · rw [upd_same]; unfold nV; rw [List.map_map, ← List.map_append]; rfl
  obtain rfl := sorted_canon hn hm pm st
  have e5 := Ex.new (o := HO.lst (((canon n S).map fun (d : Nat) => (d : Int)).map V.int)) nq1
  refine ⟨q1, nV (canon n S), rfl, .inl ⟨.inl (.inl ?_), fun t nt => ?_⟩⟩
  · rw [upd_same, List.map_map]; rfl
  have e6 := Ex.new (o := HO.tup (nV (canon n S))) nt
  have ee := (e2.trans e3).trans (e4.trans e5)
  exact q t _ (fresh_back ee nt) (ee.trans e6) upd_same
end

/-! ### the entries, in order -/
def one1 (ps : List (Addr × Pt)) (i j l u : Nat) : List Nat := canon ps.length fun d => insB ps i j l d || decide (d = u)
def one2 (ps : List (Addr × Pt)) (i j l u : Nat) : List Nat := canon ps.length fun d => insB ps i j l d || (decide (d = i ∨ d = j ∨ d = l) && decide (d ≠ u))
def chU (ps : List (Addr × Pt)) (k i j l u : Nat) : List (List Nat) :=
  (if (inside ps i j l).length + 1 = k then [one1 ps i j l u] else []) ++ (if (inside ps i j l).length + 2 = k then [one2 ps i j l u] else [])
def chT (ps : List (Addr × Pt)) (k : Nat) (t : Nat × Nat × Nat) : List (List Nat) := [t.1, t.2.1, t.2.2].flatMap fun u => chU ps k t.1 t.2.1 t.2.2 u
def chs (ps : List (Addr × Pt)) (k : Nat) : List (List Nat) := (trN ps.length).flatMap (chT ps k)
theorem chU_len (ps : List (Addr × Pt)) (k i j l u : Nat) : (chU ps k i j l u).length ≤ 2 := by
  unfold chU; split <;> split <;> simp
theorem chT_len (ps : List (Addr × Pt)) (k : Nat) (t : Nat × Nat × Nat) : (chT ps k t).length ≤ 6 := by
  unfold chT
  have h1 := chU_len ps k t.1 t.2.1 t.2.2 t.1
  have h2 := chU_len ps k t.1 t.2.1 t.2.2 t.2.1
  have h3 := chU_len ps k t.1 t.2.1 t.2.2 t.2.2
  simp only [List.flatMap_cons, List.flatMap_nil, List.length_append, List.length_nil]
  omega

/-- the list of entries: where an entry stands, where its choice stands, the choice -/
def Ents (H : Hp) (D : Addr) (es : List (Addr × Addr × List Nat)) : Prop :=
  H D = some (.lst (es.map fun e => V.ref e.1)) ∧ ∀ e, e ∈ es → (∃ u v w, H e.1 = some (.tup [u, .ref e.2.1, v, w])) ∧ H e.2.1 = some (.tup (nV e.2.2))
theorem Ents.ex {H H' : Hp} {D : Addr} {es : List (Addr × Addr × List Nat)} (h : Ents H D es) (e : Ex H H') : Ents H' D es :=
  ⟨e _ _ h.1, fun x hx => ⟨by
    obtain ⟨u, v, w, h1⟩ := (h.2 x hx).1
    exact ⟨u, v, w, e _ _ h1⟩, e _ _ (h.2 x hx).2⟩⟩
/-- all but one object stands -/
def ExB (D : Addr) (H H' : Hp) : Prop := ∀ b o, b ≠ D → H b = some o → H' b = some o
theorem ExB.refl (D : Addr) (H : Hp) : ExB D H H := fun _ _ _ h => h
theorem ExB.trans {D : Addr} {H H1 H2 : Hp} (a : ExB D H H1) (b : ExB D H1 H2) : ExB D H H2 := fun x o n h => b x o n (a x o n h)
theorem ExB.of {D : Addr} {H H' : Hp} (e : Ex H H') : ExB D H H' := fun b o _ h => e b o h
theorem ExB.upd {D : Addr} {H : Hp} (o : HO) : ExB D H (upd H D o) := fun b u n h => by rw [upd_ne n]; exact h
theorem ExB.ex {D : Addr} {H H1 H2 : Hp} (e : Ex H H1) (b : ExB D H1 H2) (n : H D = none) : Ex H H2 := fun x o h => b x o (fun z => by rw [z, n] at h; cases h) (e x o h)
theorem ExB.tup {D : Addr} {H H' : Hp} {a : Addr} {xs ys : List V} (b : ExB D H H') (hD : H D = some (.lst ys)) (h : H a = some (.tup xs)) : H' a = some (.tup xs) :=
  b a _ (fun z => by rw [z, hD] at h; cases h) h
/-- one more entry -/
theorem Ents.add {H H1 : Hp} {D p b : Addr} {es : List (Addr × Addr × List Nat)} {c : List Nat} {u v w : V} (h : Ents H D es) (e : Ex H H1) (hb : H1 b = some (.tup (nV c))) (np : H1 p = none) :
    Ents (upd (upd H1 p (.tup [u, .ref b, v, w])) D (.lst (es.map (fun e => V.ref e.1) ++ [.ref p]))) D (es ++ [(p, b, c)]) ∧
    ExB D H (upd (upd H1 p (.tup [u, .ref b, v, w])) D (.lst (es.map (fun e => V.ref e.1) ++ [.ref p]))) := by
  have hD1 := e _ _ h.1
  have pD : p ≠ D := fun z => by rw [z, hD1] at np; cases np
  have e2 : Ex H1 (upd H1 p (.tup [u, .ref b, v, w])) := Ex.new np
  have hD2 := e2 _ _ hD1
  have bb : ExB D (upd H1 p (.tup [u, .ref b, v, w])) (upd (upd H1 p (.tup [u, .ref b, v, w])) D (.lst (es.map (fun e => V.ref e.1) ++ [.ref p]))) := ExB.upd _
  refine ⟨⟨by rw [upd_same, List.map_append]; rfl, fun x hx => ?_⟩, (ExB.of (e.trans e2)).trans bb⟩
  rcases List.mem_append.1 hx with hx | hx
  · obtain ⟨⟨u', v', w', h1⟩, h2⟩ := h.2 x hx
    exact ⟨⟨u', v', w', bb.tup hD2 (e2 _ _ (e _ _ h1))⟩, bb.tup hD2 (e2 _ _ (e _ _ h2))⟩
  · obtain rfl : x = (p, b, c) := by simpa using hx
    exact ⟨⟨u, v, w, bb.tup hD2 upd_same⟩, bb.tup hD2 (e2 _ _ hb)⟩

section
variable {P : Program} {w : World} {K : PySem.W.Frag} {mg : Str → Option Value} {base : Heap}

def sp_choices_at (K : PySem.W.Frag) : Sp := fun vs H Q _ => ∃ (a : Addr) (ps : List (Addr × Pt)) (k : Nat), vs = [.ref a, .int (k : Int)] ∧ PtsT K H a ps ∧ Gd (pts ps) ∧
  ∀ D H2 es, Ex H H2 → Ents H2 D es → es.map (fun e => e.2.2) = chs ps k → Q (.ref D) H2

theorem ok_choices_at (M : Txt K mg) : FnOk P w K mg base CX0 6 M.a_choices_at M.fd_choices_at ["points", "k"] (sp_choices_at K) := by
  refine M.F_choices_at.ok sc_choices_at (fun vs H Q E h => ?_) (fun cdv A outer s H vs Q E hr h => ?_)
  · obtain ⟨_, _, _, rfl, _⟩ := h; rfl
  · obtain ⟨a, ps, k, rfl, ha, gd, q⟩ := h
    have n7 := gd.n7
    have n3 := gd.n3
    rw [pts_len] at n7 n3
    refine ⟨_, (pss_cons 
      (ps_set (i := 2) sc_choices_at.nd rfl (by first | exact Or.inl rfl | exact Or.inr rfl) (pe_lst pa_nil)) (pss_cons 
      (ps_for PassesOwn.never rfl (pi_listK K rfl (pe_call (ok_triples_in M) (hr.mono (by decide)) (by rfl) M.g_triples_in M.F_triples_in.kp M.b_triples_in .nil pass0 (pa_cons (pe_callB (call_lenK K rfl) (by rfl) M.n_len (by decide +kernel) (pa_cons (pv 0) pa_nil)) pa_nil))) (pg_name (i := 3) sc_choices_at.nd rfl (by first | exact Or.inl rfl | exact Or.inr rfl)) (pss_cons 
        (ps_set (i := 4) sc_choices_at.nd rfl (by first | exact Or.inl rfl | exact Or.inr rfl) (pe_call (ok_inside_of M) (hr.mono (by decide)) (by rfl) M.g_inside_of M.F_inside_of.kp M.b_inside_of .nil pass0 (pa_cons (pv 0) (pa_cons (pv 3) pa_nil)))) (pss_one 
        (ps_for PassesOwn.never rfl (pi_tupK K rfl (pv 3)) (pg_name (i := 5) sc_choices_at.nd rfl (by first | exact Or.inl rfl | exact Or.inr rfl)) (pss_cut 
          (ps_if (pt_cmpR op_eq (pe_callB (call_lenK K rfl) (by rfl) M.n_len (by decide +kernel) (pa_cons (pv 4) pa_nil)) (pe_op op_sub (pv 1) pe_int) (nomark _)) (pss_one 
            (ps_expr (pe_bm PySem.F.plainAttrs_list PySem.F.slot_list_append PySem.F.type_list_append mt_append (pv 2) (pa_cons (pe_tup (pa_cons (pv 3) (pa_cons (pe_callTy (call_tupleK K rfl) (by rfl) M.n_tuple (by decide +kernel) (pa_cons (pe_callB (cr_sortedK K rfl) (by rfl) M.n_sorted (by decide +kernel) (pa_cons (pe_op op_cat (pv 4) (pe_lst (pa_cons (pv 5) pa_nil))) pa_nil)) pa_nil)) (pa_cons (pv 5) (pa_cons pe_int pa_nil))))) pa_nil)))) pss_nil) (pss_one 
          (ps_if (pt_cmpR op_eq (pe_callB (call_lenK K rfl) (by rfl) M.n_len (by decide +kernel) (pa_cons (pv 4) pa_nil)) (pe_op op_sub (pv 1) pe_int) (nomark _)) (pss_cons 
            (ps_setLc (i := 6) (own := [("other", 7)]) (by rfl) sc_choices_at.nd rfl rfl (sw_true rfl rfl rfl (by decide +kernel)) (pi_tupK K rfl (pv 3)) (blkOk_by (own := [("other", 7)]) (N := N_choices_at) (sc := defScope s_choices_at) (by decide +kernel)) (fun _ _ _ _ _ => (pg_name (i := 7) sc_choices_at.nd rfl (by first | exact Or.inl rfl | exact Or.inr rfl))) (fun _ _ _ _ _ => (pts_one (pt_cmpR op_ne (pv 7) (pv 5) (nomark _)))) (fun _ _ _ _ _ => (pv 7))) (pss_one 
            (ps_expr (pe_bm PySem.F.plainAttrs_list PySem.F.slot_list_append PySem.F.type_list_append mt_append (pv 2) (pa_cons (pe_tup (pa_cons (pv 3) (pa_cons (pe_callTy (call_tupleK K rfl) (by rfl) M.n_tuple (by decide +kernel) (pa_cons (pe_callB (cr_sortedK K rfl) (by rfl) M.n_sorted (by decide +kernel) (pa_cons (pe_op op_cat (pv 4) (pv 6)) pa_nil)) pa_nil)) (pa_cons (pv 5) (pa_cons (pe_un un_neg pe_int) pa_nil))))) pa_nil))))) pss_nil))))))) (pss_one 
      (ps_ret (pv 2))))), ?_⟩
    refine r_q (r_lst (r_nil ⟨Nat.zero_le _, fun D nD => ?_⟩))
    have e1 : Ex H (upd H D (.lst [])) := Ex.new nD
    have hD1 : (upd H D (.lst [])) D = some (.lst []) := upd_same
    generalize upd H D (.lst []) = H1 at e1 hD1
    refine r_seq (r_call (r_cons (r_of (ev_lenP (ha.ex e1) (ev_var rfl)) fun H2 e2 => r_nil ⟨ps.length, rfl, by omega, fun TL H3 ks e3 tl hks => ⟨TL, rfl, ⟨_, sq_of tl.1⟩, ?_⟩⟩)))
    have e13 := e2.trans e3
    have hD3 := e13 _ _ hD1
    have eH3 := e1.trans e13
    have lenk : ks.length = (trN ps.length).length := by
      have := congrArg List.length hks
      simpa using this
    have ne0 : (trN ps.length) ≠ [] := fun z => by
      have := mem_trN (n := ps.length) (i := 0) (j := 1) (k := 2)
      rw [z] at this
      simp at this; omega
    have TLD : TL ≠ D := fun z => by
      have h1 := tl.1
      rw [z, hD3] at h1
      have h2 : ([] : List V) = ks.map fun p => V.ref p.1 := HO.lst.inj (Option.some.inj h1)
      have h3 := congrArg List.length h2
      rw [List.length_map, lenk] at h3
      exact ne0 (List.eq_nil_of_length_eq_zero h3.symm)
    refine for_list (xs := ks.map fun p => V.ref p.1) (fun x σ H' => ExB D H3 H' ∧ (∃ es, Ents H' D es ∧ es.map (fun e => e.2.2) = ((trN ps.length).take x).flatMap (chT ps k) ∧ es.length ≤ 6 * x) ∧ ∃ x1 x2 x3 x4 x5, σ = [some (.ref a), some (.int (k : Int)), some (.ref D), x1, x2, x3, x4, x5])
      ⟨ExB.refl _ _, ⟨[], ⟨hD3, fun e he => nomatch he⟩, rfl, by simp⟩, _, _, _, _, _, rfl⟩ ?_ ?_ ?_
    · rintro x σ H' _ ⟨e, _⟩
      exact sq_of (e _ _ TLD tl.1)
    · rintro x v σ H4 hx ⟨eb, ⟨es, en, hes, lenes⟩, x1, x2, x3, x4, x5, rfl⟩
      rw [List.getElem?_map] at hx
      obtain ⟨kk, hk, rfl⟩ := Option.map_eq_some_iff.1 hx
      obtain ⟨i, j, l, hx2, ek, ij, jl, ln⟩ := tr_item hks hk
      have xl := (List.getElem?_eq_some_iff.1 hk).1
      have x56 := trN_len ps.length (by omega)
      have hk3 : H3 kk.1 = some (.tup [.int (i : Int), .int (j : Int), .int (l : Int)]) := by rw [tl.2 kk (List.mem_of_getElem? hk), ek]; rfl
      have hk4 : H4 kk.1 = some (.tup [.int (i : Int), .int (j : Int), .int (l : Int)]) := eb.tup hD3 hk3
      have eH4 : Ex H H4 := eb.ex eH3 nD
      refine r_q (r_call (r_cons (r_of (ev_var rfl) fun H5 e5 => r_cons (r_of (ev_var rfl) fun H6 e6 => r_nil ?_))))
      have e46 := e5.trans e6
      refine ⟨a, kk.1, ps, i, j, l, rfl, ha.ex (eH4.trans e46), gd, st_of (e46 _ _ hk4), ij, jl, ln, fun IL H7 nIL e7 hIL => ?_⟩
      have e47 := e46.trans e7
      have en7 : H7 D = some (.lst (es.map fun e => V.ref e.1)) := e47 _ _ en.1
      have ILD : IL ≠ D := fun z => by
        have := e46 _ _ en.1
        rw [z, this] at nIL; cases nIL
      have Ents7 : Ents H7 D es := en.ex e47
      have hk7 := e47 _ _ hk4
      have inn : (inside ps i j l).Nodup := List.nodup_range.filter _
      have inm : ∀ d, d ∈ inside ps i j l ↔ d < ps.length ∧ insB ps i j l d = true := fun d => by unfold inside; rw [List.mem_filter, List.mem_range]
      have inl : (inside ps i j l).length ≤ ps.length := by
        unfold inside
        have := List.length_filter_le (insB ps i j l) (List.range ps.length)
        rw [List.length_range] at this; exact this
      have hw1 : ∀ H', ExB D H7 H' → H' IL = some (.lst (nV (inside ps i j l))) ∧ H' kk.1 = some (.tup [.int (i : Int), .int (j : Int), .int (l : Int)]) := fun H' b => ⟨b _ _ ILD hIL, b.tup en7 hk7⟩
      refine s_forT (a := kk.1) (xs := [.int (i : Int), .int (j : Int), .int (l : Int)]) (ev_var rfl) (st_of hk7) (fun y σ H' => ExB D H7 H' ∧ (∃ es', Ents H' D es' ∧ es'.map (fun e => e.2.2) = ((trN ps.length).take x).flatMap (chT ps k) ++ (([i, j, l] : List Nat).take y).flatMap (chU ps k i j l) ∧ es'.length ≤ 6 * x + 2 * y) ∧
        ∃ x1 x2 x3, σ = [some (.ref a), some (.int (k : Int)), some (.ref D), some (.ref kk.1), some (.ref IL), x1, x2, x3]) ?_ ?_ ?_ ?_
      · intro H8 e8
        exact ⟨ExB.of e8, ⟨es, Ents7.ex e8, by simpa using hes, by omega⟩, _, _, _, rfl⟩
      · rintro y σ H8 _ ⟨b8, _⟩
        exact st_of (hw1 H8 b8).2
      · rintro y v σ H8 hy ⟨b8, ⟨es', en8, hes8, len8⟩, x1, x2, x3, rfl⟩
        have y3 : y < 3 := (List.getElem?_eq_some_iff.1 hy).1
        obtain ⟨u, hu, rfl⟩ : ∃ u : Nat, ([i, j, l] : List Nat)[y]? = some u ∧ v = .int (u : Int) := by
          match y, hy with
          | 0, hy => cases hy; exact ⟨i, rfl, rfl⟩
          | 1, hy => cases hy; exact ⟨j, rfl, rfl⟩
          | 2, hy => cases hy; exact ⟨l, rfl, rfl⟩
        have uT : u = i ∨ u = j ∨ u = l := by
          have := List.mem_of_getElem? hu
          simpa using this
        have tk : ∀ g : Nat → List (List Nat), (([i, j, l] : List Nat).take (y + 1)).flatMap g = (([i, j, l] : List Nat).take y).flatMap g ++ g u := fun g => by
          rw [List.take_add_one, hu, List.flatMap_append]; simp
        have out : insB ps i j l u = false := ins_out uT
        have i8 := hw1 H8 b8
        have tst : ∀ (c : Int) (m : Nat), c = (m : Int) → ∀ H9, Ex H8 H9 → ∀ σ : L2.St, σ[4]? = some (some (.ref IL)) → σ[1]? = some (some (.int (k : Int))) → EvT (tTest (tOp rEq (tCB (rLenS K) (tCons (tVar 4) tNil)) (tOp (rI0 fun i j => V.int (i - j)) (tVar 1) (tC (.int c))))) σ H9 (decide ((inside ps i j l).length + m = k)) := by
          intro c m hc H9 e9 σ s4 s1
          refine et_test (ev_is (ev_op (ev_cb (ea_cons (ev_var s4) ea_nil) (rc_lenL (sq_of (e9 _ _ i8.1)))) (ev_op (ev_var s1) ev_c rv_I0) (rv_eq rfl)) ?_)
          congr 1
          refine decide_eq_decide.2 ?_
          unfold nV
          rw [List.length_map]
          constructor
          · intro h; have := V.int.inj h; omega
          · intro h; congr 1; omega
        refine q_cut (M := fun σ H' => ExB D H7 H' ∧ (∃ es2, Ents H' D es2 ∧ es2.map (fun e => e.2.2) = es'.map (fun e => e.2.2) ++ (if (inside ps i j l).length + 1 = k then [one1 ps i j l u] else []) ∧ es2.length ≤ es'.length + 1) ∧
          ∃ x2 x3, σ = [some (.ref a), some (.int (k : Int)), some (.ref D), some (.ref kk.1), some (.ref IL), some (.int (u : Int)), x2, x3]) ?_ ?_
        · refine s_when (tst 1 1 rfl H8 (Ex.refl H8) _ rfl rfl) (fun hb H9 e9 => ?_) (fun hb H9 e9 => ?_)
          · have hb' := of_decide_eq_true hb
            have en9 := en8.ex e9
            refine r_drop (r_bm (r_of (ev_var rfl) fun H10 e10 => ⟨.inl ⟨rfl, _, .inl (.inl (e10 _ _ en9.1))⟩, r_cons (r_tup (r_cons (r_of (ev_var rfl) fun H11 e11 => r_cons ?_)))⟩))
            have e911 := e10.trans e11
            refine eu_some (A := inside ps i j l) (B := [u]) (n := ps.length) (S := fun d => insB ps i j l d || decide (d = u)) (by exact ev_var rfl) (e911 _ _ (e9 _ _ i8.1)) ?_ (by show _ + 1 < 64; omega) ?_ ?_ H11 (Ex.refl _) _ fun b H12 nb e12 hb12 => ?_
            · intro Ha ea Q qq
              refine r_lst (r_cons (r_of (ev_var rfl) fun Hb eb => r_nil ⟨by show 1 ≤ sizeLine; decide, fun p np => ?_⟩))
              exact qq p _ (eb.trans (Ex.new np)) upd_same
            · refine List.nodup_append.2 ⟨inn, by simp, fun p hp q hq e => ?_⟩
              have hq' : q = u := by simpa using hq
              rw [e, hq', inm, out] at hp
              exact nomatch hp.2
            · intro d
              rw [List.mem_append, inm, List.mem_singleton, Bool.or_eq_true, decide_eq_true_eq]
              constructor
              · rintro (h | h)
                · exact ⟨h.1, .inl h.2⟩
                · exact ⟨by omega, .inr h⟩
              · rintro ⟨h1, h2 | h2⟩
                · exact .inl ⟨h1, h2⟩
                · exact .inr h2
            refine r_cons (r_of (ev_var rfl) fun H13 e13 => r_cons (r_of ev_c fun H14 e14 => r_nil ⟨by show 4 ≤ sizeLine; decide, fun p np => r_nil ?_⟩))
            have e914 := ((e911.trans e12).trans e13).trans e14
            have ad := en9.add (u := .ref kk.1) (v := .int (u : Int)) (w := .int 1) e914 (e14 _ _ (e13 _ _ hb12)) np
            have hDp := (Ex.new (o := HO.tup [.ref kk.1, .ref b, .int (u : Int), .int 1]) np) _ _ (e914 _ _ en9.1)
            refine ⟨D, _, _, rfl, rfl, hDp, by rw [List.length_map]; exact small1000 (by omega), ?_⟩
            refine ⟨(b8.trans (ExB.of e9)).trans ad.2, ⟨_, ad.1, ?_, by simp⟩, _, _, rfl⟩
            rw [if_pos hb', List.map_append]; rfl
          · have hb' := of_decide_eq_false hb
            exact ⟨b8.trans (ExB.of e9), ⟨es', en8.ex e9, by rw [if_neg hb', List.append_nil], by omega⟩, _, _, rfl⟩
        · rintro σ H9 ⟨b9, ⟨es2, en9, hes9, len9⟩, x2, x3, rfl⟩
          have i9 := hw1 H9 b9
          have tst2 : EvT (tTest (tOp rEq (tCB (rLenS K) (tCons (tVar 4) tNil)) (tOp (rI0 fun i j => V.int (i - j)) (tVar 1) (tC (.int 2))))) [some (.ref a), some (.int (k : Int)), some (.ref D), some (.ref kk.1), some (.ref IL), some (.int (u : Int)), x2, x3] H9 (decide ((inside ps i j l).length + 2 = k)) := by
            refine et_test (ev_is (ev_op (ev_cb (ea_cons (ev_var rfl) ea_nil) (rc_lenL (sq_of i9.1))) (ev_op (ev_var rfl) ev_c rv_I0) (rv_eq rfl)) ?_)
            congr 1
            refine decide_eq_decide.2 ?_
            unfold nV
            rw [List.length_map]
            constructor
            · intro h; have := V.int.inj h; omega
            · intro h; congr 1; omega
          have fin : ∀ b H', ExB D H7 H' → ∀ es3, Ents H' D es3 → es3.map (fun e => e.2.2) = es2.map (fun e => e.2.2) ++ b → b = (if (inside ps i j l).length + 2 = k then [one2 ps i j l u] else []) → es3.length ≤ es2.length + 1 → ∀ x2 x3,
              (fun (y : Nat) (σ : L2.St) (H' : Hp) => ExB D H7 H' ∧ (∃ es', Ents H' D es' ∧ es'.map (fun e => e.2.2) = ((trN ps.length).take x).flatMap (chT ps k) ++ (([i, j, l] : List Nat).take y).flatMap (chU ps k i j l) ∧ es'.length ≤ 6 * x + 2 * y) ∧
                ∃ x1 x2 x3, σ = [some (.ref a), some (.int (k : Int)), some (.ref D), some (.ref kk.1), some (.ref IL), x1, x2, x3]) (y + 1) [some (.ref a), some (.int (k : Int)), some (.ref D), some (.ref kk.1), some (.ref IL), some (.int (u : Int)), x2, x3] H' := by
            intro b H' hb es3 he hm hbb hl x2 x3
            refine ⟨hb, ⟨es3, he, ?_, by omega⟩, _, _, _, rfl⟩
            rw [hm, hes9, hes8, tk, hbb]
            unfold chU
            simp only [List.append_assoc]
          refine s_if tst2 (fun hb H10 e10 => ?_) (fun hb H10 e10 => fin [] H10 (b9.trans (ExB.of e10)) es2 (en9.ex e10) (by simp) (by rw [if_neg (of_decide_eq_false hb)]) (by omega) _ _)
          have hb' := of_decide_eq_true hb
          have en10 := en9.ex e10
          let other : Nat → Bool := fun m => !decide (V.int ((([i, j, l] : List Nat).getD m 0 : Nat) : Int) = V.int (u : Int))
          refine q_asgL (xs := nV (([i, j, l] : List Nat).filter fun d => decide (d ≠ u))) (fun H11 e11 Q qq => ?_) fun RL H11 nRL e11 hRL => ?_
          · refine el_lcT (a := kk.1) (xs := [.int (i : Int), .int (j : Int), .int (l : Int)]) other (fun m => V.int ((([i, j, l] : List Nat).getD m 0 : Nat) : Int)) (by exact ev_var rfl) (st_of (e11 _ _ (e10 _ _ i9.2))) (by show 3 ≤ 40000; decide) (fun x => rfl) ?_ ?_ H11 (Ex.refl _) _ fun p H12 np e12 hp12 => qq p H12 np e12 ?_
            · intro m v H12 e12 hm
              have : v = V.int ((([i, j, l] : List Nat).getD m 0 : Nat) : Int) := by
                match m, hm with
                | 0, hm => cases hm; rfl
                | 1, hm => cases hm; rfl
                | 2, hm => cases hm; rfl
              subst this
              exact et_test (ev_op (ev_var rfl) (ev_var rfl) (rv_ne rfl))
            · intro m v H12 e12 hm _
              have : v = V.int ((([i, j, l] : List Nat).getD m 0 : Nat) : Int) := by
                match m, hm with
                | 0, hm => cases hm; rfl
                | 1, hm => cases hm; rfl
                | 2, hm => cases hm; rfl
              subst this
              exact ev_var rfl
            · rw [hp12]
              have := given_of [i, j, l] (fun d => decide (d ≠ u)) 3 (Nat.le_refl _)
              rw [List.take_of_length_le (by simp)] at this
              rw [← this]
              congr 2
              show given 3 other _ = given 3 _ _
              unfold given
              congr 1
              refine List.filter_congr fun m _ => ?_
              show (!decide (V.int ((([i, j, l] : List Nat).getD m 0 : Nat) : Int) = V.int (u : Int))) = _
              by_cases h : ([i, j, l] : List Nat).getD m 0 = u
              · rw [h]; simp
              · have h2 : ¬ V.int ((([i, j, l] : List Nat).getD m 0 : Nat) : Int) = V.int (u : Int) := fun z => h (by have := V.int.inj z; omega)
                rw [decide_eq_false h2, decide_eq_true h]; rfl
          · have en11 := en10.ex e11
            refine r_drop (r_bm (r_of (ev_var rfl) fun H12 e12 => ⟨.inl ⟨rfl, _, .inl (.inl (e12 _ _ en11.1))⟩, r_cons (r_tup (r_cons (r_of (ev_var rfl) fun H13 e13 => r_cons ?_)))⟩))
            have e1113 := e12.trans e13
            refine eu_some (A := inside ps i j l) (B := ([i, j, l] : List Nat).filter fun d => decide (d ≠ u)) (n := ps.length) (S := fun d => insB ps i j l d || (decide (d = i ∨ d = j ∨ d = l) && decide (d ≠ u))) (by exact ev_var rfl) (e1113 _ _ (e11 _ _ (e10 _ _ i9.1))) ?_ ?_ ?_ ?_ H13 (Ex.refl _) _ fun b H14 nb e14 hb14 => ?_
            · intro Ha ea Q qq
              exact ⟨_, rfl, qq RL Ha (Ex.refl _) (ea _ _ (e1113 _ _ hRL))⟩
            · have := List.length_filter_le (fun d => decide (d ≠ u)) [i, j, l]
              have h3 : ([i, j, l] : List Nat).length = 3 := rfl
              omega
            · refine List.nodup_append.2 ⟨inn, List.Pairwise.filter _ (show ([i, j, l] : List Nat).Nodup by simp; omega), fun p hp q hq e => ?_⟩
              · have hq' : q = i ∨ q = j ∨ q = l := by simpa using (List.mem_filter.1 hq).1
                rw [e, inm, ins_out hq'] at hp
                exact nomatch hp.2
            · intro d
              rw [List.mem_append, inm, List.mem_filter, Bool.or_eq_true, Bool.and_eq_true, decide_eq_true_eq, decide_eq_true_eq]
              have m3 : d ∈ ([i, j, l] : List Nat) ↔ d = i ∨ d = j ∨ d = l := by simp
              rw [m3]
              constructor
              · rintro (h | h)
                · exact ⟨h.1, .inl h.2⟩
                · exact ⟨by omega, .inr h⟩
              · rintro ⟨h1, h2 | h2⟩
                · exact .inl ⟨h1, h2⟩
                · exact .inr h2
            refine r_cons (r_of (ev_var rfl) fun H15 e15 => r_cons (r_of (ev_un ev_c ru_neg) fun H16 e16 => r_nil ⟨by show 4 ≤ sizeLine; decide, fun p np => r_nil ?_⟩))
            have e1116 := ((e1113.trans e14).trans e15).trans e16
            have ad := en11.add (u := .ref kk.1) (v := .int (u : Int)) (w := .int (-1)) e1116 (e16 _ _ (e15 _ _ hb14)) np
            have hDp := (Ex.new (o := HO.tup [.ref kk.1, .ref b, .int (u : Int), .int (-1)]) np) _ _ (e1116 _ _ en11.1)
            refine ⟨D, _, _, rfl, rfl, hDp, by rw [List.length_map]; exact small1000 (by omega), ?_⟩
            exact fin [one2 ps i j l u] _ (((b9.trans (ExB.of e10)).trans (ExB.of e11)).trans ad.2) _ ad.1 (by rw [List.map_append]; rfl) (by rw [if_pos hb']) (by simp) _ _
      · rintro σ H8 ⟨b8, ⟨es', en8, hes8, len8⟩, x1, x2, x3, rfl⟩
        refine ⟨eb.trans ((ExB.of e47).trans b8), ⟨es', en8, ?_, by show es'.length ≤ 6 * (x + 1); have : es'.length ≤ 6 * x + 2 * 3 := len8; omega⟩, _, _, _, _, _, rfl⟩
        rw [hes8, List.take_add_one, hx2, List.flatMap_append]
        simp [chT]
    · rintro σ H4 ⟨eb, ⟨es, en, hes, lenes⟩, x1, x2, x3, x4, x5, rfl⟩
      refine s_ret (ev_var rfl) fun H5 e5 => q D H5 es ((eb.ex eH3 nD).trans e5) (en.ex e5) ?_
      rw [hes, List.length_map, lenk, List.take_length]; rfl
end
end Mc
/-! set(..) of a list or a tuple of tuples of ints: few different ones, however many -/
namespace Mc
open PySem PySem.Spec PyProof.Rows L2 Evl

/-- the empty set as it is made -/
abbrev set0 (w : World) : Obj := { cls := .type "set", dict := none, data := .set #[] 0 (.fresh 0 0 (!w.params.followText "set-order")) }
/-- few different tuples among them -/
def FewT (ks : List (Addr × List Int)) : Prop := ∀ L : List (Addr × List Int), (∀ p ∈ L, p ∈ ks) → (L.map (·.2)).Nodup → L.length + 1 < 64

section
variable {P : Program} {w : World} {A : Around} {E : Value → Shared → Prop} {s : Shared}

/-- the loop of set.update over tuples -/
theorem upd_loop {I : Addr} {fp wr : List Addr} {G : Array GenState → Array GenState → Prop} {n : Nat} {Pv : Nat → Value → Prop} {St : Nat → Shared → Prop} {R : Result → Shared → Prop}
    (W : WalksS P w A.in1 I fp wr G n Pv St) {S : Addr} (nf : S ∉ fp) {ks : List (Addr × List Int)} (en : n = ks.length) (few : FewT ks) (val : ∀ i v, Pv i v → ∃ p, ks[i]? = some p ∧ v = .ref p.1)
    {g0 : Heap} (tups : ∀ p ∈ ks, IsT P w g0 p.2 p.1) (noS : g0.get? S = none) (noW : ∀ b ∈ wr, g0.get? b = none) (room : A.in1.units < cLine) :
    ∀ (m i : Nat) (s : Shared), n - i = m → i ≤ n → St i s → (∀ b o, g0.get? b = some o → s.heap.get? b = some o) → (∃ L es ep t, SetTR P w s.heap S L es ep t ∧ Got ks i L) →
      (∀ s' L es ep t, Moved (S :: wr) G s s' → SetTR P w s'.heap S L es ep t → Got ks n L → (∀ b o, g0.get? b = some o → s'.heap.get? b = some o) → R (.ok (.ret .none)) s') →
      codeAny (model P w) A (.builtin "set.update.loop" ⟨[.ref S, .ref I], []⟩) R s := by
  have nw : S ∉ wr := fun z => nf (W.sub _ z)
  have wide : ∀ b ∈ wr, b ∈ S :: wr := fun b z => List.mem_cons_of_mem _ z
  have stay : ∀ {s s' : Shared}, Moved wr G s s' → (∀ b o, g0.get? b = some o → s.heap.get? b = some o) → ∀ b o, g0.get? b = some o → s'.heap.get? b = some o :=
    fun mv k b o e => mv.heap b o (fun z => by rw [noW b z] at e; exact nomatch e) (k b o e)
  intro m
  induction m with
  | zero =>
    rintro i s hm hi st k0 ⟨L, es, ep, t, TR, got⟩ fin
    have i_n : i = n := by omega
    subst i_n
    apply codeAny_builtin F.entry_set_update_loop
    rw [Around.under_plainId F.plain_set_update_loop _]
    change wpAny _ A.in1 (pyNext (.ref I) >>= _) _ _ s
    apply wpAny_bind
    refine W.done s _ _ st fun s' mv => ?_
    have k1 := stay mv k0
    have inL : ∀ p ∈ L, p ∈ ks := fun p hp => List.mem_of_mem_take (got.sub p hp)
    change wpAny _ A.in1 (ret Value.none) _ _ s'
    apply wpAny_pure
    exact fin s' L es ep t (mv.mono wide) (TR.keep (fun o e => mv.heap S o nw e) fun p hp => isT_keep (tups p (inL p hp)) k1) got k1
  | succ m ih =>
    rintro i s hm hi st k0 ⟨L, es, ep, t, TR, got⟩ fin
    have i_n : i < n := by omega
    apply codeAny_builtin F.entry_set_update_loop
    rw [Around.under_plainId F.plain_set_update_loop _]
    change wpAny _ A.in1 (pyNext (.ref I) >>= _) _ _ s
    apply wpAny_bind
    refine W.item i s _ _ i_n st fun v s' pv st' mv => ?_
    obtain ⟨q, hq, rfl⟩ := val i v pv
    have k1 := stay mv k0
    have inL : ∀ p ∈ L, p ∈ ks := fun p hp => List.mem_of_mem_take (got.sub p hp)
    have TR' : SetTR P w s'.heap S L es ep t := TR.keep (fun o e => mv.heap S o nw e) fun p hp => isT_keep (tups p (inL p hp)) k1
    have isq : IsT P w s'.heap q.2 q.1 := isT_keep (tups q (List.mem_of_getElem? hq)) k1
    change wpAny _ A.in1 (holding [Value.ref q.1] (setAdd S (.ref q.1)) >>= _) _ _ s'
    apply wpAny_bind
    apply wpAny_holding
    unfold setAdd
    apply wpAny_holding
    apply wpAny_bind
    refine wpAny_pyHash_tuple room isq ?_
    refine add_at (s := { s' with toks := s'.toks + (q.2.length + 1) }) TR' isq room (few L inL TR'.nd) fun b h' L' es' ep' t' but TR2 old new => ?_
    have got' : Got ks (i + 1) L' := by
      by_cases c : q.2 ∈ L.map (·.2)
      · rw [old c]; exact got.same hq c
      · exact got.more hq (new c)
    have k2 : ∀ b o, g0.get? b = some o → h'.get? b = some o := fun b o e => by
      rw [but.2 b (fun z => by rw [z, noS] at e; exact nomatch e)]; exact k1 b o e
    apply wpAny_pure
    refine ⟨plainId_quiet F.plain_set_update_loop _, ih (i + 1) _ (by omega) i_n (W.frame _ s' _ _ st' (Nat.le_add_right _ _) fun b hb o e => ?_) k2 ⟨L', es', ep', t', TR2, got'⟩ ?_⟩
    · rw [but.2 b (fun z : b = S => nf (z ▸ hb))]; exact e
    · intro s2 L2 es2 ep2 t2 mv2 TR3 got2 k3
      refine fin s2 L2 es2 ep2 t2 (Moved.trans W.gtrans ((mv.mono wide).then_heap (Nat.le_add_right _ _) fun b o nb e => ?_) mv2) TR3 got2 k3
      rw [but.2 b (fun z : b = S => nb (by rw [z]; exact List.mem_cons_self))]; exact e

set_option maxHeartbeats 8000000 in
/-- set(xs): a list or a tuple -/
theorem call_setL {l : Addr} {items : Array Value} {ks : List (Addr × List Int)} {Q : Value → Shared → Prop} (hh : A.handled = none) (src : s.heap.IsList l items ∨ s.heap.IsTuple l items) (hit : items.toList = ks.map fun p => Value.ref p.1)
    (tups : ∀ p ∈ ks, IsT P w s.heap p.2 p.1) (few : FewT ks) (room : A.units + 3 < cLine)
    (fin : ∀ (h' : Heap) (tk : Nat) L es ep t, SetTR P w h' s.heap.objs.size L es ep t → Got ks ks.length L → (∀ b o, s.heap.get? b = some o → h'.get? b = some o) → Q (.ref s.heap.objs.size) { s with heap := h', toks := tk }) :
    wpAny (model P w) A (call (.type "set") [.ref l]) Q E s := by
  have sz : items.size = ks.length := by
    rw [← Array.length_toList, hit, List.length_map]
  have free : ∀ b, s.heap.objs.size ≤ b → s.heap.get? b = none := fun b le => by
    cases q : s.heap.get? b with
    | none => rfl
    | some o => exact absurd (Heap.lt_size q) (Nat.not_lt.2 le)
  have vals : ∀ (i : Nat) (v : Value), items[i]? = some v → ∃ p, ks[i]? = some p ∧ v = .ref p.1 := fun i v hv => by
    rw [← Array.getElem?_toList, hit, List.getElem?_map] at hv
    obtain ⟨p, hp, e⟩ := Option.map_eq_some_iff.1 hv
    exact ⟨p, hp, e.symm⟩
  have tc := F.called_set
  obtain ⟨cc, tl, mro⟩ := tc.mro
  have made := tc.made
  have subs := tc.sub
  apply wpAny_call
  apply codeAny_of_tree
  change wpAny _ _ (callAny (.type "set") _) _ _ _
  apply wpAny_pure
  refine ⟨Code.quiet_builtin _ (by decide +kernel), codeAny_builtin F.entry_type_call ?_⟩
  rw [Around.under_plain (weight_type_call_type "set" [.ref l] []) rfl]
  have notTy := tc.notType
  have creates := tc.canCreate
  have tcall := F.typeCall_set_1 (.ref l)
  repeat any_goals first | assumption | wp_step
  refine codeAny_mono (code_set_led1 (.ref l) (E := E) (Q₁ := fun obj s₁ => obj = .ref s.heap.objs.size ∧ s₁ = { s with heap := s.heap.push (set0 w) }) ⟨rfl, rfl⟩) ?_
  have rest : ∀ (obj : Value) (s₁ : Shared), obj = .ref s.heap.objs.size ∧ s₁ = { s with heap := s.heap.push (set0 w) } → _ := fun obj s₁ h => h
  clear rest
  intro r s₁ hr
  match r, hr with
  | .error _, hr => exact hr
  | .ok .next, hr => exact hr.elim
  | .ok .brk, hr => exact hr.elim
  | .ok .cont, hr => exact hr.elim
  | .ok (.ret obj), hr =>
    obtain ⟨rfl, rfl⟩ := hr
    have at_S : (s.heap.push (set0 w)).get? s.heap.objs.size = some (set0 w) := Heap.get?_push_size _ rfl
    have ty_S : Shared.TypeIs { s with heap := s.heap.push (set0 w) } (.ref s.heap.objs.size) "set" := ⟨_, at_S, rfl⟩
    have look := tc.init.lookup
    have bind := tc.init.bind (.ref s.heap.objs.size)
    repeat any_goals first | assumption | wp_step
    refine codeAny_mono (codeAny_call_builtin (R := wants (fun r s₂ => r = .none ∧ ∃ h' tk L es ep t, s₂ = { s with heap := h', toks := tk } ∧ SetTR P w h' s.heap.objs.size L es ep t ∧ Got ks ks.length L ∧
        (∀ b o, s.heap.get? b = some o → h'.get? b = some o)) E) tc.init.plain F.entry_set_init (check_set_init_1 ty_S ?_)) fun r₂ s₂ hr₂ => ?_
    · have h3 : A.in1.in1.in1.handled = none := by simp [hh]
      -- behind the iterator's making: the loop
      have z1 : (s.heap.push (set0 w)).objs.size = s.heap.objs.size + 1 := Heap.size_push ..
      have go : ∀ {it : Obj} {I : Addr} {St : Nat → Shared → Prop} {R : Result → Shared → Prop}, I = (s.heap.push (set0 w)).objs.size → l < s.heap.objs.size →
          WalksS P w A.in1.in1.in1 I [I, l] [I] (fun a b => b = a) items.size (fun i v => items[i]? = some v) St → St 0 { s with heap := (s.heap.push (set0 w)).push it } →
          (∀ h' tk L es ep t, SetTR P w h' s.heap.objs.size L es ep t → Got ks ks.length L → (∀ b o, s.heap.get? b = some o → h'.get? b = some o) → R (.ok (.ret .none)) { s with heap := h', toks := tk }) →
          codeAny (model P w) A.in1.in1 (.builtin "set.update.loop" ⟨[.ref s.heap.objs.size, .ref I], []⟩) R { s with heap := (s.heap.push (set0 w)).push it } := by
        intro it I St R eI ll WS w0 hR
        have eI' : I = s.heap.objs.size + 1 := eI.trans z1
        refine upd_loop WS (S := s.heap.objs.size) ?_ sz few vals tups (free _ (Nat.le_refl _)) ?_ room (items.size - 0) 0 _ rfl (Nat.zero_le _) w0 (fun b o e => Heap.get?_push_of_some _ (Heap.get?_push_of_some _ e)) ?_ ?_
        · intro z
          rcases List.mem_cons.1 z with z | z
          · exact absurd (z.trans eI') (Nat.ne_of_lt (Nat.lt_succ_self _))
          · exact absurd (List.mem_singleton.1 z) (Nat.ne_of_gt ll)
        · intro b hb
          rw [List.mem_singleton.1 hb, eI']
          exact free _ (Nat.le_succ _)
        · exact ⟨[], #[], 0, _, setTR_fresh (Heap.get?_push_of_some _ at_S), Got.zero ks⟩
        · rintro ⟨h', g2, d', tk', os'⟩ L es ep t mv TR got k
          obtain rfl : g2 = s.gens := mv.gens
          obtain rfl : d' = s.drawn := mv.drawn
          obtain rfl : os' = s.os := mv.os
          rw [sz] at got
          exact hR h' tk' L es ep t TR got k
      have nl : ∀ o, s.heap.get? l = some o → l ≠ (s.heap.push (set0 w)).objs.size := fun o ho => by
        rw [z1]; exact Nat.ne_of_lt (Nat.lt_succ_of_lt (Heap.lt_size ho))
      rcases src with src | src
      · obtain ⟨⟨oc, od, odat, osl⟩, ho, hc, n, hd⟩ := src
        simp only at hc hd
        subst hc hd
        have ho1 := Heap.get?_push_of_some (set0 w) ho
        have src1 : (s.heap.push (set0 w)).IsList l items := ⟨_, ho1, rfl, n, rfl⟩
        have f1 := F.sub_list_set
        have f2 := F.sub_list_frozenset
        have f3 : (Value.type "list" == Value.type "dict") = false := by decide
        unfold Builtin.«set.__init__» noKeywords Builtin.Frozenset.updateFrom
        generalize hPI : pyIter = PI
        wp_walk
        subst hPI
        refine wpAny_pyIter_list src1 ?_
        refine wpAny_bind (wpAny_runValue ?_)
        refine go rfl (Heap.lt_size ho) ((Walks.list h3 _ l (nl _ ho) items).toS) ⟨⟨_, Heap.get?_push_size _ rfl, rfl, rfl⟩, src1.push _⟩ fun h' tk L es ep t TR got k => ?_
        apply wpAny_pure
        change wpAny _ _ (ret Value.none) _ _ _
        apply wpAny_pure
        exact ⟨rfl, h', tk, L, es, ep, t, rfl, TR, got, k⟩
      · obtain ⟨⟨oc, od, odat, osl⟩, ho, hc, n, hd⟩ := src
        simp only at hc hd
        subst hc hd
        have ho1 := Heap.get?_push_of_some (set0 w) ho
        have src1 : (s.heap.push (set0 w)).IsTuple l items := ⟨_, ho1, rfl, n, rfl⟩
        have f1 := F.sub_tuple_set
        have f2 := F.sub_tuple_frozenset
        have f3 : (Value.type "tuple" == Value.type "dict") = false := by decide
        unfold Builtin.«set.__init__» noKeywords Builtin.Frozenset.updateFrom
        generalize hPI : pyIter = PI
        wp_walk
        subst hPI
        refine wpAny_pyIter_tuple src1 ?_
        refine wpAny_bind (wpAny_runValue ?_)
        refine go rfl (Heap.lt_size ho) ((Walks.tuple h3 _ l (nl _ ho) items).toS) ⟨⟨_, Heap.get?_push_size _ rfl, rfl, rfl⟩, src1.push _⟩ fun h' tk L es ep t TR got k => ?_
        apply wpAny_pure
        change wpAny _ _ (ret Value.none) _ _ _
        apply wpAny_pure
        exact ⟨rfl, h', tk, L, es, ep, t, rfl, TR, got, k⟩
    · match r₂, hr₂ with
      | .error _, hr₂ => exact hr₂
      | .ok .next, hr₂ => exact hr₂.elim
      | .ok .brk, hr₂ => exact hr₂.elim
      | .ok .cont, hr₂ => exact hr₂.elim
      | .ok (.ret r), hr₂ =>
        obtain ⟨rfl, h', tk, L, es, ep, t, rfl, TR, got, k⟩ := hr₂
        repeat any_goals first | assumption | wp_step
        exact fin _ _ _ _ _ _ TR got k
end
end Mc
/-! nearest_choices -/
namespace Mc
open PySem PySem.Spec PyProof.Rows L2 Evl
open Vk (Pt Sm sgn dbl mnr rowP sideP Gd oP dP)

/-! ### few sets -/
def subs : List Nat → List (List Nat)
  | [] => [[]]
  | a :: l => (subs l).map (a :: ·) ++ subs l
theorem mem_subs (S : Nat → Bool) : ∀ l : List Nat, l.filter S ∈ subs l
  | [] => by simp [subs]
  | a :: l => by
    have ih := mem_subs S l
    rw [subs, List.mem_append]
    cases h : S a with
    | true => exact .inl (List.mem_map.2 ⟨_, ih, by simp [h]⟩)
    | false => exact .inr (by simpa [h] using ih)
theorem subs_few : ∀ n, n ≤ 7 → ∀ k, k ≤ 7 → ((subs (List.range n)).filter fun l => l.length == k).length ≤ 35 := by decide +kernel
theorem nodup_le {α : Type} [BEq α] [LawfulBEq α] : ∀ {l U : List α}, l.Nodup → (∀ a, a ∈ l → a ∈ U) → l.length ≤ U.length
  | [], _, _, _ => Nat.zero_le _
  | a :: l, U, h, s => by
    obtain ⟨h1, h2⟩ := List.nodup_cons.1 h
    have m := s a (by simp)
    have := nodup_le (l := l) (U := U.erase a) h2 fun b hb => (List.mem_erase_of_ne (fun e : b = a => h1 (e ▸ hb))).2 (s b (by simp [hb]))
    rw [List.length_erase_of_mem m] at this
    have := List.length_pos_of_mem m
    rw [List.length_cons]; omega
def cs (l : List Nat) : List Int := l.map fun (d : Nat) => (d : Int)
theorem cs_inj {a b : List Nat} (h : cs a = cs b) : a = b := by
  unfold cs at h
  exact (List.map_inj_right (fun x y e => by omega)).1 h
theorem cs_nV (l : List Nat) : (cs l).map V.int = nV l := by unfold cs nV; rw [List.map_map]; rfl
theorem few_of {ks : List (Addr × List Int)} {n k : Nat} (hn : n ≤ 7) (hk : k ≤ 7) (h : ∀ p, p ∈ ks → ∃ S : Nat → Bool, p.2 = cs (canon n S) ∧ (canon n S).length = k) : FewT ks := by
  intro L hL nd
  have := nodup_le (l := L.map (·.2)) (U := ((subs (List.range n)).filter fun l => l.length == k).map cs) nd fun a ha => by
    obtain ⟨p, hp, rfl⟩ := List.mem_map.1 ha
    obtain ⟨S, e, el⟩ := h p (hL p hp)
    rw [e]
    exact List.mem_map.2 ⟨_, List.mem_filter.2 ⟨mem_subs S _, beq_iff_eq.2 el⟩, rfl⟩
  have f := subs_few n hn k hk
  rw [List.length_map, List.length_map] at this
  omega

section
variable {X : Cx}
/-- set(xs), xs a list or a tuple of tuples of ints -/
def rSetL (K : PySem.W.Frag) (P : Program) (w : World) : List V → Hp → VK → Prop := fun xs H Q => ∃ (l : Addr) (ks : List (Addr × List Int)), xs = [V.ref l] ∧ (SqL K H l (ks.map fun p => V.ref p.1) ∨ SqT K H l (ks.map fun p => V.ref p.1)) ∧ (∀ p ∈ ks, SqT K H p.1 (p.2.map V.int)) ∧ FewT ks ∧
  ∀ a L, H a = none → (∀ p ∈ L, p ∈ ks) → (∀ p ∈ ks, p.2 ∈ L.map (·.2)) → Q (.ref a) (upd H a (SetTO P w a L))
theorem cr_setL (hc : X.calm = true) (hu : X.A.units + 64 < cLine) : CallR X (.type "set") (rSetL X.K X.prog X.w) := by
  rintro pins s σ H xs us Q I r ⟨l, ks, rfl, hl, hk, few, q⟩
  rw [Vals.ref1 r]
  have free : H s.heap.objs.size = none := I.hok.fresh (Nat.le_refl _)
  obtain ⟨its, rv, src⟩ : ∃ its : List Value, Vals (ks.map fun p => V.ref p.1) its ∧ (s.heap.IsList l its.toArray ∨ s.heap.IsTuple l its.toArray) := by
    rcases hl with hl | hl
    · obtain ⟨its, rv, pl, _⟩ := I.list hl
      exact ⟨its, rv, .inl pl.isList⟩
    · obtain ⟨its, rv, pl, _⟩ := I.tuple hl
      exact ⟨its, rv, .inr pl⟩
  refine call_setL (P := X.prog) (w := X.w) (ks := ks) (I.ok.hd hc) src (by simpa using refs_of_vals rv) (fun p hp => I.isT (hk p hp)) few (by omega) fun h' tk L es ep t TR got k => ?_
  refine ⟨.ref s.heap.objs.size, upd H s.heap.objs.size (SetTO X.prog X.w s.heap.objs.size L), I.laid (t' := tk) k (Nat.le_refl _) (setTO_new TR.t0), rfl, q _ L free (fun p hp => ?_) fun p hp => ?_⟩
  · exact List.mem_of_mem_take (got.sub p hp)
  · exact got.all p (by rw [List.take_length]; exact hp)
theorem cr_setK (K : PySem.W.Frag) (P : Program) (w : World) (hK : X.K = K) (hP : X.prog = P) (hw : X.w = w) (hc : X.calm = true) (hu : X.A.units + 64 < cLine) : CallR X (.type "set") (rSetL K P w) := by
  subst hK hP hw; exact cr_setL hc hu
theorem cr_sortedTK (K : PySem.W.Frag) (P : Program) (w : World) (hK : X.K = K) (hP : X.prog = P) (hw : X.w = w) (hc : X.calm = true) : CallR X (.builtin "sorted") (rSortedT K P w) := by
  subst hK hP hw; exact cr_sortedT hc
end

/-! ### codes -/
theorem code_inj {B : Int} : ∀ {a b : List Int}, a.length = b.length → TS.Bd B a → TS.Bd B b → TS.code B a = TS.code B b → a = b
  | [], [], _, _, _, _ => rfl
  | x :: a, y :: b, hl, ha, hb, h => by
    have hl' : a.length = b.length := by simpa using hl
    rcases Int.lt_trichotomy x y with z | z | z
    · have := TS.code_lt hl' ha.tail hb.tail z; omega
    · subst z
      have e : TS.code B a = TS.code B b := by
        have h2 : x * B ^ a.length + TS.code B a = x * B ^ b.length + TS.code B b := h
        rw [hl'] at h2; omega
      rw [code_inj hl' ha.tail hb.tail e]
    · have := TS.code_lt hl'.symm hb.tail ha.tail z; omega

/-- a tuple (or list) of tuples: in order, each once, just these -/
structure Kst (K : PySem.W.Frag) (H : Hp) (n k : Nat) (C : List (List Nat)) (ks : List (Addr × List Int)) : Prop where
  tup : ∀ q, q ∈ ks → SqT K H q.1 (q.2.map V.int)
  nd : (ks.map (·.2)).Nodup
  ord : ks.Pairwise fun q r => TS.code 8 q.2 ≤ TS.code 8 r.2
  mem : ∀ R, R ∈ ks.map (·.2) ↔ R ∈ C.map cs
  len : ks.length < 64
  few : ∀ q, q ∈ ks → ∃ S : Nat → Bool, q.2 = cs (canon n S) ∧ (canon n S).length = k
theorem bd_canon {n : Nat} (hn : n ≤ 8) (S : Nat → Bool) : TS.Bd 8 (cs (canon n S)) := by
  intro m hm
  obtain ⟨d, hd, rfl⟩ := List.mem_map.1 hm
  have := (canon_mem.1 hd).1
  omega

/-- each choice has k points -/
theorem chs_form {ps : List (Addr × Pt)} {k : Nat} {R : List Nat} (h : R ∈ chs ps k) : ∃ S : Nat → Bool, R = canon ps.length S ∧ (canon ps.length S).length = k := by
  unfold chs at h
  obtain ⟨⟨i, j, l⟩, ht, h⟩ := List.mem_flatMap.1 h
  have m := mem_trN.1 ht
  unfold chT at h
  obtain ⟨u, hu, h⟩ := List.mem_flatMap.1 h
  have uT : u = i ∨ u = j ∨ u = l := by simpa using hu
  have out : ∀ v, (v = i ∨ v = j ∨ v = l) → v ∉ inside ps i j l := fun v hv hm => by
    unfold inside at hm
    have := (List.mem_filter.1 hm).2
    rw [ins_out hv] at this; exact nomatch this
  have inn : (inside ps i j l).Nodup := List.nodup_range.filter _
  have inm : ∀ d, d ∈ inside ps i j l ↔ d < ps.length ∧ insB ps i j l d = true := fun d => by unfold inside; rw [List.mem_filter, List.mem_range]
  have by_perm : ∀ (S : Nat → Bool) (M : List Nat), M.Nodup → (∀ d, d ∈ M ↔ d < ps.length ∧ S d = true) → (canon ps.length S).length = M.length := fun S M hn hm =>
    ((List.perm_ext_iff_of_nodup (nodup_of_lt (canon_sorted _ S)) hn).2 fun d => by rw [canon_mem, hm]).length_eq
  dsimp only at h
  unfold chU at h
  rcases List.mem_append.1 h with h | h
  · split at h
    · rename_i e
      obtain rfl : R = one1 ps i j l u := by simpa using h
      refine ⟨_, rfl, ?_⟩
      rw [by_perm _ (inside ps i j l ++ [u]) ?_ ?_, List.length_append]
      · exact e
      · exact List.nodup_append.2 ⟨inn, by simp, fun p hp q hq e => out q (by rw [List.mem_singleton.1 hq]; exact uT) (e ▸ hp)⟩
      · intro d
        rw [List.mem_append, inm, List.mem_singleton, Bool.or_eq_true, decide_eq_true_eq]
        constructor
        · rintro (h | h)
          · exact ⟨h.1, .inl h.2⟩
          · exact ⟨by omega, .inr h⟩
        · rintro ⟨h1, h2 | h2⟩
          · exact .inl ⟨h1, h2⟩
          · exact .inr h2
    · exact nomatch h
  · split at h
    · rename_i e
      obtain rfl : R = one2 ps i j l u := by simpa using h
      refine ⟨_, rfl, ?_⟩
      have f2 : (([i, j, l] : List Nat).filter fun d => decide (d ≠ u)).length = 2 := by
        have a1 : i ≠ j := by omega
        have a2 : i ≠ l := by omega
        have a3 : j ≠ l := by omega
        rcases uT with rfl | rfl | rfl
        · simp [a1.symm, a2.symm]
        · simp [a1, a3.symm]
        · simp [a2, a3]
      rw [by_perm _ (inside ps i j l ++ ([i, j, l] : List Nat).filter fun d => decide (d ≠ u)) ?_ ?_, List.length_append, f2]
      · exact e
      · refine List.nodup_append.2 ⟨inn, List.Pairwise.filter _ (show ([i, j, l] : List Nat).Nodup by simp; omega), fun p hp q hq e => ?_⟩
        exact out q (by simpa using (List.mem_filter.1 hq).1) (e ▸ hp)
      · intro d
        rw [List.mem_append, inm, List.mem_filter, Bool.or_eq_true, Bool.and_eq_true, decide_eq_true_eq, decide_eq_true_eq]
        have m3 : d ∈ ([i, j, l] : List Nat) ↔ d = i ∨ d = j ∨ d = l := by simp
        rw [m3]
        constructor
        · rintro (h | h)
          · exact ⟨h.1, .inl h.2⟩
          · exact ⟨by omega, .inr h⟩
        · rintro ⟨h1, h2 | h2⟩
          · exact .inl ⟨h1, h2⟩
          · exact .inr h2
    · exact nomatch h

section
variable {P : Program} {w : World} {K : PySem.W.Frag} {mg : Str → Option Value} {base : Heap}

def sp_nearest_choices (K : PySem.W.Frag) : Sp := fun vs H Q _ => ∃ (a : Addr) (ps : List (Addr × Pt)) (k : Nat), vs = [.ref a, .int (k : Int)] ∧ PtsT K H a ps ∧ Gd (pts ps) ∧ 1 ≤ k ∧ k + 1 ≤ ps.length ∧
  ∀ p H2 ks, Ex H H2 → H2 p = some (.tup (ks.map fun q => V.ref q.1)) → Kst K H2 ps.length k (chs ps k) ks → Q (.ref p) H2

theorem ok_nearest_choices (M : Txt K mg) : FnOk P w K mg base CX0 7 M.a_nearest_choices M.fd_nearest_choices ["points", "k"] (sp_nearest_choices K) := by
  refine M.F_nearest_choices.ok sc_nearest_choices (fun vs H Q E h => ?_) (fun cdv A outer s H vs Q E hr h => ?_)
  · obtain ⟨_, _, _, rfl, _⟩ := h; rfl
  · obtain ⟨a, ps, k, rfl, ha, gd, k1, k2, q⟩ := h
    have n7 := gd.n7
    have n3 := gd.n3
    rw [pts_len] at n7 n3
    refine ⟨_, (pss_cons 
      (ps_expr (pe_call (ok_need_sites M) (hr.mono (by decide)) (by rfl) M.g_need_sites M.F_need_sites.kp M.b_need_sites .nil pass0 (pa_cons (pv 0) pa_nil))) (pss_cons 
      (ps_expr (pe_call (ok_need_size M) (hr.mono (by decide)) (by rfl) M.g_need_size M.F_need_size.kp M.b_need_size .nil pass0 (pa_cons (pv 0) (pa_cons (pv 1) pa_nil)))) (pss_one 
      (ps_ret (pe_callTy (call_tupleK K rfl) (by rfl) M.n_tuple (by decide +kernel) (pa_cons (pe_callB (cr_sortedTK K P w rfl rfl rfl rfl) (by rfl) M.n_sorted (by decide +kernel) (pa_cons (pe_callTy (cr_setK K P w rfl rfl rfl rfl hr.units) (by rfl) M.n_set (by decide +kernel) (pa_cons (pe_lc (own := [("triple", 2), ("some", 3), ("one", 4), ("side", 5)]) (by rfl) sc_nearest_choices.nd (pi_listK K rfl (pe_call (ok_choices_at M) (hr.mono (by decide)) (by rfl) M.g_choices_at M.F_choices_at.kp M.b_choices_at .nil pass0 (pa_cons (pv 0) (pa_cons (pv 1) pa_nil)))) (blkOk_by (own := [("triple", 2), ("some", 3), ("one", 4), ("side", 5)]) (N := N_nearest_choices) (sc := defScope s_nearest_choices) (by decide +kernel)) (fun _ _ _ _ _ => (pg_tupK (n := 4) K rfl rfl (pgs_cons (pg_name (i := 2) sc_nearest_choices.nd rfl (by first | exact Or.inl rfl | exact Or.inr rfl)) (pgs_cons (pg_name (i := 3) sc_nearest_choices.nd rfl (by first | exact Or.inl rfl | exact Or.inr rfl)) (pgs_cons (pg_name (i := 4) sc_nearest_choices.nd rfl (by first | exact Or.inl rfl | exact Or.inr rfl)) (pgs_cons (pg_name (i := 5) sc_nearest_choices.nd rfl (by first | exact Or.inl rfl | exact Or.inr rfl)) pgs_nil)))))) (fun _ _ _ _ _ => pts_nil) (fun _ _ _ _ _ => (pv 3))) pa_nil)) pa_nil)) pa_nil)))))), ?_⟩
    refine q_drop (v := .non) (ev_call (ea_cons (ev_var rfl) ea_nil) fun H1 e1 Q q E => ⟨a, ps, rfl, ha.ex e1, gd, q⟩) fun H1 e1 => ?_
    refine q_drop (v := .non) (ev_call (ea_cons (ev_var rfl) (ea_cons (ev_var rfl) ea_nil)) fun H2 e2 Q q E => ⟨a, ps, k, rfl, ha.ex (e1.trans e2), k1, k2, q⟩) fun H2 e2 => ?_
    have e02 := e1.trans e2
    refine r_ret (r_cb (r_cons (r_cb (r_cons (r_cb (r_cons ?_))))))
    refine r_call (r_cons (r_of (ev_var rfl) fun H3 e3 => r_cons (r_of (ev_var rfl) fun H4 e4 => r_nil ⟨a, ps, k, rfl, ha.ex ((e02.trans e3).trans e4), gd, fun D H5 es e5 en hes => ⟨D, rfl, ⟨_, sq_of en.1⟩, fun L nL => ?_⟩⟩)))
    have e05 := ((e02.trans e3).trans e4).trans e5
    -- the choices alone
    let xs : List V := es.map fun e => V.ref e.2.1
    refine lc_list (xs := es.map fun e => V.ref e.1) (fun i H' => Ex H5 H' ∧ H' L = some (.lst (xs.take i))) ⟨Ex.new nL, upd_same⟩ (fun i H' _ p => sq_of (p.1 _ _ en.1)) ?_ ?_
    · rintro i x H' hx ⟨e6, hL⟩
      rw [List.getElem?_map] at hx
      obtain ⟨e, he, rfl⟩ := Option.map_eq_some_iff.1 hx
      obtain ⟨⟨u, v, w', h1⟩, h2⟩ := en.2 e (List.mem_of_getElem? he)
      refine ⟨e.1, _, rfl, st_of (e6 _ _ h1), rfl, _, _, rfl, _, _, rfl, _, _, rfl, _, _, rfl, rfl, rfl, ?_⟩
      refine ⟨_, rfl, _, hL, ?_, Ex.mut e6 nL, ?_⟩
      · have l1 : es.length = (chs ps k).length := by rw [← hes, List.length_map]
        have l2 : (chs ps k).length ≤ 6 * 56 := by
          have t := trN_len ps.length (by omega)
          have g : ∀ T : List (Nat × Nat × Nat), (T.flatMap (chT ps k)).length ≤ 6 * T.length := by
            intro T
            induction T with
            | nil => simp
            | cons a T ih =>
              rw [List.flatMap_cons, List.length_append, List.length_cons]
              have := chT_len ps k a
              omega
          have := g (trN ps.length)
          unfold chs; omega
        have : (xs.take i).length ≤ xs.length := by rw [List.length_take]; omega
        have : xs.length = es.length := List.length_map _
        exact small1000 (by omega)
      · rw [upd_same, List.take_add_one]
        have : xs[i]? = some (.ref e.2.1) := by rw [List.getElem?_map, he]; rfl
        rw [this]; rfl
    · rintro H6 ⟨e6, hL⟩
      have hL' : H6 L = some (.lst xs) := by
        rw [hL]
        congr 2
        rw [List.take_of_length_le]
        rw [List.length_map, List.length_map]; exact Nat.le_refl _
      let kk : List (Addr × List Int) := es.map fun e => (e.2.1, cs e.2.2)
      have kx : kk.map (fun p => V.ref p.1) = xs := by rw [List.map_map]; rfl
      have kc : kk.map (·.2) = (chs ps k).map cs := by rw [← hes, List.map_map, List.map_map]; rfl
      have kf : ∀ p, p ∈ kk → ∃ S : Nat → Bool, p.2 = cs (canon ps.length S) ∧ (canon ps.length S).length = k := by
        intro p hp
        have : p.2 ∈ kk.map (·.2) := List.mem_map.2 ⟨p, hp, rfl⟩
        rw [kc] at this
        obtain ⟨R, hR, e⟩ := List.mem_map.1 this
        obtain ⟨S, hS, hl⟩ := chs_form hR
        exact ⟨S, by rw [← e, hS], hl⟩
      have kt : ∀ p, p ∈ kk → SqT K H6 p.1 (p.2.map V.int) := by
        intro p hp
        obtain ⟨e, he, rfl⟩ := List.mem_map.1 hp
        rw [cs_nV]
        exact st_of (e6 _ _ (en.2 e he).2)
      refine r_nil ⟨L, kk, rfl, .inl (sq_of (by rw [kx]; exact hL')), kt, few_of n7 (by omega) kf, fun sA SL nS sub all => r_nil ?_⟩
      have e7 : Ex H6 (upd H6 sA (SetTO P w sA SL)) := Ex.new nS
      refine ⟨sA, SL, k, 8, rfl, upd_same, fun p hp => ex_t e7 (kt p (sub p hp)), k1, fun p hp => ?_, fun L' p pm nd lt pw np => r_nil ?_⟩
      · obtain ⟨S, e, hl⟩ := kf p (sub p hp)
        refine ⟨by rw [e]; unfold cs; rw [List.length_map]; exact hl, by rw [e]; exact bd_canon (by omega) S⟩
      have e8 := Ex.new (o := HO.lst (L'.map fun q => V.ref q.1)) np
      have sub' : ∀ q, q ∈ L' → q ∈ kk := fun q hq => sub q (pm.mem_iff.1 hq)
      refine ⟨p, _, rfl, .inl ⟨sq_of upd_same, fun t nt => ?_⟩⟩
      have e9 := Ex.new (o := HO.tup (L'.map fun q => V.ref q.1)) nt
      have e69 := (e7.trans e8).trans e9
      refine q t _ L' ((e05.trans e6).trans e69) upd_same ⟨fun q hq => ex_t e69 (kt q (sub' q hq)), nd, pw, fun R => ?_, lt, fun q hq => kf q (sub' q hq)⟩
      rw [← kc]
      constructor
      · intro h
        obtain ⟨q, hq, e⟩ := List.mem_map.1 h
        exact List.mem_map.2 ⟨q, sub' q hq, e⟩
      · intro h
        obtain ⟨q, hq, rfl⟩ := List.mem_map.1 h
        obtain ⟨r, hr', e⟩ := List.mem_map.1 (all q hq)
        exact List.mem_map.2 ⟨r, pm.mem_iff.2 hr', e⟩
end
end Mc
/-! d.keys() as a value, sorted of it: a dict whose keys are tuples of ints -/
namespace Mc
open PySem PySem.Spec PyProof.Rows L2 Evl

/-- the view of a dict's keys -/
def viewO (p d : Addr) : HO := .ext fun h => PySem.W.KdlKeysView h p d
theorem viewO_ok {P : Program} {w : World} {H : Hp} {h : Heap} {p d : Addr} (e : h.get? p = some { cls := .type "dict_keys", data := .fields #[.ref d] }) : ObjOk P w H h p (viewO p d) := by
  refine ⟨⟨_, e, rfl, rfl⟩, ⟨_, e⟩, ?_⟩
  rintro g1 g2 ⟨o, ho, r⟩ st
  exact ⟨o, st o ho, r⟩
section
variable {X : Cx}
def rKeysV : V → List V → Hp → VK → Prop := fun x xs H Q => ∃ (a : Addr) (kvs : List (List L2.Key × V)), x = .ref a ∧ xs = [] ∧ H a = some (.dT kvs) ∧ ∀ p, H p = none → Q (.ref p) (upd H p (viewO p a))
theorem mt_keysV : MtR X "dict.keys" rKeysV := by
  rintro pins s σ H x xs v us Q I rx rxs ⟨a, kvs, rfl, rfl, ha, q⟩
  cases rx
  cases rxs
  have ⟨z, hd, xs', rel, o, es, ep, ho, hx, hdat, _⟩ := dt_of I.hok ha
  have raw : s.heap.DictRaw a es ep := ⟨o, ho, hx, hdat⟩
  have free : H s.heap.objs.size = none := I.hok.fresh (Nat.le_refl _)
  refine call_meetsIn PySem.F.slot_dict_keys raw.typeIs PySem.F.entry_dict_keys (PySem.F.args_dict_keys_1 _) (meets_dict_keys_raw a hd) ⟨⟨es, ep, raw⟩, ?_⟩
  refine ⟨.ref s.heap.objs.size, upd H s.heap.objs.size (viewO s.heap.objs.size a), ?_, rfl, q _ free⟩
  exact I.laid (t' := s.toks) (fun b u e => Heap.get?_push_of_some _ e) (Nat.le_refl _) (viewO_ok (Heap.get?_push_size _ rfl))

/-- sorted(d.keys()): as many items as keys -/
def rSortV : List V → Hp → VK → Prop := fun vs H Q => ∃ (p a : Addr) (kvs : List (List L2.Key × V)) (d : Nat) (B : Int), vs = [.ref p] ∧ H p = some (viewO p a) ∧ H a = some (.dT kvs) ∧ kvs.length < 64 ∧ 1 ≤ d ∧
  (∀ kv, kv ∈ kvs → ∃ ns : List Int, kv.1 = ns.map Sum.inl ∧ ns.length = d ∧ TS.Bd B ns) ∧ ∀ (ys : List V) (l : Addr), ys.length = kvs.length → H l = none → Q (.ref l) (upd H l (.lst ys))
theorem paired_mem {α β : Type} {R : α → β → Prop} : ∀ {xs : List α} {ys : List β}, Paired R xs ys → ∀ y, y ∈ ys → ∃ x, x ∈ xs ∧ R x y
  | _, _, .nil, y, hy => nomatch hy
  | _, _, .cons h t, y, hy => by
    rcases List.mem_cons.1 hy with rfl | hy
    · exact ⟨_, List.mem_cons_self, h⟩
    · obtain ⟨x, hx, r⟩ := paired_mem t y hy
      exact ⟨x, List.mem_cons_of_mem _ hx, r⟩
/-- a view's items gathered into a new list: the heap has grown -/
theorem gather {prog : Program} {w : World} {A : Around} {E : Value → Shared → Prop} {s : Shared} {T : String} {r d : Addr} {n : Nat} {P : Nat → Value → Prop} {OK : Heap → Prop} {R : List Value → Shared → Prop}
    (src : PySem.W.KdlSrc prog w T r d n P OK) (hh : A.handled = none) (ok : OK s.heap) (hn : n ≤ sizeLine)
    (fin : ∀ (h' : Heap) (tk : Nat) (acc : Array Value), (∀ b o, s.heap.get? b = some o → h'.get? b = some o) → s.heap.objs.size < h'.objs.size → ItemsOf P acc n → R acc.toList { s with heap := h', toks := tk }) :
    wpAny (model prog w) A (collect (.ref r)) R E s := by
  obtain ⟨lr, ld⟩ := src.there _ ok
  let emp : Obj := { cls := .type "list", data := .seq ([] : List Value).toArray }
  have at_S : (s.heap.push emp).get? s.heap.objs.size = some { cls := .type "list", data := .seq #[] } := Heap.get?_push_size _ rfl
  have ext := PySem.W.kdl_extend (A := A) (s := { s with heap := s.heap.push emp })
    (R := fun (q : Result) (s2 : Shared) => ∃ (h2 : Heap) (t2 : Nat) (acc : Array Value) (c : Nat), q = .ok (.ret (.ref s.heap.objs.size)) ∧ s2 = { s with heap := h2, toks := t2 } ∧ (∀ b o, s.heap.get? b = some o → h2.get? b = some o) ∧
      h2.get? s.heap.objs.size = some { cls := .type "list", dict := none, data := .seq acc c, slots := #[] } ∧ ItemsOf P acc n)
    src hh (src.keep _ _ ok fun b _ o e => Heap.get?_push_of_some _ e) s.heap.objs.size (Nat.ne_of_gt lr) (Nat.ne_of_gt ld) (.ref s.heap.objs.size) 0 at_S
    (fun h2 t2 acc c k at2 its => ⟨h2, t2, acc, c, rfl, rfl, fun b o e => k b o (Nat.ne_of_lt (Heap.lt_size e)) (Heap.get?_push_of_some _ e), at2, its⟩) hn
  have close : ∀ (h2 : Heap) (t2 : Nat) (acc : Array Value) (c : Nat), (∀ b o, s.heap.get? b = some o → h2.get? b = some o) → h2.get? s.heap.objs.size = some { cls := .type "list", dict := none, data := .seq acc c, slots := #[] } → ItemsOf P acc n →
      R acc.toList { s with heap := h2, toks := t2 } := fun h2 t2 acc c k at2 its => fin h2 t2 acc k (Heap.lt_size at2) its
  unfold collect
  apply wpAny_bind
  apply wpAny_runValue
  apply codeAny_builtin entry_proto_collect'
  rw [Around.under_plainId PySem.F.plain_proto_collect _]
  change wpAny _ A.in1 (newList [] >>= fun l => again (.builtin "list.__iadd__" ⟨[l, .ref r], []⟩)) _ _ s
  apply wpAny_bind
  refine wpAny_newObj_type ?_
  apply wpAny_pure
  refine ⟨plainId_quiet PySem.F.plain_list_iadd _, codeAny_builtin entry_list_iadd' ?_⟩
  rw [Around.under_plainId PySem.F.plain_list_iadd _]
  change wpAny _ A.in1 (Builtin.List.listExtendWith (.ref s.heap.objs.size) (.ref r) (.ref s.heap.objs.size)) _ _ _
  refine wpAny_mono ext ?_ ?_
  · rintro (f | c₁) s' x
    · obtain ⟨h2, t2, acc, c, e, rfl, k, at2, its⟩ := x
      cases e
      change wpAny _ A (load s.heap.objs.size >>= _) _ _ _
      apply wpAny_bind
      apply wpAny_load at2
      exact wpAny_pure (close h2 t2 acc c k at2 its)
    · refine ⟨x.1, codeAny_mono x.2 ?_⟩
      rintro q s₂ ⟨h2, t2, acc, c, rfl, rfl, k, at2, its⟩
      change wpAny _ A (load s.heap.objs.size >>= _) _ _ _
      apply wpAny_bind
      apply wpAny_load at2
      exact wpAny_pure (close h2 t2 acc c k at2 its)
  · rintro e s' ⟨_, _, _, _, z, _⟩
    cases z
theorem cr_sortedV (hc : X.calm = true) : CallR X (.builtin "sorted") rSortV := by
  rintro pins s σ H vs us Q I r ⟨p, a, kvs, d, B, rfl, hp, ha, few, d1, keys, q⟩
  rw [Vals.ref1 r]
  have view : PySem.W.KdlKeysView s.heap p a := (show ObjOk X.prog X.w H s.heap p (viewO p a) from I.hok p _ hp).1
  have ⟨z, hd, xs', rel, o, es, ep, ho, hx, hdat, hes, _, _⟩ := dt_of I.hok ha
  have raw : s.heap.DictRaw a es ep := ⟨o, ho, hx, hdat⟩
  have l1 : kvs.length = xs'.length := Paired.length rel
  have l2 : es.size = xs'.length := size_of_entries hes
  refine Calls.call_function_entry kind_sorted plain_sorted entry_sorted (args_sorted1 _) ?_
  unfold Builtin.«sorted»
  apply wpAny_bind (m := checkCount "sorted" 1 1 _)
  apply wpAny_pure
  apply wpAny_bind
  refine gather (A := X.A.in1) (PySem.KdlSrc.rawKeys (es := es) (ep := ep)) (I.ok.hd hc) ⟨view, raw⟩ (by rw [sizeLine_eq]; omega) fun h' tk acc k1 grown its => ?_
  have sz : acc.toList.length = kvs.length := by rw [Array.length_toList, its.1]; omega
  have items : ∀ v, v ∈ acc.toList → ∃ (b : Addr) (ns : List Int), v = .ref b ∧ H b = some (.tup (ns.map V.int)) ∧ ns.length = d ∧ TS.Bd B ns := by
    intro v hv
    obtain ⟨j, hj⟩ := List.getElem?_of_mem hv
    rw [Array.getElem?_toList] at hj
    obtain ⟨hi, ev⟩ := its.2 j v hj
    have e1 := entry_at hes j
    rw [Array.getElem?_eq_getElem hi] at e1
    cases hb : xs'[j]? with
    | none => rw [hb] at e1; exact nomatch e1
    | some b =>
      rw [hb] at e1
      have e2 : es[j] = entryOfKey (tupleKind (mixKind X.prog X.w)) b := Option.some.inj e1
      obtain ⟨kv, hkv, r1, r2, _⟩ := paired_mem rel b (List.mem_of_getElem? hb)
      obtain ⟨ns, en, hl, hB⟩ := keys kv hkv
      refine ⟨b.2.1, ns, by rw [ev, e2]; rfl, ?_, hl, hB⟩
      rw [r2, en, List.map_map]; rfl
  apply wpAny_bind
  refine wpAny_newList ?_ (by rw [sizeLine_eq]; omega)
  have at_l : (h'.push (seqObj "list" acc.toList.toArray 0)).get? h'.objs.size = some (seqObj "list" acc.toList.toArray 0) := Heap.get?_push_size _ rfl
  have ok : TS.TupsOk (h'.push (seqObj "list" acc.toList.toArray 0)) d B acc.toList := fun v hv => by
    obtain ⟨b, ns, rfl, hb, hl, hB⟩ := items v hv
    have t0 : TS.TupInts s.heap (.ref b) ns := tupI_raw I (st_of hb)
    exact ⟨ns, t0.keeps fun c u e _ => Heap.get?_push_of_some _ (k1 c u e), hl, hB⟩
  apply wpAny_bind
  apply wpAny_holding
  refine TS.call_sort_tups (s := { s with heap := h'.push (seqObj "list" acc.toList.toArray 0), toks := tk }) at_l (by omega) d1 ok fun out pm _ => ?_
  obtain ⟨c, hcn⟩ := sortedHeap_at (vs := acc.toList) (out := out) at_l
  -- what stands there, as values
  obtain ⟨ys, hys⟩ : ∃ ys : List V, Vals ys out.toList := by
    have all : ∀ us : List Value, (∀ v, v ∈ us → ∃ b, v = Value.ref b) → ∃ ys : List V, Vals ys us := by
      intro us
      induction us with
      | nil => intro _; exact ⟨[], .nil⟩
      | cons v us ih =>
        intro h
        obtain ⟨ys, hy⟩ := ih fun u hu => h u (List.mem_cons_of_mem _ hu)
        obtain ⟨b, rfl⟩ := h v List.mem_cons_self
        exact ⟨.ref b :: ys, .cons rfl hy⟩
    refine all _ fun v hv => ?_
    obtain ⟨b, _, e, _⟩ := items v (pm.mem_iff.1 hv)
    exact ⟨b, e⟩
  have ly : ys.length = kvs.length := by rw [Paired.length hys, pm.length_eq, sz]
  have le_p : s.heap.objs.size ≤ h'.objs.size := Nat.le_of_lt grown
  have free : H h'.objs.size = none := I.hok.fresh le_p
  have keep : ∀ b o, s.heap.get? b = some o → (sortedHeap (h'.push (seqObj "list" acc.toList.toArray 0)) h'.objs.size acc.toList out).get? b = some o := by
    intro b o e
    have e' := k1 b o e
    have lt := Heap.lt_size e'
    rw [sortedHeap_old (Nat.ne_of_lt lt) (by rw [size_push']; exact Nat.lt_succ_of_lt lt)]
    exact Heap.get?_push_of_some _ e'
  have J : Inv X pins σ (upd H h'.objs.size (.lst ys)) { s with heap := sortedHeap (h'.push (seqObj "list" acc.toList.toArray 0)) h'.objs.size acc.toList out, toks := tk } :=
    I.call (ch := []) (Un.laid keep le_p free) (I.hok.laid keep le_p ⟨by rw [ly, sizeLine_eq]; omega, out.toList, c, hys, hcn⟩) I.bare (fun _ z => nomatch z)
  apply wpAny_pure
  exact ⟨_, rfl, .ref h'.objs.size, _, J, rfl, q ys _ ly free⟩
end
end Mc
/-! separable -/
namespace Mc
open PySem PySem.Spec PyProof.Rows L2 Evl
open Vk (Pt Sm sgn dbl mnr rowP sideP Gd oP dP)

def conS (ps : List (Addr × Pt)) (i j : Nat) (more : List Nat) : List Nat := canon ps.length fun d => leftB ps i j d || decide (d ∈ more)
def visM (ps : List (Addr × Pt)) (k i j : Nat) (more : List Nat) : List (List Nat) := if (left ps i j).length + more.length = k then [conS ps i j more] else []
def visJ (ps : List (Addr × Pt)) (k i j : Nat) : List (List Nat) := if i = j then [] else ([[], [i], [j], [i, j]] : List (List Nat)).flatMap (visM ps k i j)
def visI (ps : List (Addr × Pt)) (k i : Nat) : List (List Nat) := (List.range ps.length).flatMap (visJ ps k i)
def vis (ps : List (Addr × Pt)) (k : Nat) : List (List Nat) := (List.range ps.length).flatMap (visI ps k)

/-- the keys of the dict: each set once -/
def Keyed (H : Hp) (D : Addr) (T : List (List Nat)) : Prop := ∃ kvs : List (List L2.Key × V), H D = some (.dT kvs) ∧ kvs.map (·.1) = T.map fun R => (cs R).map Sum.inl
theorem key_inj {a b : List Nat} (h : ((cs a).map Sum.inl : List L2.Key) = (cs b).map Sum.inl) : a = b :=
  cs_inj ((List.map_inj_right (fun x y e => Sum.inl.inj e)).1 h)
theorem Keyed.put {H : Hp} {D b : Addr} {T : List (List Nat)} {R : List Nat} {v : V} (h : Keyed H D T) (hb : H b = some (.tup (nV R))) (hT : T.length < 1000) :
    ∃ H', DPut H D (.ref b) v H' ∧ ExB D H H' ∧ Keyed H' D (if R ∈ T then T else T ++ [R]) := by
  obtain ⟨kvs, hD, hk⟩ := h
  have lk : kvs.length = T.length := by
    have := congrArg List.length hk
    simpa using this
  refine ⟨_, DPut.t (k := (cs R).map Sum.inl) hD ?_ (small1000 (by omega)), ExB.upd _, _, upd_same, ?_⟩
  · rw [hb, List.map_map]
    congr 2
    rw [← cs_nV]; rfl
  · unfold putK
    have any : (kvs.any fun kv => decide (kv.1 = (cs R).map Sum.inl)) = decide (R ∈ T) := by
      have e : (kvs.any fun kv => decide (kv.1 = (cs R).map Sum.inl)) = (kvs.map (·.1)).any fun k => decide (k = (cs R).map Sum.inl) := by rw [List.any_map]; rfl
      rw [e, hk, List.any_map]
      by_cases m : R ∈ T
      · rw [decide_eq_true m, List.any_eq_true]
        exact ⟨R, m, by simp⟩
      · rw [decide_eq_false m, List.any_eq_false]
        intro x hx
        have : x ≠ R := fun e => m (e ▸ hx)
        simpa using fun h => this (key_inj h)
    rw [any]
    by_cases m : R ∈ T
    · rw [if_pos (by simpa using m), if_pos m, List.map_map, ← hk]
      refine List.map_congr_left fun kv _ => ?_
      show (if kv.1 = (cs R).map Sum.inl then (kv.1, v) else kv).1 = kv.1
      split <;> rfl
    · rw [if_neg (by simpa using m), if_neg m, List.map_append, List.map_append, hk]; rfl
theorem Keyed.ex {H H' : Hp} {D : Addr} {T : List (List Nat)} (h : Keyed H D T) (e : Ex H H') : Keyed H' D T := by
  obtain ⟨kvs, hD, hk⟩ := h
  exact ⟨kvs, e _ _ hD, hk⟩
/-- lists and tuples stand when the dict changes -/
theorem ExB.of_dT {D a : Addr} {H H' : Hp} {o : HO} {kvs : List (List L2.Key × V)} (b : ExB D H H') (hD : H D = some (.dT kvs)) (h : H a = some o) (n : o ≠ .dT kvs) : H' a = some o :=
  b a _ (fun z => n (by rw [z, hD] at h; exact (Option.some.inj h).symm)) h

/-- each of its sets is one of k places -/
theorem vis_form {ps : List (Addr × Pt)} {k : Nat} {R : List Nat} (h : R ∈ vis ps k) : ∃ i j more, i < ps.length ∧ j < ps.length ∧ i ≠ j ∧ more ∈ ([[], [i], [j], [i, j]] : List (List Nat)) ∧ (left ps i j).length + more.length = k ∧ R = conS ps i j more := by
  unfold vis at h
  obtain ⟨i, hi, h⟩ := List.mem_flatMap.1 h
  unfold visI at h
  obtain ⟨j, hj, h⟩ := List.mem_flatMap.1 h
  unfold visJ at h
  split at h
  · exact nomatch h
  · rename_i ij
    obtain ⟨more, hm, h⟩ := List.mem_flatMap.1 h
    unfold visM at h
    split at h
    · rename_i e
      exact ⟨i, j, more, List.mem_range.1 hi, List.mem_range.1 hj, ij, hm, e, by simpa using h⟩
    · exact nomatch h
theorem vis_of {ps : List (Addr × Pt)} {k i j : Nat} {more : List Nat} (hi : i < ps.length) (hj : j < ps.length) (ij : i ≠ j) (hm : more ∈ ([[], [i], [j], [i, j]] : List (List Nat))) (e : (left ps i j).length + more.length = k) : conS ps i j more ∈ vis ps k := by
  unfold vis
  refine List.mem_flatMap.2 ⟨i, List.mem_range.2 hi, List.mem_flatMap.2 ⟨j, List.mem_range.2 hj, ?_⟩⟩
  unfold visJ
  rw [if_neg ij]
  refine List.mem_flatMap.2 ⟨more, hm, ?_⟩
  unfold visM
  rw [if_pos e]; simp
theorem left_out {ps : List (Addr × Pt)} {i j d : Nat} (h : d = i ∨ d = j) : leftB ps i j d = false := by
  have z : oP (ptN ps i) (ptN ps j) (ptN ps d) = 0 := by
    rcases h with rfl | rfl
    · exact Vk.O_aa (Vk.gX (pts ps)) (Vk.gY (pts ps)) d j
    · exact Vk.O_bb (Vk.gX (pts ps)) (Vk.gY (pts ps)) i d
  unfold leftB
  rw [z]; rfl
theorem more_sub {i j d : Nat} {more : List Nat} (hm : more ∈ ([[], [i], [j], [i, j]] : List (List Nat))) (h : d ∈ more) : d = i ∨ d = j := by
  simp only [List.mem_cons, List.not_mem_nil, or_false] at hm
  rcases hm with rfl | rfl | rfl | rfl
  · exact nomatch h
  · simp at h; exact .inl h
  · simp at h; exact .inr h
  · simpa using h
theorem more_nd {i j : Nat} (ij : i ≠ j) {more : List Nat} (hm : more ∈ ([[], [i], [j], [i, j]] : List (List Nat))) : more.Nodup ∧ more.length ≤ 2 := by
  simp only [List.mem_cons, List.not_mem_nil, or_false] at hm
  rcases hm with rfl | rfl | rfl | rfl <;> simp [ij]
/-- what stands in left and more together -/
theorem con_parts {ps : List (Addr × Pt)} {i j : Nat} {more : List Nat} (hi : i < ps.length) (hj : j < ps.length) (ij : i ≠ j) (hm : more ∈ ([[], [i], [j], [i, j]] : List (List Nat))) :
    (left ps i j ++ more).Nodup ∧ ∀ d, d ∈ left ps i j ++ more ↔ d < ps.length ∧ (leftB ps i j d || decide (d ∈ more)) = true := by
  have inm : ∀ d, d ∈ left ps i j ↔ d < ps.length ∧ leftB ps i j d = true := fun d => by unfold left; rw [List.mem_filter, List.mem_range]
  refine ⟨List.nodup_append.2 ⟨List.nodup_range.filter _, (more_nd ij hm).1, fun p hp q hq e => ?_⟩, fun d => ?_⟩
  · rw [e, inm, left_out (more_sub hm hq)] at hp
    exact nomatch hp.2
  · rw [List.mem_append, inm, Bool.or_eq_true, decide_eq_true_eq]
    constructor
    · rintro (h | h)
      · exact ⟨h.1, .inl h.2⟩
      · refine ⟨?_, .inr h⟩
        rcases more_sub hm h with rfl | rfl <;> assumption
    · rintro ⟨h1, h2 | h2⟩
      · exact .inl ⟨h1, h2⟩
      · exact .inr h2
theorem con_len {ps : List (Addr × Pt)} {i j : Nat} {more : List Nat} (hi : i < ps.length) (hj : j < ps.length) (ij : i ≠ j) (hm : more ∈ ([[], [i], [j], [i, j]] : List (List Nat))) : (conS ps i j more).length = (left ps i j).length + more.length := by
  have c := con_parts hi hj ij hm
  rw [← List.length_append]
  exact ((List.perm_ext_iff_of_nodup (nodup_of_lt (canon_sorted _ _)) c.1).2 fun d => canon_mem.trans (c.2 d).symm).length_eq
/-- few of them -/
theorem vis_few {ps : List (Addr × Pt)} {k : Nat} (hn : ps.length ≤ 7) (hk : k ≤ 7) {T : List (List Nat)} (nd : T.Nodup) (h : ∀ R, R ∈ T → R ∈ vis ps k) : T.length ≤ 35 := by
  refine Nat.le_trans (nodup_le nd fun R hR => ?_) (subs_few ps.length hn k hk)
  obtain ⟨i, j, more, hi, hj, ij, hm, e, rfl⟩ := vis_form (h R hR)
  exact List.mem_filter.2 ⟨mem_subs _ _, beq_iff_eq.2 ((con_len hi hj ij hm).trans e)⟩

theorem r_forL {K : PySem.W.Frag} {tl : TE} {g : TG} {tb : TS} {D : Ends} {σ : L2.St} {H : Hp}
    (h : tl σ H fun x H1 => ∃ a, x = .ref a ∧ (∃ xs, SqL K H1 a xs) ∧ ∃ W : Nat → Nat → L2.St → Hp → Prop, (∃ m, W 0 m σ H1) ∧ ∀ i m σ H, W i m σ H →
      ((Itl K a).stop i H ∧ D.nx σ H) ∨ ((Itl K a).go i H ∧ ∃ N : L2.St → Hp → Prop, (∀ σ' H', N σ' H' → ∃ m', m' < m ∧ W (i + 1) m' σ' H') ∧ ∀ x H', (Itl K a).yld i H x H' → g x σ H' fun σ2 H2 => tb { D with nx := N, ct := N, bk := D.nx } σ2 H2)) : tFor (iList K tl) g tb D σ H := h

section
variable {P : Program} {w : World} {K : PySem.W.Frag} {mg : Str → Option Value} {base : Heap}

def sp_separable (K : PySem.W.Frag) : Sp := fun vs H Q _ => ∃ (a : Addr) (ps : List (Addr × Pt)) (k : Nat), vs = [.ref a, .int (k : Int)] ∧ PtsT K H a ps ∧ Gd (pts ps) ∧ 1 ≤ k ∧ k + 1 ≤ ps.length ∧
  ∀ (p : Addr) (H2 : Hp) (ys : List V) (T : List (List Nat)), Ex H H2 → H2 p = some (.tup ys) → ys.length = T.length → T.Nodup → (∀ R, R ∈ T ↔ R ∈ vis ps k) → Q (.ref p) H2

theorem ok_separable (M : Txt K mg) : FnOk P w K mg base CX0 5 M.a_separable M.fd_separable ["points", "k"] (sp_separable K) := by
  refine M.F_separable.ok sc_separable (fun vs H Q E h => ?_) (fun cdv A outer s H vs Q E hr h => ?_)
  · obtain ⟨_, _, _, rfl, _⟩ := h; rfl
  · obtain ⟨a, ps, k, rfl, ha, gd, k1, k2, q⟩ := h
    have n7 := gd.n7
    have n3 := gd.n3
    rw [pts_len] at n7 n3
    refine ⟨_, (pss_cons 
      (ps_expr (pe_call (ok_need_general M) (hr.mono (by decide)) (by rfl) M.g_need_general M.F_need_general.kp M.b_need_general .nil pass0 (pa_cons (pv 0) pa_nil))) (pss_cons 
      (ps_set (i := 2) sc_separable.nd rfl (by first | exact Or.inl rfl | exact Or.inr rfl) (pe_callB (call_lenK K rfl) (by rfl) M.n_len (by decide +kernel) (pa_cons (pv 0) pa_nil))) (pss_cons 
      (ps_if (pt_not (pt_val (pe_call (ok_is_in M) (hr.mono (by decide)) (by rfl) M.g_is_in M.F_is_in.kp M.b_is_in .nil pass0 (pa_cons (pv 1) (pa_cons pe_int (pa_cons (pv 2) pa_nil)))))) (pss_one 
        ps_never) pss_nil) (pss_cons 
      (ps_if (pt_cmpR (op_inK K rfl) (pv 1) (pe_tup (pa_cons pe_int (pa_cons (pv 2) pa_nil))) (by rfl)) (pss_one 
        ps_never) pss_nil) (pss_cons 
      (ps_set (i := 3) sc_separable.nd rfl (by first | exact Or.inl rfl | exact Or.inr rfl) pe_dnewT) (pss_cons 
      (ps_for PassesOwn.never rfl (pi_range1 (by rfl) M.n_range (pa_cons (pv 2) pa_nil)) (pg_name (i := 4) sc_separable.nd rfl (by first | exact Or.inl rfl | exact Or.inr rfl)) (pss_one 
        (ps_for PassesOwn.never rfl (pi_range1 (by rfl) M.n_range (pa_cons (pv 2) pa_nil)) (pg_name (i := 5) sc_separable.nd rfl (by first | exact Or.inl rfl | exact Or.inr rfl)) (pss_one 
          (ps_if (pt_cmpR op_ne (pv 4) (pv 5) (nomark _)) (pss_cons 
            (ps_set (i := 6) sc_separable.nd rfl (by first | exact Or.inl rfl | exact Or.inr rfl) (pe_call (ok_lefts M) (hr.mono (by decide)) (by rfl) M.g_lefts M.F_lefts.kp M.b_lefts .nil pass0 (pa_cons (pv 0) (pa_cons (pe_ix (ix_tupK K rfl) (pv 0) (pv 4) (fun _ _ => rfl)) (pa_cons (pe_ix (ix_tupK K rfl) (pv 0) (pv 5) (fun _ _ => rfl)) pa_nil))))) (pss_one 
            (ps_for PassesOwn.never rfl (pi_listK K rfl (pe_lst (pa_cons (pe_lst pa_nil) (pa_cons (pe_lst (pa_cons (pv 4) pa_nil)) (pa_cons (pe_lst (pa_cons (pv 5) pa_nil)) (pa_cons (pe_lst (pa_cons (pv 4) (pa_cons (pv 5) pa_nil))) pa_nil)))))) (pg_name (i := 7) sc_separable.nd rfl (by first | exact Or.inl rfl | exact Or.inr rfl)) (pss_one 
              (ps_if (pt_cmpR op_eq (pe_op op_add (pe_callB (call_lenK K rfl) (by rfl) M.n_len (by decide +kernel) (pa_cons (pv 6) pa_nil)) (pe_callB (call_lenK K rfl) (by rfl) M.n_len (by decide +kernel) (pa_cons (pv 7) pa_nil))) (pv 1) (nomark _)) (pss_one 
                (ps_dput (hu_of hr) (pv 3) (pe_callTy (call_tupleK K rfl) (by rfl) M.n_tuple (by decide +kernel) (pa_cons (pe_callB (cr_sortedK K rfl) (by rfl) M.n_sorted (by decide +kernel) (pa_cons (pe_op op_cat (pv 6) (pv 7)) pa_nil)) pa_nil)) pe_bl rfl)) pss_nil))))) pss_nil))))) (pss_one 
      (ps_ret (pe_callTy (call_tupleK K rfl) (by rfl) M.n_tuple (by decide +kernel) (pa_cons (pe_callB (cr_sortedV rfl) (by rfl) M.n_sorted (by decide +kernel) (pa_cons (pe_bm0 PySem.F.plainAttrs_dict PySem.F.slot_dict_keys PySem.F.type_dict_keys mt_keysV (pv 3)) pa_nil)) pa_nil)))))))))), ?_⟩
    refine q_drop (v := .non) (ev_call (ea_cons (ev_var rfl) ea_nil) fun H1 e1 Q q E => ⟨a, ps, rfl, ha.ex e1, gd, q⟩) fun H1 e1 => ?_
    refine q_asg (v := .int (ps.length : Int)) (Ev.mono e1 (ev_lenP ha (ev_var rfl))) fun H2 e2 => ?_
    refine q_when (b := false) (et_not (a := true) (et_B (ev_call (ea_cons (ev_var rfl) (ea_cons ev_c (ea_cons (ev_var rfl) ea_nil))) fun H1 e1 Q q E => ⟨_, _, _, rfl, by rw [decide_eq_true (by omega), decide_eq_true (by omega)]; exact q⟩))) (fun h => nomatch h) fun _ H3 e3 => ?_
    refine q_when (b := false) (et_test (ev_is (ev_inU (ev_var rfl) (eu_tup (ea_cons ev_c (ea_cons (ev_var rfl) ea_nil)) (by show 2 ≤ 100000; decide)) rfl rfl) ?_)) (fun h => nomatch h) fun _ H4 e4 => ?_
    · congr 1
      show ((0 : Int) == (k : Int) || (((ps.length : Nat) : Int) == (k : Int) || false)) = false
      rw [beq_eq_false_iff_ne.2 (by omega), beq_eq_false_iff_ne.2 (by omega)]; rfl
    have e04 := ((e1.trans e2).trans e3).trans e4
    refine r_q (fun D nD => ?_)
    have e5 : Ex H4 (upd H4 D (.dT [])) := Ex.new nD
    have hD5 : Keyed (upd H4 D (.dT [])) D [] := ⟨[], upd_same, rfl⟩
    have nD0 : H D = none := fresh_back e04 nD
    generalize upd H4 D (.dT []) = H5 at e5 hD5
    have e05 := e04.trans e5
    -- what holds in the loops
    let Inv : List (List Nat) → Hp → Prop := fun C H' => Ex H H' ∧ ∃ T, Keyed H' D T ∧ T.Nodup ∧ (∀ R, R ∈ T → R ∈ vis ps k) ∧ ∀ R, R ∈ T ↔ R ∈ C
    have invEx : ∀ {C H' H''}, Inv C H' → Ex H' H'' → Inv C H'' := fun ⟨a1, T, a2, a3⟩ e => ⟨a1.trans e, T, a2.ex e, a3⟩
    refine q_forR1 (n := (ps.length : Int)) (ea_cons (ev_var rfl) ea_nil) (by omega) (fun i σ H' => Inv ((List.range i).flatMap (visI ps k)) H' ∧ ∃ x1 x2 x3 x4, σ = [some (.ref a), some (.int (k : Int)), some (.int (ps.length : Int)), some (.ref D), x1, x2, x3, x4])
      (fun H6 e6 => ⟨⟨e05.trans e6, [], hD5.ex e6, List.nodup_nil, fun R h => (nomatch h), fun R => by simp⟩, _, _, _, _, rfl⟩) ?_ ?_
    · rintro i σ H6 hi ⟨inv6, x1, x2, x3, x4, rfl⟩
      have il : i < ps.length := by omega
      refine s_forR1 (n := (ps.length : Int)) (ea_cons (ev_var rfl) ea_nil) (by omega) (fun j σ H' => Inv ((List.range i).flatMap (visI ps k) ++ (List.range j).flatMap (visJ ps k i)) H' ∧ ∃ x2 x3 x4, σ = [some (.ref a), some (.int (k : Int)), some (.int (ps.length : Int)), some (.ref D), some (.int (i : Int)), x2, x3, x4])
        (fun H7 e7 => ⟨by simpa using invEx inv6 e7, _, _, _, rfl⟩) ?_ ?_
      · rintro j σ H7 hj ⟨inv7, x2, x3, x4, rfl⟩
        have jl : j < ps.length := by omega
        have stepJ : ((List.range (j + 1)).flatMap (visJ ps k i)) = (List.range j).flatMap (visJ ps k i) ++ visJ ps k i j := by rw [List.range_succ, List.flatMap_append]; simp
        by_cases ij : i = j
        · subst ij
          refine s_when (b := false) (et_test (ev_is (ev_op (ev_var rfl) (ev_var rfl) (rv_ne rfl)) (by simp))) (fun h => nomatch h) fun _ H8 e8 => ⟨?_, _, _, _, rfl⟩
          rw [stepJ]
          have : visJ ps k i i = [] := by unfold visJ; rw [if_pos rfl]
          rw [this, List.append_nil]
          exact invEx inv7 e8
        refine s_when (b := true) (et_test (ev_is (ev_op (ev_var rfl) (ev_var rfl) (rv_ne rfl)) (by
          have : ¬ V.int (i : Int) = V.int (j : Int) := fun z => ij (by have := V.int.inj z; omega)
          rw [decide_eq_false this]; rfl))) (fun _ H8 e8 => ?_) (fun h => nomatch h)
        have inv8 := invEx inv7 e8
        have ha8 := ha.ex inv8.1
        obtain ⟨p, hp⟩ : ∃ p, ps[i]? = some p := ⟨_, List.getElem?_eq_getElem il⟩
        obtain ⟨r, hr'⟩ : ∃ p, ps[j]? = some p := ⟨_, List.getElem?_eq_getElem jl⟩
        refine r_q (r_call (r_cons (r_of (ev_var rfl) fun H9 e9 => r_cons (r_of (ev_pt (ha8.ex e9) hp (ev_var rfl) (ev_var rfl)) fun H10 e10 => r_cons (r_of (ev_pt (ha8.ex (e9.trans e10)) hr' (ev_var rfl) (ev_var rfl)) fun H11 e11 => r_nil ?_)))))
        have e811 := (e9.trans e10).trans e11
        refine ⟨a, p.1, r.1, ps, i, j, p, r, rfl, ha8.ex e811, gd, hp, hr', fun SL H12 nSL e12 hSL => ?_⟩
        have inv12 := invEx inv8 (e811.trans e12)
        -- the four lists
        show tFor (iList K _) _ _ _ _ _
        refine r_forL (r_lst (r_cons (r_lst (r_nil ⟨Nat.zero_le _, fun m0 nm0 => ?_⟩))))
        have f0 := Ex.new (o := HO.lst []) nm0
        refine r_cons (r_lst (r_cons (r_of (ev_var rfl) fun Ha ea => r_nil ⟨by show 1 ≤ sizeLine; decide, fun m1 nm1 => ?_⟩)))
        have f1 := Ex.new (o := HO.lst [.int (i : Int)]) nm1
        refine r_cons (r_lst (r_cons (r_of (ev_var rfl) fun Hb eb => r_nil ⟨by show 1 ≤ sizeLine; decide, fun m2 nm2 => ?_⟩)))
        have f2 := Ex.new (o := HO.lst [.int (j : Int)]) nm2
        refine r_cons (r_lst (r_cons (r_of (ev_var rfl) fun Hc ec => r_cons (r_of (ev_var rfl) fun Hd ed => r_nil ⟨by show 2 ≤ sizeLine; decide, fun m3 nm3 => ?_⟩))))
        have f3 := Ex.new (o := HO.lst [.int (i : Int), .int (j : Int)]) nm3
        refine r_nil ⟨by show 4 ≤ sizeLine; decide, fun ML nML => ?_⟩
        have f4 := Ex.new (o := HO.lst [.ref m0, .ref m1, .ref m2, .ref m3]) nML
        have g3 := f3.trans f4
        have g2 := (f2.trans (ec.trans ed)).trans g3
        have g1 := (f1.trans eb).trans g2
        have g0 := (f0.trans ea).trans g1
        have q0 := (ea.trans g1) _ _ upd_same
        have q1 := (eb.trans g2) _ _ upd_same
        have q2 := ((ec.trans ed).trans g3) _ _ upd_same
        have q3 := f4 _ _ upd_same
        have hML := upd_same (H := upd Hd m3 (.lst [.int (i : Int), .int (j : Int)])) (a := ML) (o := HO.lst [.ref m0, .ref m1, .ref m2, .ref m3])
        have invL := invEx inv12 g0
        have hSLL := g0 _ _ hSL
        refine ⟨ML, rfl, ⟨_, sq_of hML⟩, ?_⟩
        generalize upd (upd Hd m3 (.lst [.int (i : Int), .int (j : Int)])) ML (.lst [.ref m0, .ref m1, .ref m2, .ref m3]) = HL at g0 q0 q1 q2 q3 hML invL hSLL ⊢
        obtain ⟨mores, hmores⟩ : ∃ m, m = ([[], [i], [j], [i, j]] : List (List Nat)) := ⟨_, rfl⟩
        have isDL : ∃ kvs, HL D = some (.dT kvs) := by
          obtain ⟨_, T, ⟨kvs, hk, _⟩, _⟩ := invL
          exact ⟨kvs, hk⟩
        obtain ⟨kvsL, hDL⟩ := isDL
        have lsts : ∀ H', ExB D HL H' → H' ML = some (.lst [.ref m0, .ref m1, .ref m2, .ref m3]) ∧ H' SL = some (.lst (nV (left ps i j))) ∧ H' m0 = some (.lst (nV [])) ∧ H' m1 = some (.lst (nV [i])) ∧ H' m2 = some (.lst (nV [j])) ∧ H' m3 = some (.lst (nV [i, j])) := fun H' b =>
          ⟨b.of_dT hDL hML (fun z => nomatch z), b.of_dT hDL hSLL (fun z => nomatch z), b.of_dT hDL q0 (fun z => nomatch z), b.of_dT hDL q1 (fun z => nomatch z), b.of_dT hDL q2 (fun z => nomatch z), b.of_dT hDL q3 (fun z => nomatch z)⟩
        refine for_list (xs := [.ref m0, .ref m1, .ref m2, .ref m3]) (fun y σ H' => ExB D HL H' ∧ Inv (((List.range i).flatMap (visI ps k) ++ (List.range j).flatMap (visJ ps k i)) ++ (mores.take y).flatMap (visM ps k i j)) H' ∧ ∃ x4, σ = [some (.ref a), some (.int (k : Int)), some (.int (ps.length : Int)), some (.ref D), some (.int (i : Int)), some (.int (j : Int)), some (.ref SL), x4])
          ⟨ExB.refl _ _, by simpa using invL, _, rfl⟩ ?_ ?_ ?_
        · rintro y σ H' _ ⟨b, _⟩
          exact sq_of (lsts H' b).1
        · rintro y v σ H13 hy ⟨b13, inv13, x4, rfl⟩
          have l13 := lsts H13 b13
          obtain ⟨m, more, rfl, hmo, hm13⟩ : ∃ (m : Addr) (more : List Nat), v = .ref m ∧ mores[y]? = some more ∧ H13 m = some (.lst (nV more)) := by
            subst hmores
            match y, hy with
            | 0, hy => cases hy; exact ⟨m0, _, rfl, rfl, l13.2.2.1⟩
            | 1, hy => cases hy; exact ⟨m1, _, rfl, rfl, l13.2.2.2.1⟩
            | 2, hy => cases hy; exact ⟨m2, _, rfl, rfl, l13.2.2.2.2.1⟩
            | 3, hy => cases hy; exact ⟨m3, _, rfl, rfl, l13.2.2.2.2.2⟩
          have mm : more ∈ ([[], [i], [j], [i, j]] : List (List Nat)) := hmores ▸ List.mem_of_getElem? hmo
          have tk : (mores.take (y + 1)).flatMap (visM ps k i j) = (mores.take y).flatMap (visM ps k i j) ++ visM ps k i j more := by
            rw [List.take_add_one, hmo, List.flatMap_append]; simp
          refine s_when (b := decide ((left ps i j).length + more.length = k)) (et_test (ev_is (ev_op (ev_op (ev_cb (ea_cons (ev_var rfl) ea_nil) (rc_lenL (sq_of l13.2.1))) (ev_cb (ea_cons (ev_var rfl) ea_nil) (rc_lenL (sq_of hm13))) rv_I0) (ev_var rfl) (rv_eq rfl)) ?_)) (fun hb H14 e14 => ?_) (fun hb H14 e14 => ?_)
          · congr 1
            refine decide_eq_decide.2 ?_
            unfold nV
            rw [List.length_map, List.length_map]
            constructor
            · intro h; have := V.int.inj h; omega
            · intro h; congr 1; omega
          · have hb' := of_decide_eq_true hb
            have inv14 := invEx inv13 e14
            have cp := con_parts (ps := ps) il jl ij mm
            have lenl : (left ps i j).length ≤ ps.length := by
              unfold left
              have := List.length_filter_le (leftB ps i j) (List.range ps.length)
              rw [List.length_range] at this; exact this
            refine r_of ev_c fun H15 e15 => r_of (ev_var rfl) fun H16 e16 => ?_
            have e1416 := e15.trans e16
            refine eu_some (A := left ps i j) (B := more) (n := ps.length) (S := fun d => leftB ps i j d || decide (d ∈ more)) (by exact ev_var rfl) (e1416 _ _ (e14 _ _ l13.2.1)) ?_ (by have := (more_nd ij mm).2; omega) cp.1 cp.2 H16 (Ex.refl _) _ fun b H17 nb e17 hb17 => ?_
            · intro Ha ea Q qq
              refine r_of (ev_var rfl) fun Hb eb => ?_
              exact qq m Hb eb (((ea.trans eb)) _ _ (e1416 _ _ (e14 _ _ hm13)))
            obtain ⟨h0, T, kd, nd, sub, mem⟩ := inv14
            have few := vis_few n7 (by omega) nd sub
            obtain ⟨H18, put, b18, kd18⟩ := (kd.ex (e1416.trans e17)).put (v := .bl true) hb17 (by omega)
            refine ⟨D, H18, rfl, put, (b13.trans (ExB.of (e14.trans (e1416.trans e17)))).trans b18, ⟨b18.ex (h0.trans (e1416.trans e17)) nD0, _, kd18, ?_, ?_, ?_⟩, _, rfl⟩
            · split
              · exact nd
              · rename_i nm
                exact List.nodup_append.2 ⟨nd, by simp, fun p hp q hq e => nm (by have hq' := List.mem_singleton.1 hq; rw [← hq', ← e]; exact hp)⟩
            · intro R hR
              have own : conS ps i j more ∈ vis ps k := vis_of il jl ij mm hb'
              split at hR
              · exact sub R hR
              · rcases List.mem_append.1 hR with h | h
                · exact sub R h
                · rw [List.mem_singleton.1 h]; exact own
            · intro R
              have vm : visM ps k i j more = [conS ps i j more] := by unfold visM; rw [if_pos hb']
              rw [tk, vm, ← List.append_assoc, List.mem_append, ← mem, List.mem_singleton]
              show R ∈ (if conS ps i j more ∈ T then T else T ++ [conS ps i j more]) ↔ _
              split
              · rename_i h
                constructor
                · exact .inl
                · rintro (h' | rfl)
                  · exact h'
                  · exact h
              · rw [List.mem_append, List.mem_singleton]
          · have hb' := of_decide_eq_false hb
            refine ⟨b13.trans (ExB.of e14), ?_, _, rfl⟩
            have vm : visM ps k i j more = [] := by unfold visM; rw [if_neg hb']
            rw [tk, vm, List.append_nil]
            exact invEx inv13 e14
        · rintro σ H13 ⟨b13, inv13, x4, rfl⟩
          refine ⟨?_, _, _, _, rfl⟩
          have e : visJ ps k i j = mores.flatMap (visM ps k i j) := by unfold visJ; rw [if_neg ij, hmores]
          rw [stepJ, ← List.append_assoc, e]
          have e4 : mores.take 4 = mores := by rw [hmores]; rfl
          have inv13' : Inv (((List.range i).flatMap (visI ps k) ++ (List.range j).flatMap (visJ ps k i)) ++ (mores.take 4).flatMap (visM ps k i j)) H13 := inv13
          rw [e4] at inv13'
          exact inv13'
      · rintro σ H7 ⟨inv7, x2, x3, x4, rfl⟩
        refine ⟨?_, _, _, _, _, rfl⟩
        rw [Int.toNat_natCast] at inv7
        have e : (List.range (i + 1)).flatMap (visI ps k) = (List.range i).flatMap (visI ps k) ++ (List.range ps.length).flatMap (visJ ps k i) := by
          rw [List.range_succ, List.flatMap_append, List.flatMap_singleton]; rfl
        rw [e]; exact inv7
    · rintro σ H6 ⟨⟨e06, T, kd, nd, sub, mem⟩, x1, x2, x3, x4, rfl⟩
      obtain ⟨kvs, hD, hk⟩ := kd
      have lk : kvs.length = T.length := by
        have := congrArg List.length hk
        simpa using this
      have few := vis_few n7 (by omega) nd sub
      refine r_ret (r_cb (r_cons (r_cb (r_cons ?_))))
      refine ⟨_, rfl, ?_, D, kvs, rfl, rfl, hD, fun vw nvw => r_nil ?_⟩
      · exact .inr (.inr (.inl ⟨rfl, .inr ⟨kvs, hD⟩⟩))
      have e7 := Ex.new (o := viewO vw D) nvw
      refine ⟨vw, D, kvs, k, 8, rfl, upd_same, e7 _ _ hD, by omega, k1, fun kv hkv => ?_, fun ys l ly nl => r_nil ?_⟩
      · have : kv.1 ∈ kvs.map (·.1) := List.mem_map.2 ⟨kv, hkv, rfl⟩
        rw [hk] at this
        obtain ⟨R, hR, e⟩ := List.mem_map.1 this
        obtain ⟨i, j, more, hi, hj, ij, hm, el, rfl⟩ := vis_form (sub R hR)
        exact ⟨cs (conS ps i j more), e.symm, by unfold cs; rw [List.length_map, con_len hi hj ij hm]; exact el, bd_canon (by omega) _⟩
      have e8 := Ex.new (o := HO.lst ys) nl
      refine ⟨l, ys, rfl, .inl ⟨sq_of upd_same, fun t nt => ?_⟩⟩
      have e9 := Ex.new (o := HO.tup ys) nt
      refine q t _ ys T (e06.trans ((e7.trans e8).trans e9)) upd_same (ly.trans lk) nd fun R => ?_
      rw [mem, Int.toNat_natCast]; rfl
end
end Mc
/-! what the two defs give, in the plain words of the count -/
namespace Mc
open PySem PySem.Spec PyProof.Rows L2 Evl
open Vk (Pt Sm sgn dbl mnr rowP sideP Gd oP dP gX gY cnt Fam Meets Cut Inc ins lf cnt_congr cnt_or cnt_single)

abbrev gZ (p : List Pt) (i : Nat) : Int := gX p i * gX p i + gY p i * gY p i
theorem cnt_filter (S : Nat → Bool) : ∀ l : List Nat, cnt l (fun d => S d = true) = ((l.filter S).length : Int)
  | [] => rfl
  | a :: l => by
    have ih := cnt_filter S l
    unfold Vk.cnt at ih ⊢
    rw [Vk.sm_cons, ih]
    cases h : S a with
    | true => rw [List.filter_cons_of_pos h, Vk.ind_t h, List.length_cons]; omega
    | false => rw [List.filter_cons_of_neg (by simp [h]), Vk.ind_f (by simp [h])]; omega
theorem cnt_canon (n : Nat) (S : Nat → Bool) : cnt (List.range n) (fun d => d ∈ canon n S) = ((canon n S).length : Int) := by
  rw [cnt_congr (q := fun d => S d = true) fun d hd => by rw [canon_mem]; exact ⟨fun h => h.2, fun h => ⟨List.mem_range.1 hd, h⟩⟩, cnt_filter]; rfl
theorem canon_ext {n : Nat} {S T : Nat → Bool} (h : ∀ d, d ∈ List.range n → (d ∈ canon n S ↔ d ∈ canon n T)) : canon n S = canon n T :=
  canon_cong fun d hd => by
    have := h d (List.mem_range.2 hd)
    rw [canon_mem, canon_mem] at this
    cases a : S d <;> cases b : T d <;> simp [a, b, hd] at this ⊢
theorem insB_ins (ps : List (Addr × Pt)) (i j l d : Nat) : insB ps i j l d = true ↔ ins (gX (pts ps)) (gY (pts ps)) (gZ (pts ps)) i j l d := by
  unfold insB; rw [decide_eq_true_eq]; exact Iff.rfl
theorem leftB_lf (ps : List (Addr × Pt)) (i j d : Nat) : leftB ps i j d = true ↔ lf (gX (pts ps)) (gY (pts ps)) i j d := by
  unfold leftB; rw [decide_eq_true_eq]; exact Iff.rfl

theorem mem_chs {ps : List (Addr × Pt)} {k : Nat} {R : List Nat} : R ∈ chs ps k ↔ ∃ i j l u, i < j ∧ j < l ∧ l < ps.length ∧ (u = i ∨ u = j ∨ u = l) ∧ ((inside ps i j l).length + 1 = k ∧ R = one1 ps i j l u ∨ (inside ps i j l).length + 2 = k ∧ R = one2 ps i j l u) := by
  have mu : ∀ i j l u, R ∈ chU ps k i j l u ↔ ((inside ps i j l).length + 1 = k ∧ R = one1 ps i j l u ∨ (inside ps i j l).length + 2 = k ∧ R = one2 ps i j l u) := by
    intro i j l u
    unfold chU
    rw [List.mem_append]
    by_cases h1 : (inside ps i j l).length + 1 = k <;> by_cases h2 : (inside ps i j l).length + 2 = k <;> simp [h1, h2]
  constructor
  · intro h
    unfold chs at h
    obtain ⟨⟨i, j, l⟩, ht, h⟩ := List.mem_flatMap.1 h
    have m := mem_trN.1 ht
    unfold chT at h
    obtain ⟨u, hu, h⟩ := List.mem_flatMap.1 h
    exact ⟨i, j, l, u, m.1, m.2.1, m.2.2, by simpa using hu, (mu i j l u).1 h⟩
  · rintro ⟨i, j, l, u, h1, h2, h3, hu, h⟩
    unfold chs
    refine List.mem_flatMap.2 ⟨(i, j, l), mem_trN.2 ⟨h1, h2, h3⟩, ?_⟩
    unfold chT
    exact List.mem_flatMap.2 ⟨u, by simpa using hu, (mu i j l u).2 h⟩

/-- any three, in order -/
theorem in_order (ps : List (Addr × Pt)) (n a b c : Nat) (ha : a < n) (hb : b < n) (hc : c < n) (h1 : a ≠ b) (h2 : a ≠ c) (h3 : b ≠ c) :
    ∃ i j l, i < j ∧ j < l ∧ l < n ∧ (∀ d, (d = a ∨ d = b ∨ d = c) ↔ (d = i ∨ d = j ∨ d = l)) ∧ ∀ d, ins (gX (pts ps)) (gY (pts ps)) (gZ (pts ps)) a b c d ↔ ins (gX (pts ps)) (gY (pts ps)) (gZ (pts ps)) i j l d := by
  refine Vk.any3 (P := fun a b c => ∃ i j l, i < j ∧ j < l ∧ l < n ∧ (∀ d, (d = a ∨ d = b ∨ d = c) ↔ (d = i ∨ d = j ∨ d = l)) ∧ ∀ d, ins (gX (pts ps)) (gY (pts ps)) (gZ (pts ps)) a b c d ↔ ins (gX (pts ps)) (gY (pts ps)) (gZ (pts ps)) i j l d) ?_ ?_
    (fun i j k x y z => ⟨i, j, k, x, y, z, fun d => Iff.rfl, fun d => Iff.rfl⟩) a b c ha hb hc h1 h2 h3
  · rintro a b c ⟨i, j, l, x, y, z, e, f⟩
    refine ⟨i, j, l, x, y, z, fun d => Iff.trans ⟨?_, ?_⟩ (e d), fun d => (Vk.ins_swap' _ _ _ _ _ _ _).trans (f d)⟩ <;> (rintro (h | h | h) <;> simp [h])
  · rintro a b c ⟨i, j, l, x, y, z, e, f⟩
    refine ⟨i, j, l, x, y, z, fun d => Iff.trans ⟨?_, ?_⟩ (e d), fun d => (Vk.ins_swap _ _ _ _ _ _ _).trans (f d)⟩ <;> (rintro (h | h | h) <;> simp [h])

theorem inc_of {ps : List (Addr × Pt)} {i j l s t v : Nat} {S : Nat → Prop} (hs : s < ps.length) (ht : t < ps.length) (hv : v < ps.length) (st : s ≠ t) (sv : s ≠ v) (tv : t ≠ v)
    (f : ∀ d, ins (gX (pts ps)) (gY (pts ps)) (gZ (pts ps)) s t v d ↔ ins (gX (pts ps)) (gY (pts ps)) (gZ (pts ps)) i j l d) (hS : S s) (nT : ¬ S t)
    (rest : ∀ d, d < ps.length → d ≠ s → d ≠ t → d ≠ v → (S d ↔ insB ps i j l d = true)) : Meets (gX (pts ps)) (gY (pts ps)) (gZ (pts ps)) (List.range ps.length) S :=
  ⟨s, t, v, List.mem_range.2 hs, List.mem_range.2 ht, List.mem_range.2 hv, st, sv, tv, hS, nT, fun d hd d1 d2 d3 => (rest d (List.mem_range.1 hd) d1 d2 d3).trans ((insB_ins ps i j l d).trans (f d).symm)⟩

/-- the choices: just the sets of k places that a circle cuts off -/
theorem fam_meets {ps : List (Addr × Pt)} {k : Nat} {C : List (List Nat)} (nd : C.Nodup) (hC : ∀ R, R ∈ C ↔ R ∈ chs ps k) : Fam (List.range ps.length) (k : Int) (Meets (gX (pts ps)) (gY (pts ps)) (gZ (pts ps)) (List.range ps.length)) C := by
  have form : ∀ R, R ∈ C → ∃ S : Nat → Bool, R = canon ps.length S ∧ (canon ps.length S).length = k := fun R hR => chs_form ((hC R).1 hR)
  refine ⟨nd, ?_, ?_, ?_⟩
  · intro R hR R' hR' h
    obtain ⟨S, rfl, _⟩ := form R hR
    obtain ⟨S', rfl, _⟩ := form R' hR'
    exact canon_ext h
  · intro R hR
    refine ⟨?_, ?_⟩
    · obtain ⟨S, rfl, e⟩ := form R hR
      rw [cnt_canon, e]
    · obtain ⟨i, j, l, u, ij, jl, ln, hu, ⟨_, rfl⟩ | ⟨_, rfl⟩⟩ := mem_chs.1 ((hC R).1 hR)
      · have m : ∀ d, d < ps.length → (d ∈ one1 ps i j l u ↔ insB ps i j l d = true ∨ d = u) := fun d hd => by
          unfold one1; rw [canon_mem, Bool.or_eq_true, decide_eq_true_eq]; exact ⟨fun h => h.2, fun h => ⟨hd, h⟩⟩
        have out : ∀ d, (d = i ∨ d = j ∨ d = l) → d ≠ u → d < ps.length → d ∉ one1 ps i j l u := fun d hd du h h' => by
          rcases (m d h).1 h' with z | z
          · rw [ins_out hd] at z; exact nomatch z
          · exact du z
        have rest : ∀ s t v, (u = s ∨ u = t ∨ u = v) → ∀ d, d < ps.length → d ≠ s → d ≠ t → d ≠ v → (d ∈ one1 ps i j l u ↔ insB ps i j l d = true) := fun s t v z d hd d1 d2 d3 => by
          rw [m d hd]
          exact ⟨fun h => h.resolve_right (by rcases z with rfl | rfl | rfl <;> assumption), .inl⟩
        rcases hu with rfl | rfl | rfl
        · exact inc_of (s := u) (t := j) (v := l) (by omega) (by omega) (by omega) (by omega) (by omega) (by omega) (fun d => Iff.rfl) ((m u (by omega)).2 (.inr rfl)) (out j (by simp) (by omega) (by omega)) (rest _ _ _ (by simp))
        · exact inc_of (s := u) (t := i) (v := l) (by omega) (by omega) (by omega) (by omega) (by omega) (by omega) (fun d => Vk.ins_swap' _ _ _ _ _ _ _) ((m u (by omega)).2 (.inr rfl)) (out i (by simp) (by omega) (by omega)) (rest _ _ _ (by simp))
        · exact inc_of (s := u) (t := i) (v := j) (by omega) (by omega) (by omega) (by omega) (by omega) (by omega) (fun d => (Vk.ins_swap' _ _ _ _ _ _ _).trans (Vk.ins_swap _ _ _ _ _ _ _)) ((m u (by omega)).2 (.inr rfl)) (out i (by simp) (by omega) (by omega)) (rest _ _ _ (by simp))
      · have m : ∀ d, d < ps.length → (d ∈ one2 ps i j l u ↔ insB ps i j l d = true ∨ ((d = i ∨ d = j ∨ d = l) ∧ d ≠ u)) := fun d hd => by
          unfold one2; rw [canon_mem, Bool.or_eq_true, Bool.and_eq_true, decide_eq_true_eq, decide_eq_true_eq]; exact ⟨fun h => h.2, fun h => ⟨hd, h⟩⟩
        have out : u < ps.length → u ∉ one2 ps i j l u := fun h h' => by
          rcases (m u h).1 h' with z | z
          · rw [ins_out hu] at z; exact nomatch z
          · exact z.2 rfl
        have rest : ∀ d, d < ps.length → d ≠ i → d ≠ j → d ≠ l → (d ∈ one2 ps i j l u ↔ insB ps i j l d = true) := fun d hd d1 d2 d3 => by
          rw [m d hd]
          exact ⟨fun h => h.resolve_right (by rintro ⟨z | z | z, _⟩ <;> contradiction), .inl⟩
        rcases hu with rfl | rfl | rfl
        · exact inc_of (s := j) (t := u) (v := l) (by omega) (by omega) (by omega) (by omega) (by omega) (by omega) (fun d => Vk.ins_swap' _ _ _ _ _ _ _) ((m j (by omega)).2 (.inr ⟨by simp, by omega⟩)) (out (by omega)) (fun d hd d1 d2 d3 => rest d hd d2 d1 d3)
        · exact inc_of (s := i) (t := u) (v := l) (by omega) (by omega) (by omega) (by omega) (by omega) (by omega) (fun d => Iff.rfl) ((m i (by omega)).2 (.inr ⟨by simp, by omega⟩)) (out (by omega)) (fun d hd d1 d2 d3 => rest d hd d1 d2 d3)
        · exact inc_of (s := i) (t := u) (v := j) (by omega) (by omega) (by omega) (by omega) (by omega) (by omega) (fun d => Vk.ins_swap _ _ _ _ _ _ _) ((m i (by omega)).2 (.inr ⟨by simp, by omega⟩)) (out (by omega)) (fun d hd d1 d2 d3 => rest d hd d1 d3 d2)
  · rintro S hc ⟨s, t, v, I⟩
    have hs := List.mem_range.1 I.hs
    have ht := List.mem_range.1 I.ht
    have hv := List.mem_range.1 I.hu
    obtain ⟨i, j, l, ij, jl, ln, e, f⟩ := in_order ps ps.length s t v hs ht hv I.st I.su I.tu
    have nd0 : (List.range ps.length).Nodup := List.nodup_range
    have ci : cnt (List.range ps.length) (ins (gX (pts ps)) (gY (pts ps)) (gZ (pts ps)) s t v) = ((inside ps i j l).length : Int) := by
      unfold inside
      rw [← cnt_filter]
      exact cnt_congr fun d _ => (f d).trans (insB_ins ps i j l d).symm
    have eS : ∀ d, d < ps.length → (S d ↔ (ins (gX (pts ps)) (gY (pts ps)) (gZ (pts ps)) s t v d ∨ d = s) ∨ (d = v ∧ S v)) := by
      intro d hd
      by_cases d1 : d = s
      · subst d1; exact ⟨fun _ => .inl (.inr rfl), fun _ => I.ss⟩
      by_cases d2 : d = t
      · subst d2
        refine ⟨fun h => (I.nt h).elim, ?_⟩
        rintro ((h | h) | h)
        · exact ((Vk.ins_ne h).2.1 rfl).elim
        · exact (d1 h).elim
        · exact (I.tu h.1).elim
      by_cases d3 : d = v
      · subst d3
        refine ⟨fun h => .inr ⟨rfl, h⟩, ?_⟩
        rintro ((h | h) | h)
        · exact ((Vk.ins_ne h).2.2 rfl).elim
        · exact (d1 h).elim
        · exact h.2
      · rw [I.rest d (List.mem_range.2 hd) d1 d2 d3]
        exact ⟨fun h => .inl (.inl h), fun h => by rcases h with (h | h) | h; all_goals first | exact h | exact (d1 h).elim | exact (d3 h.1).elim⟩
    have c1 : cnt (List.range ps.length) (fun d => ins (gX (pts ps)) (gY (pts ps)) (gZ (pts ps)) s t v d ∨ d = s) = ((inside ps i j l).length : Int) + 1 := by
      rw [cnt_or (fun d _ z => (Vk.ins_ne z.1).1 z.2), cnt_single nd0 I.hs, ci]
    by_cases hSv : S v
    · have c2 : cnt (List.range ps.length) S = ((inside ps i j l).length : Int) + 2 := by
        rw [cnt_congr (q := fun d => (ins (gX (pts ps)) (gY (pts ps)) (gZ (pts ps)) s t v d ∨ d = s) ∨ d = v) fun d hd => (eS d (List.mem_range.1 hd)).trans (or_congr Iff.rfl ⟨fun h => h.1, fun h => ⟨h, hSv⟩⟩),
          cnt_or (fun d _ z => z.1.elim (fun y => (Vk.ins_ne y).2.2 z.2) (fun y => I.su (y.symm.trans z.2))), c1, cnt_single nd0 I.hu]; omega
      refine ⟨one2 ps i j l t, (hC _).2 (mem_chs.2 ⟨i, j, l, t, ij, jl, ln, (e t).1 (by simp), .inr ⟨by omega, rfl⟩⟩), fun d hd => ?_⟩
      have hd' := List.mem_range.1 hd
      unfold one2
      rw [canon_mem, Bool.or_eq_true, Bool.and_eq_true, decide_eq_true_eq, decide_eq_true_eq, insB_ins, ← f d, ← e d, eS d hd']
      constructor
      · rintro ⟨_, h | ⟨h | h | h, n⟩⟩
        · exact .inl (.inl h)
        · exact .inl (.inr h)
        · exact (n h).elim
        · exact .inr ⟨h, hSv⟩
      · rintro ((h | h) | h)
        · exact ⟨hd', .inl h⟩
        · exact ⟨hd', .inr ⟨.inl h, fun z => I.st (h.symm.trans z)⟩⟩
        · exact ⟨hd', .inr ⟨.inr (.inr h.1), fun z => I.tu (z.symm.trans h.1)⟩⟩
    · have c2 : cnt (List.range ps.length) S = ((inside ps i j l).length : Int) + 1 := by
        rw [cnt_congr (q := fun d => ins (gX (pts ps)) (gY (pts ps)) (gZ (pts ps)) s t v d ∨ d = s) fun d hd => (eS d (List.mem_range.1 hd)).trans ⟨fun h => h.resolve_right (fun z => hSv z.2), .inl⟩, c1]
      refine ⟨one1 ps i j l s, (hC _).2 (mem_chs.2 ⟨i, j, l, s, ij, jl, ln, (e s).1 (by simp), .inl ⟨by omega, rfl⟩⟩), fun d hd => ?_⟩
      have hd' := List.mem_range.1 hd
      unfold one1
      rw [canon_mem, Bool.or_eq_true, decide_eq_true_eq, insB_ins, ← f d, eS d hd']
      constructor
      · rintro ⟨_, h⟩; exact .inl h
      · rintro (h | h)
        · exact ⟨hd', h⟩
        · exact (hSv h.2).elim

/-- the sets that a line cuts off -/
theorem fam_cut {ps : List (Addr × Pt)} {k : Nat} {C : List (List Nat)} (nd : C.Nodup) (hC : ∀ R, R ∈ C ↔ R ∈ vis ps k) : Fam (List.range ps.length) (k : Int) (Cut (gX (pts ps)) (gY (pts ps)) (List.range ps.length)) C := by
  refine ⟨nd, ?_, ?_, ?_⟩
  · intro R hR R' hR' h
    obtain ⟨i, j, more, _, _, _, _, _, rfl⟩ := vis_form ((hC _).1 hR)
    obtain ⟨i', j', more', _, _, _, _, _, rfl⟩ := vis_form ((hC _).1 hR')
    exact canon_ext h
  · intro R hR
    obtain ⟨i, j, more, hi, hj, ij, hm, e, rfl⟩ := vis_form ((hC _).1 hR)
    refine ⟨?_, i, j, List.mem_range.2 hi, List.mem_range.2 hj, ij, fun d hd d1 d2 => ?_⟩
    · have := con_len (ps := ps) hi hj ij hm
      unfold conS at this ⊢
      rw [cnt_canon, this, e]
    · show d ∈ conS ps i j more ↔ _
      unfold conS
      rw [canon_mem, Bool.or_eq_true, decide_eq_true_eq, leftB_lf]
      constructor
      · rintro ⟨_, h | h⟩
        · exact h
        · exact ((more_sub hm h).elim d1 d2).elim
      · exact fun h => ⟨List.mem_range.1 hd, .inl h⟩
  · rintro S hc ⟨i, j, hi, hj, ij, r⟩
    have hi' := List.mem_range.1 hi
    have hj' := List.mem_range.1 hj
    obtain ⟨more, hm, mm⟩ : ∃ more, more ∈ ([[], [i], [j], [i, j]] : List (List Nat)) ∧ ∀ d, d ∈ more ↔ (d = i ∧ S i) ∨ (d = j ∧ S j) := by
      by_cases a : S i <;> by_cases b : S j
      · exact ⟨[i, j], by simp, fun d => by simp [a, b]⟩
      · exact ⟨[i], by simp, fun d => by simp [a, b]⟩
      · exact ⟨[j], by simp, fun d => by simp [a, b]⟩
      · exact ⟨[], by simp, fun d => by simp [a, b]⟩
    have eq : ∀ d, d ∈ List.range ps.length → (d ∈ conS ps i j more ↔ S d) := by
      intro d hd
      unfold conS
      rw [canon_mem, Bool.or_eq_true, decide_eq_true_eq, mm]
      by_cases d1 : d = i
      · subst d1
        rw [left_out (.inl rfl)]
        exact ⟨fun h => by rcases h.2 with h | h | h; all_goals first | exact absurd h (by decide) | exact (ij h.1).elim | exact h.2, fun h => ⟨hi', .inr (.inl ⟨rfl, h⟩)⟩⟩
      by_cases d2 : d = j
      · subst d2
        rw [left_out (.inr rfl)]
        exact ⟨fun h => by rcases h.2 with h | h | h; all_goals first | exact absurd h (by decide) | exact (d1 h.1).elim | exact h.2, fun h => ⟨hj', .inr (.inr ⟨rfl, h⟩)⟩⟩
      · rw [leftB_lf, r d hd d1 d2]
        exact ⟨fun h => by rcases h.2 with h | h | h; all_goals first | exact h | exact (d1 h.1).elim | exact (d2 h.1).elim, fun h => ⟨List.mem_range.1 hd, .inl h⟩⟩
    have len : (left ps i j).length + more.length = k := by
      have e1 := con_len (ps := ps) hi' hj' ij hm
      have e2 : cnt (List.range ps.length) (fun d => d ∈ conS ps i j more) = ((conS ps i j more).length : Int) := cnt_canon _ _
      rw [cnt_congr eq, hc] at e2
      omega
    exact ⟨_, (hC _).2 (vis_of hi' hj' ij hm len), eq⟩

/-- the count that the law asks for -/
theorem law_count {ps : List (Addr × Pt)} (g : Gd (pts ps)) {k : Nat} (k1 : 1 ≤ k) (k2 : k + 1 ≤ ps.length) {C : List (List Nat)} (nd : C.Nodup) (hC : ∀ R, R ∈ C ↔ R ∈ chs ps k) (T : Nat → List (List Nat))
    (hT : ∀ i, 1 ≤ i → i < k → (T i).Nodup ∧ ∀ R, R ∈ T i ↔ R ∈ vis ps i) :
    (C.length : Int) = 2 * (k : Int) * (ps.length : Int) - (ps.length : Int) - (k : Int) * (k : Int) + 1 - Vk.sm (List.range (k - 1)) (fun i => ((T (i + 1)).length : Int)) := by
  have n3 := g.n3
  have lp : (pts ps).length = ps.length := pts_len ps
  have lr : (List.range ps.length).length = ps.length := List.length_range
  have := Vk.cells' (gX (pts ps)) (gY (pts ps)) (L := List.range ps.length) List.nodup_range (by omega)
    (fun a b c ha hb hc => g.nO a b c (by rw [lp]; exact List.mem_range.1 ha) (by rw [lp]; exact List.mem_range.1 hb) (by rw [lp]; exact List.mem_range.1 hc))
    (fun a b c d ha hb hc hd => g.nD a b c d (by rw [lp]; exact List.mem_range.1 ha) (by rw [lp]; exact List.mem_range.1 hb) (by rw [lp]; exact List.mem_range.1 hc) (by rw [lp]; exact List.mem_range.1 hd))
    k k1 (by omega) (fam_meets nd hC) T (fun i i1 i2 => fam_cut (hT i i1 i2).1 (hT i i1 i2).2)
  rw [lr] at this
  exact this
end Mc
/-! the law's draws and numbers -/
namespace Mc
open PySem PySem.Spec PyProof.Rows L2 Evl
open Vk (Pt Sm sgn dbl mnr rowP sideP Gd oP dP)

theorem sqB {K : PySem.W.Frag} {r a : Addr} {H H' : Hp} {xs : List V} (b : ExB r H H') (n : a ≠ r) (h : SqL K H a xs) : SqL K H' a xs := by
  rcases h with (h | ⟨o, h⟩) | h
  · exact .inl (.inl (b _ _ n h))
  · exact .inl (.inr ⟨o, b _ _ n h⟩)
  · exact .inr h
theorem stB {K : PySem.W.Frag} {r a : Addr} {H H' : Hp} {xs ys : List V} (b : ExB r H H') (hr : H r = some (.lst ys)) (h : SqT K H a xs) : SqT K H' a xs := by
  rcases h with (h | ⟨o, h⟩) | h
  · exact .inl (.inl (b _ _ (fun z => by rw [z, hr] at h; cases h) h))
  · exact .inl (.inr ⟨o, b _ _ (fun z => by rw [z, hr] at h; cases h) h⟩)
  · exact .inr h
/-- the row of the draws -/
def RowA (K : PySem.W.Frag) (H : Hp) (r : Addr) (g : Addr × List Int) : Prop := ∃ (c x d : Int), H r = some (.lst [.ref g.1, .int c, .int x, .int d]) ∧ SqL K H g.1 (g.2.map V.int) ∧ (g.1 ≠ r ∨ ∀ H', SqL K H' g.1 (g.2.map V.int)) ∧ 0 ≤ c ∧ 0 ≤ x ∧ x < 2147483648
theorem RowA.ex {K : PySem.W.Frag} {H H' : Hp} {r : Addr} {g : Addr × List Int} (e : Ex H H') (h : RowA K H r g) : RowA K H' r g := by
  obtain ⟨c, x, d, hr, hs, z⟩ := h
  exact ⟨c, x, d, e _ _ hr, ex_l e hs, z⟩
theorem RowA.lst {K : PySem.W.Frag} {H : Hp} {r : Addr} {g : Addr × List Int} (h : RowA K H r g) : ∃ xs, H r = some (.lst xs) := by
  obtain ⟨c, x, d, hr, _⟩ := h
  exact ⟨_, hr⟩
theorem RowA.fresh {K : PySem.W.Frag} {H H' : Hp} {r p : Addr} {g : Addr × List Int} (h : RowA K H' r g) (b : ExB r H H') (n : H' p = none) : H p = none := by
  obtain ⟨xs, hr⟩ := h.lst
  cases e : H p with
  | none => rfl
  | some o =>
    have := b p o (fun z => by rw [z, hr] at n; cases n) e
    rw [n] at this; cases this
theorem rc_int {H : Hp} {i : Int} : RC (fun xs H Q => (∃ i, xs = [V.int i] ∧ Q (.int i) H) ∨ ∃ k, xs = [V.bl k] ∧ Q (.int (if k then 1 else 0)) H) [.int i] H (.int i) := fun H1 e Q q => .inl ⟨i, rfl, q H1 (Ex.refl H1)⟩
theorem fmod_in {i m : Int} (h : 0 < m) : 0 ≤ i.fmod m ∧ i.fmod m < m := ⟨Int.fmod_nonneg_of_pos _ h, Int.fmod_lt_of_pos _ h⟩
theorem wd {i m : Int} (h : 0 < m) (h2 : m ≤ 1000) : CDivW i m := wide_div h (b := 10) (by omega) (by decide) (by decide)

section
variable {P : Program} {w : World} {K : PySem.W.Frag} {mg : Str → Option Value} {base : Heap}

def sp_law_taken (K : PySem.W.Frag) : Sp := fun vs H Q _ => ∃ (r : Addr) (m : Int) (g : Addr × List Int), vs = [.ref r, .int m] ∧ 0 < m ∧ m ≤ 1000 ∧ RowA K H r g ∧ ∀ n H', ExB r H H' → RowA K H' r g → 0 ≤ n → n < m → Q (.int n) H'

theorem ok_law_taken (M : Txt K mg) : FnOk P w K mg base CX0 1 M.a_law_taken M.fd_law_taken ["_law_row", "_law_many"] (sp_law_taken K) := by
  refine M.F_law_taken.ok sc_law_taken (fun vs H Q E h => ?_) (fun cdv A outer s H vs Q E hr h => ?_)
  · obtain ⟨_, _, _, rfl, _⟩ := h; rfl
  · obtain ⟨r, m, ⟨scr, ns⟩, rfl, m0, m1, ⟨c, x, d, hrow, hs, ne, c0, x0, x1⟩, q⟩ := h
    dsimp only at hrow hs ne
    refine ⟨_, (pss_cons 
      (ps_if (pt_cmpR op_gt (pe_ix (ix_listK K rfl) (pv 0) pe_int (fun _ _ => rfl)) pe_int (nomark _)) (pss_cons 
        (ps_set (i := 2) sc_law_taken.nd rfl (by first | exact Or.inl rfl | exact Or.inr rfl) (pe_op op_modN (pe_callTy call_int1 (by rfl) M.n_int (by decide +kernel) (pa_cons (pe_ix (ix_listK K rfl) (pv 0) pe_int (fun _ _ => rfl)) pa_nil)) (pv 1))) (pss_cons 
        (ps_asg (pe_op op_fdivW (pe_ix (ix_listK K rfl) (pv 0) pe_int (fun _ _ => rfl)) (pv 1)) (pg_sub (pv 0) pe_int set_list)) (pss_one 
        (ps_ret (pv 2))))) pss_nil) (pss_cons 
      (ps_asg (pe_op op_add (pe_ix (ix_listK K rfl) (pv 0) pe_int (fun _ _ => rfl)) pe_int) (pg_sub (pv 0) pe_int set_list)) (pss_cons 
      (ps_if (pt_cmpR op_gt (pe_ix (ix_listK K rfl) (pv 0) pe_int (fun _ _ => rfl)) (pe_callB (call_lenK K rfl) (by rfl) M.n_len (by decide +kernel) (pa_cons (pe_ix (ix_listK K rfl) (pv 0) pe_int (fun _ _ => rfl)) pa_nil)) (nomark _)) (pss_cons 
        (ps_asg (pe_op op_modN (pe_callTy call_int1 (by rfl) M.n_int (by decide +kernel) (pa_cons (pe_op op_add (pe_op op_mul (pe_ix (ix_listK K rfl) (pv 0) pe_int (fun _ _ => rfl)) pe_int) pe_int) pa_nil)) pe_int) (pg_sub (pv 0) pe_int set_list)) (pss_one 
        (ps_ret (pe_op op_modN (pe_callTy call_int1 (by rfl) M.n_int (by decide +kernel) (pa_cons (pe_op op_fdivW (pe_ix (ix_listK K rfl) (pv 0) pe_int (fun _ _ => rfl)) pe_int) pa_nil)) (pv 1))))) pss_nil) (pss_cons 
      (ps_set (i := 3) sc_law_taken.nd rfl (by first | exact Or.inl rfl | exact Or.inr rfl) (pe_ix (ix_listK K rfl) (pe_ix (ix_listK K rfl) (pv 0) pe_int (fun _ _ => rfl)) (pe_op op_sub (pe_ix (ix_listK K rfl) (pv 0) pe_int (fun _ _ => rfl)) pe_int) (fun _ _ => rfl))) (pss_cons 
      (ps_asg (pe_op op_modN (pe_callTy call_int1 (by rfl) M.n_int (by decide +kernel) (pa_cons (pe_op op_add (pe_op op_add (pe_op op_mul (pe_ix (ix_listK K rfl) (pv 0) pe_int (fun _ _ => rfl)) pe_int) (pv 3)) pe_int) pa_nil)) pe_int) (pg_sub (pv 0) pe_int set_list)) (pss_cons 
      (ps_if (pt_cmpR op_ge (pv 3) (pe_op op_pow pe_int pe_int) (nomark _)) (pss_one 
        (ps_asg (pe_op op_fdivW (pv 3) (pv 1)) (pg_sub (pv 0) pe_int set_list))) pss_nil) (pss_one 
      (ps_ret (pe_op op_modN (pe_callTy call_int1 (by rfl) M.n_int (by decide +kernel) (pa_cons (pv 3) pa_nil)) (pv 1)))))))))), ?_⟩
    have mk : ∀ H1 c' x' d', ExB r H H1 → H1 r = some (.lst [.ref scr, .int c', .int x', .int d']) → 0 ≤ c' → 0 ≤ x' → x' < 2147483648 → RowA K H1 r (scr, ns) := fun H1 c' x' d' b h h1 h2 h3 => ⟨c', x', d', h, ne.elim (fun n => sqB b n hs) (fun a => a _), ne, h1, h2, h3⟩
    have at0 : ∀ {H1 : Hp} {c' x' d' : Int} {σ : L2.St} (h : H1 r = some (.lst [.ref scr, .int c', .int x', .int d'])), σ[0]? = some (some (.ref r)) → Ev (tOp (rIxL K) (tVar 0) (tC (.int 0))) σ H1 (.ref scr) := fun h hσ => ev_op (ev_var hσ) ev_c (rv_ixL (sq_of h) rfl)
    have at1 : ∀ {H1 : Hp} {c' x' d' : Int} {σ : L2.St} (h : H1 r = some (.lst [.ref scr, .int c', .int x', .int d'])), σ[0]? = some (some (.ref r)) → Ev (tOp (rIxL K) (tVar 0) (tC (.int 1))) σ H1 (.int c') := fun h hσ => ev_op (ev_var hσ) ev_c (rv_ixL (sq_of h) rfl)
    have at2 : ∀ {H1 : Hp} {c' x' d' : Int} {σ : L2.St} (h : H1 r = some (.lst [.ref scr, .int c', .int x', .int d'])), σ[0]? = some (some (.ref r)) → Ev (tOp (rIxL K) (tVar 0) (tC (.int 2))) σ H1 (.int x') := fun h hσ => ev_op (ev_var hσ) ev_c (rv_ixL (sq_of h) rfl)
    have at3 : ∀ {H1 : Hp} {c' x' d' : Int} {σ : L2.St} (h : H1 r = some (.lst [.ref scr, .int c', .int x', .int d'])), σ[0]? = some (some (.ref r)) → Ev (tOp (rIxL K) (tVar 0) (tC (.int 3))) σ H1 (.int d') := fun h hσ => ev_op (ev_var hσ) ev_c (rv_ixL (sq_of h) rfl)
    refine q_when (b := decide (0 < d)) (et_test (ev_op (at3 hrow rfl) ev_c rv_I0)) (fun hb H1 e1 => ?_) (fun hb H1 e1 => ?_)
    · have h1 := e1 _ _ hrow
      refine q_asg (v := .int (d.fmod m)) (ev_op (ev_cb (ea_cons (at3 h1 rfl) ea_nil) rc_int) (ev_var rfl) (rv_I (by omega))) fun H2 e2 => ?_
      have h2 := e2 _ _ h1
      refine q_setL (j := 3) h2 (v := .int (d / m)) (ev_op (at3 h2 rfl) (ev_var rfl) (rv_I (wd m0 m1))) (ev_var rfl) ev_c (by show _ < 4; decide) fun H3 e3 => ?_
      have b3 : ExB r H (upd H3 r (.lst [.ref scr, .int c, .int x, .int (d / m)])) := (ExB.of ((e1.trans e2).trans e3)).trans (ExB.upd _)
      refine s_ret (v := .int (d.fmod m)) (ev_var rfl) fun H4 e4 => ?_
      exact q _ H4 (b3.trans (ExB.of e4)) (mk _ c x (d / m) (b3.trans (ExB.of e4)) (e4 _ _ upd_same) c0 x0 x1) (fmod_in m0).1 (fmod_in m0).2
    · have h1 := e1 _ _ hrow
      refine q_setL (j := 1) h1 (v := .int (c + 1)) (ev_op (at1 h1 rfl) ev_c rv_I0) (ev_var rfl) ev_c (by show _ < 4; decide) fun H2 e2 => ?_
      have b2 : ExB r H (upd H2 r (.lst [.ref scr, .int (c + 1), .int x, .int d])) := (ExB.of (e1.trans e2)).trans (ExB.upd _)
      have h2 : (upd H2 r (.lst [.ref scr, .int (c + 1), .int x, .int d])) r = some (.lst [.ref scr, .int (c + 1), .int x, .int d]) := upd_same
      have s2 := ne.elim (fun n => sqB b2 n hs) (fun a => a (upd H2 r (.lst [.ref scr, .int (c + 1), .int x, .int d])))
      show tSeq _ _ _ _ (upd H2 r (.lst [.ref scr, .int (c + 1), .int x, .int d]))
      generalize upd H2 r (.lst [.ref scr, .int (c + 1), .int x, .int d]) = H2' at b2 h2 s2
      refine q_when (b := decide ((((ns.map V.int).length : Nat) : Int) < c + 1)) (et_test (ev_op (at1 h2 rfl) (ev_cb (ea_cons (at0 h2 rfl) ea_nil) (rc_lenL s2)) rv_I0)) (fun hb H3 e3 => ?_) (fun hb H3 e3 => ?_)
      · have h3 := e3 _ _ h2
        refine q_setL (j := 2) h3 (v := .int ((x * 48271 + 11).fmod 2147483647)) (ev_op (ev_cb (ea_cons (ev_op (ev_op (at2 h3 rfl) ev_c (rv_I (by first | exact Or.inl ⟨by omega, by omega⟩ | exact Or.inr ⟨by omega, by omega⟩))) ev_c rv_I0) ea_nil) rc_int) ev_c (rv_I (by decide))) (ev_var rfl) ev_c (by show _ < 4; decide) fun H4 e4 => ?_
        have z := fmod_in (i := x * 48271 + 11) (m := 2147483647) (by decide)
        generalize (x * 48271 + 11).fmod 2147483647 = x' at z
        have b4 : ExB r H (upd H4 r (.lst [.ref scr, .int (c + 1), .int x', .int d])) := (b2.trans (ExB.of (e3.trans e4))).trans (ExB.upd _)
        have h4 : (upd H4 r (.lst [.ref scr, .int (c + 1), .int x', .int d])) r = some (.lst [.ref scr, .int (c + 1), .int x', .int d]) := upd_same
        refine s_ret (v := .int ((x' / 7).fmod m)) (ev_op (ev_cb (ea_cons (ev_op (at2 h4 rfl) ev_c (rv_I (wd (by decide) (by decide)))) ea_nil) rc_int) (ev_var rfl) (rv_I (by omega))) fun H5 e5 => ?_
        exact q _ H5 (b4.trans (ExB.of e5)) (mk _ (c + 1) x' d (b4.trans (ExB.of e5)) (e5 _ _ h4) (by omega) z.1 (by omega)) (fmod_in m0).1 (fmod_in m0).2
      · have h3 := e3 _ _ h2
        have hb' := of_decide_eq_false hb
        obtain ⟨cell, hcell⟩ : ∃ cell, ns[c.toNat]? = some cell := ⟨_, List.getElem?_eq_getElem (by rw [List.length_map] at hb'; omega)⟩
        refine q_asg (v := .int cell) (ev_op (at0 h3 rfl) (ev_op (at1 h3 rfl) ev_c rv_I0) (rv_ixL (ex_l e3 s2) ?_)) fun H4 e4 => ?_
        · have e : c + 1 - 1 = ((c.toNat : Nat) : Int) := by omega
          rw [e]
          exact atI_nat (by rw [List.getElem?_map, hcell]; rfl)
        have h4 := e4 _ _ h3
        refine q_setL (j := 2) h4 (v := .int ((x * 48271 + cell + 11).fmod 2147483647)) (ev_op (ev_cb (ea_cons (ev_op (ev_op (ev_op (at2 h4 rfl) ev_c (rv_I (by first | exact Or.inl ⟨by omega, by omega⟩ | exact Or.inr ⟨by omega, by omega⟩))) (ev_var rfl) rv_I0) ev_c rv_I0) ea_nil) rc_int) ev_c (rv_I (by decide))) (ev_var rfl) ev_c (by show _ < 4; decide) fun H5 e5 => ?_
        have z := fmod_in (i := x * 48271 + cell + 11) (m := 2147483647) (by decide)
        generalize (x * 48271 + cell + 11).fmod 2147483647 = x' at z
        have b5 : ExB r H (upd H5 r (.lst [.ref scr, .int (c + 1), .int x', .int d])) := (b2.trans (ExB.of ((e3.trans e4).trans e5))).trans (ExB.upd _)
        have h5 : (upd H5 r (.lst [.ref scr, .int (c + 1), .int x', .int d])) r = some (.lst [.ref scr, .int (c + 1), .int x', .int d]) := upd_same
        show tSeq _ _ _ _ (upd H5 r (.lst [.ref scr, .int (c + 1), .int x', .int d]))
        generalize upd H5 r (.lst [.ref scr, .int (c + 1), .int x', .int d]) = H5' at b5 h5
        have fin : ∀ H6 d', ExB r H H6 → H6 r = some (.lst [.ref scr, .int (c + 1), .int x', .int d']) → tRet (tOp (rI (fun _ j => j ≠ 0) fun i j => V.int (i.fmod j)) (tCB (fun xs H Q => (∃ i, xs = [V.int i] ∧ Q (.int i) H) ∨ ∃ k, xs = [V.bl k] ∧ Q (.int (if k then 1 else 0)) H) (tCons (tVar 3) tNil)) (tVar 1)) { nx := fun _ H' => Q .non H', rt := Q } [some (.ref r), some (.int m), none, some (.int cell)] H6 := by
          intro H6 d' b6 h6
          refine s_ret (v := .int (cell.fmod m)) (ev_op (ev_cb (ea_cons (ev_var rfl) ea_nil) rc_int) (ev_var rfl) (rv_I (by omega))) fun H7 e7 => ?_
          exact q _ H7 (b6.trans (ExB.of e7)) (mk _ (c + 1) x' d' (b6.trans (ExB.of e7)) (e7 _ _ h6) (by omega) z.1 (by omega)) (fmod_in m0).1 (fmod_in m0).2
        refine q_when (b := decide (10 ^ 18 ≤ cell)) (et_test (ev_op (ev_var rfl) (ev_op ev_c ev_c (rv_I ⟨by decide, by decide, by decide⟩)) rv_I0)) (fun hb2 H6 e6 => ?_) (fun hb2 H6 e6 => fin H6 d (b5.trans (ExB.of e6)) (e6 _ _ h5))
        have h6 := e6 _ _ h5
        refine s_setL (j := 3) h6 (v := .int (cell / m)) (ev_op (ev_var rfl) (ev_var rfl) (rv_I (wd m0 m1))) (ev_var rfl) ev_c (by show _ < 4; decide) fun H7 e7 => ?_
        exact fin _ (cell / m) (((b5.trans (ExB.of (e6.trans e7))).trans (ExB.upd _))) upd_same

def sp_law_pick (K : PySem.W.Frag) : Sp := fun vs H Q _ => ∃ (r l : Addr) (ns : List Int) (g : Addr × List Int), vs = [.ref r, .ref l] ∧ H l = some (.lst (ns.map V.int)) ∧ 0 < ns.length ∧ ns.length ≤ 1000 ∧ RowA K H r g ∧ ∀ n H', ExB r H H' → RowA K H' r g → n ∈ ns → Q (.int n) H'
theorem row_ne {K : PySem.W.Frag} {H : Hp} {r l : Addr} {g : Addr × List Int} {ns : List Int} (h : RowA K H r g) (hl : H l = some (.lst (ns.map V.int))) : l ≠ r := by
  obtain ⟨c, x, d, hr, _⟩ := h
  intro z
  rw [z, hr] at hl
  have := HO.lst.inj (Option.some.inj hl)
  cases ns with
  | nil => cases this
  | cons a t => cases (List.cons.inj this).1

theorem ok_law_pick (M : Txt K mg) : FnOk P w K mg base CX0 2 M.a_law_pick M.fd_law_pick ["_law_row", "_law_things"] (sp_law_pick K) := by
  refine M.F_law_pick.ok sc_law_pick (fun vs H Q E h => ?_) (fun cdv A outer s H vs Q E hr h => ?_)
  · obtain ⟨_, _, _, _, rfl, _⟩ := h; rfl
  · obtain ⟨r, l, ns, g, rfl, hl, l0, l1, row, q⟩ := h
    refine ⟨_, (pss_one 
      (ps_ret (pe_ix (ix_listK K rfl) (pv 1) (pe_call (ok_law_taken M) (hr.mono (by decide)) (by rfl) M.g_law_taken M.F_law_taken.kp M.b_law_taken .nil pass0 (pa_cons (pv 0) (pa_cons (pe_callB (call_lenK K rfl) (by rfl) M.n_len (by decide +kernel) (pa_cons (pv 1) pa_nil)) pa_nil))) (fun _ _ => rfl)))), ?_⟩
    refine r_ret (r_op (r_of (ev_var rfl) fun H1 e1 => r_call (r_cons (r_of (ev_var rfl) fun H2 e2 => r_cons (r_of (ev_cb (ea_cons (ev_var rfl) ea_nil) (rc_lenL (sq_of ((e1.trans e2) _ _ hl)))) fun H3 e3 => r_nil ?_)))))
    have e13 := (e1.trans e2).trans e3
    refine ⟨r, _, g, rfl, by rw [List.length_map]; omega, by rw [List.length_map]; omega, row.ex e13, fun n H4 b4 row4 n0 n1 => ?_⟩
    rw [List.length_map] at n1
    have hl4 := b4 _ _ (row_ne row hl) (e13 _ _ hl)
    obtain ⟨j, rfl⟩ : ∃ j : Nat, n = (j : Int) := ⟨n.toNat, by omega⟩
    have jl : j < ns.length := by omega
    exact ⟨l, ns.map V.int, (j : Int), .int ns[j], rfl, rfl, sq_of hl4, atI_nat (by rw [List.getElem?_map, List.getElem?_eq_getElem jl]; rfl), q _ H4 ((ExB.of e13).trans b4) row4 (List.getElem_mem _)⟩

def sp_law_signed (K : PySem.W.Frag) : Sp := fun vs H Q _ => ∃ (r : Addr) (m : Int) (g : Addr × List Int), vs = [.ref r, .int m] ∧ 0 ≤ m ∧ m ≤ 100 ∧ RowA K H r g ∧ ∀ n H', ExB r H H' → RowA K H' r g → -m ≤ n → n ≤ m → Q (.int n) H'
theorem ok_law_signed (M : Txt K mg) : FnOk P w K mg base CX0 2 M.a_law_signed M.fd_law_signed ["_law_row", "_law_most"] (sp_law_signed K) := by
  refine M.F_law_signed.ok sc_law_signed (fun vs H Q E h => ?_) (fun cdv A outer s H vs Q E hr h => ?_)
  · obtain ⟨_, _, _, rfl, _⟩ := h; rfl
  · obtain ⟨r, m, g, rfl, m0, m1, row, q⟩ := h
    refine ⟨_, (pss_one 
      (ps_ret (pe_op op_sub (pe_call (ok_law_taken M) (hr.mono (by decide)) (by rfl) M.g_law_taken M.F_law_taken.kp M.b_law_taken .nil pass0 (pa_cons (pv 0) (pa_cons (pe_op op_add (pe_op op_mul pe_int (pv 1)) pe_int) pa_nil))) (pv 1)))), ?_⟩
    refine r_ret (r_op (r_call (r_cons (r_of (ev_var rfl) fun H1 e1 => r_cons (r_of (ev_op (ev_op ev_c (ev_var rfl) (rv_I (by first | exact Or.inl ⟨by omega, by omega⟩ | exact Or.inr ⟨by omega, by omega⟩))) ev_c rv_I0) fun H2 e2 => r_nil ?_)))))
    have e12 := e1.trans e2
    refine ⟨r, 2 * m + 1, g, rfl, by omega, by omega, row.ex e12, fun n H3 b3 row3 n0 n1 => r_of (ev_var rfl) fun H4 e4 => ⟨n, m, rfl, rfl, ?_⟩⟩
    exact q _ H4 (((ExB.of e12).trans b3).trans (ExB.of e4)) (row3.ex e4) (by omega) (by omega)

def sp_law_grid (K : PySem.W.Frag) : Sp := fun vs H Q _ => ∃ (r : Addr) (m : Int) (g : Addr × List Int), vs = [.ref r, .int m] ∧ 0 ≤ m ∧ m ≤ 100 ∧ RowA K H r g ∧ ∀ p x y H', H p = none → ExB r H H' → RowA K H' r g → H' p = some (.tup [.int x, .int y, .int 1]) → -m ≤ x → x ≤ m → -m ≤ y → y ≤ m → Q (.ref p) H'
theorem ok_law_grid (M : Txt K mg) : FnOk P w K mg base CX0 3 M.a_law_grid M.fd_law_grid ["_law_row", "_law_size"] (sp_law_grid K) := by
  refine M.F_law_grid.ok sc_law_grid (fun vs H Q E h => ?_) (fun cdv A outer s H vs Q E hr h => ?_)
  · obtain ⟨_, _, _, rfl, _⟩ := h; rfl
  · obtain ⟨r, m, g, rfl, m0, m1, row, q⟩ := h
    refine ⟨_, (pss_one 
      (ps_ret (pe_tup (pa_cons (pe_call (ok_law_signed M) (hr.mono (by decide)) (by rfl) M.g_law_signed M.F_law_signed.kp M.b_law_signed .nil pass0 (pa_cons (pv 0) (pa_cons (pv 1) pa_nil))) (pa_cons (pe_call (ok_law_signed M) (hr.mono (by decide)) (by rfl) M.g_law_signed M.F_law_signed.kp M.b_law_signed .nil pass0 (pa_cons (pv 0) (pa_cons (pv 1) pa_nil))) (pa_cons pe_int pa_nil)))))), ?_⟩
    refine r_ret (r_tup (r_cons (r_call (r_cons (r_of (ev_var rfl) fun H1 e1 => r_cons (r_of (ev_var rfl) fun H2 e2 => r_nil ?_))))))
    refine ⟨r, m, g, rfl, m0, m1, row.ex (e1.trans e2), fun x H3 b3 row3 x0 x1 => r_cons (r_call (r_cons (r_of (ev_var rfl) fun H4 e4 => r_cons (r_of (ev_var rfl) fun H5 e5 => r_nil ?_))))⟩
    refine ⟨r, m, g, rfl, m0, m1, row3.ex (e4.trans e5), fun y H6 b6 row6 y0 y1 => r_cons (r_of ev_c fun H7 e7 => r_nil ⟨by show 3 ≤ sizeLine; decide, fun p np => ?_⟩)⟩
    have b7 := (((ExB.of (e1.trans e2)).trans b3).trans (ExB.of (e4.trans e5))).trans (b6.trans (ExB.of e7))
    have row7 := row6.ex e7
    have e8 := Ex.new (o := HO.tup [.int x, .int y, .int 1]) np
    exact q p x y _ (row7.fresh b7 np) (b7.trans (ExB.of e8)) (row7.ex e8) upd_same x0 x1 y0 y1

def sgL (n : Int) : Int := if n > 0 then 1 else if n < 0 then -1 else 0
theorem sgL_sgn (n : Int) : sgL n = sgn n := by unfold sgL Vk.sgn; split <;> split <;> omega
def sp_law_sign (K : PySem.W.Frag) : Sp := fun vs H Q _ => ∃ n : Int, vs = [.int n] ∧ Ret (.int (sgn n)) H Q
theorem ok_law_sign (M : Txt K mg) : FnOk P w K mg base CX0 1 M.a_law_sign M.fd_law_sign ["_law_number"] (sp_law_sign K) := by
  refine M.F_law_sign.ok sc_law_sign (fun vs H Q E h => ?_) (fun cdv A outer s H vs Q E hr h => ?_)
  · obtain ⟨_, rfl, _⟩ := h; rfl
  · obtain ⟨n, rfl, q⟩ := h
    refine ⟨_, (pss_one 
      (ps_ret (pe_ifExp (pt_cmpR op_gt (pv 0) pe_int (nomark _)) pe_int (pe_ifExp (pt_cmpR op_lt (pv 0) pe_int (nomark _)) (pe_un un_neg pe_int) pe_int)))), ?_⟩
    rw [← sgL_sgn] at q
    refine s_ret (v := .int (sgL n)) (ev_if (b := decide (n > 0)) (et_test (ev_op (ev_var rfl) ev_c rv_I0)) (fun hb => ?_) (fun hb => ?_)) fun H1 e1 => q H1 e1
    · unfold sgL; rw [if_pos (of_decide_eq_true hb)]; exact ev_c
    · refine ev_if (b := decide (n < 0)) (et_test (ev_op (ev_var rfl) ev_c rv_I0)) (fun hb2 => ?_) (fun hb2 => ?_)
      · unfold sgL; rw [if_neg (of_decide_eq_false hb), if_pos (of_decide_eq_true hb2)]
        exact ev_un ev_c ru_neg
      · unfold sgL; rw [if_neg (of_decide_eq_false hb), if_neg (of_decide_eq_false hb2)]; exact ev_c

def sp_law_gcd (K : PySem.W.Frag) : Sp := fun vs H Q _ => ∃ a b : Int, vs = [.int a, .int b] ∧ Ret (.int (Int.gcd a b : Nat)) H Q
theorem ok_law_gcd (M : Txt K mg) : FnOk P w K mg base CX0 1 M.a_law_gcd M.fd_law_gcd ["_law_one", "_law_other"] (sp_law_gcd K) := by
  refine M.F_law_gcd.ok sc_law_gcd (fun vs H Q E h => ?_) (fun cdv A outer s H vs Q E hr h => ?_)
  · obtain ⟨_, _, rfl, _⟩ := h; rfl
  · obtain ⟨a, b, rfl, q⟩ := h
    refine ⟨_, (pss_cons 
      (ps_par (i := 0) (j := 1) (by rfl) sc_law_gcd.nd rfl rfl (by decide) rfl rfl (pa_cons (pe_callB call_abs (by rfl) M.n_abs (by decide +kernel) (pa_cons (pv 0) pa_nil)) (pa_cons (pe_callB call_abs (by rfl) M.n_abs (by decide +kernel) (pa_cons (pv 1) pa_nil)) pa_nil)) (by rfl)) (pss_cons 
      (ps_while PassesOwn.never (pt_cmpR op_ne (pv 1) pe_int (nomark _)) (pss_one 
        (ps_par (i := 0) (j := 1) (by rfl) sc_law_gcd.nd rfl rfl (by decide) rfl rfl (pa_cons (pv 1) (pa_cons (pe_op op_modN (pe_callTy call_int1 (by rfl) M.n_int (by decide +kernel) (pa_cons (pv 0) pa_nil)) (pv 1)) pa_nil)) (by rfl)))) (pss_one 
      (ps_ret (pv 0))))), ?_⟩
    refine ⟨_, rfl, _, rfl, _, rfl, _, rfl, _, _, rfl, ?_⟩
    rw [abs_if, abs_if]
    refine ⟨fun m σ H' => H' = H ∧ ∃ x y : Nat, σ = [some (.int (x : Int)), some (.int (y : Int))] ∧ y = m ∧ Nat.gcd x y = Int.gcd a b, ⟨_, rfl, a.natAbs, b.natAbs, rfl, rfl, rfl⟩, ?_⟩
    rintro m σ H' ⟨rfl, x, y, rfl, rfl, g⟩
    refine ⟨_, rfl, rfl, _, rfl, ite2 (fun e => ?_) (fun e => ?_)⟩
    · have hy : y ≠ 0 := by
        intro z; subst z; simp at e
      refine ⟨fun σ' H'' => ∃ m', m' < y ∧ H'' = H' ∧ ∃ x y : Nat, σ' = [some (.int (x : Int)), some (.int (y : Int))] ∧ y = m' ∧ Nat.gcd x y = Int.gcd a b, fun _ _ n => n, ?_⟩
      refine ⟨_, rfl, _, rfl, .inl ⟨_, rfl, _, rfl, _, _, rfl, rfl, by omega, _, _, rfl, x % y, Nat.mod_lt _ (by omega), rfl, y, x % y, ?_, rfl, ?_⟩⟩
      · show [some (V.int (y : Int)), some (V.int (Int.fmod (x : Int) (y : Int)))] = _
        rw [show Int.fmod (x : Int) (y : Int) = ((x % y : Nat) : Int) by rw [Int.fmod_eq_emod_of_nonneg _ (by omega)]; rfl]
      · rw [← g, Nat.gcd_comm y, ← Nat.gcd_rec, Nat.gcd_comm]
    · have hy : y = 0 := by
        simp at e; omega
      subst hy
      refine ⟨_, rfl, ?_⟩
      rw [Nat.gcd_zero_right] at g
      rw [g]
      exact q _ (Ex.refl _)
end
end Mc
/-! the law's own looks at points -/
namespace Mc
open PySem PySem.Spec PyProof.Rows L2 Evl
open Vk (Pt Sm sgn dbl mnr rowP sideP Gd oP dP)

/-- a point of the law, before it is halved -/
def Gp (p : Pt) : Prop := (-1000000 ≤ p.1 ∧ p.1 ≤ 1000000) ∧ (-1000000 ≤ p.2.1 ∧ p.2.1 ≤ 1000000) ∧ p.2.2 = 1
def oL (a b c : Pt) : Int := (b.1 - a.1) * (c.2.1 - a.2.1) - (c.1 - a.1) * (b.2.1 - a.2.1)
def rL (p d : Pt) : Pt := (p.1 - d.1, p.2.1 - d.2.1, (p.1 - d.1) * (p.1 - d.1) + (p.2.1 - d.2.1) * (p.2.1 - d.2.1))
def cL (a b c d : Pt) : Int := sgn (mnr (rL a d) (rL b d) (rL c d)) * sgn (oL a b c)

local macro_rules | `(tactic| walk_at "ev") => `(tactic| first
  | exact ev_c
  | exact ev_var rfl
  | exact ev_op (ev_var rfl) ev_c (rv_ixT (by assumption) rfl)
  | (refine ev_op ?_ ?_ rv_I0 <;> walk_at "ev")
  | (refine ev_op ?_ ?_ (rv_I ?hc) <;> first | (case hc => first | exact Or.inl ⟨by omega, by omega⟩ | exact Or.inr ⟨by omega, by omega⟩) | walk_at "ev"))

theorem q_par {ta : TA} {tz : TS} {D : Ends} {σ : L2.St} {H : Hp} {i j : Nat} {v w : V} (h : EvA ta σ H [v, w]) (k : ∀ H1, Ex H H1 → tz D ((σ.set i (some v)).set j (some w)) H1) : tSeq (tPar i j ta) tz D σ H :=
  h H (Ex.refl H) _ fun H1 e => ⟨v, w, rfl, k H1 e⟩
theorem q_par3 {ta : TA} {tz : TS} {D : Ends} {σ : L2.St} {H : Hp} {i j l : Nat} {u v w : V} (h : EvA ta σ H [u, v, w]) (k : ∀ H1, Ex H H1 → tz D (((σ.set i (some u)).set j (some v)).set l (some w)) H1) : tSeq (tPar3 i j l ta) tz D σ H :=
  h H (Ex.refl H) _ fun H1 e => ⟨u, v, w, rfl, k H1 e⟩

section
variable {P : Program} {w : World} {K : PySem.W.Frag} {mg : Str → Option Value} {base : Heap}

def sp_law_doubled (K : PySem.W.Frag) : Sp := fun vs H Q _ => ∃ (a b c : Addr) (p q r : Pt), vs = [.ref a, .ref b, .ref c] ∧ PtAt K H a p ∧ PtAt K H b q ∧ PtAt K H c r ∧ Gp p ∧ Gp q ∧ Gp r ∧ Ret (.int (oL p q r)) H Q
theorem ok_law_doubled (M : Txt K mg) : FnOk P w K mg base CX0 1 M.a_law_doubled M.fd_law_doubled ["_law_a", "_law_b", "_law_c"] (sp_law_doubled K) := by
  refine M.F_law_doubled.ok sc_law_doubled (fun vs H Q E h => ?_) (fun cdv A outer s H vs Q E hr h => ?_)
  · obtain ⟨_, _, _, _, _, _, rfl, _⟩ := h; rfl
  · obtain ⟨a, b, c, ⟨p1, p2, p3⟩, ⟨q1, q2, q3⟩, ⟨r1, r2, r3⟩, rfl, ha, hb, hc, gp, gq, gr, k⟩ := h
    unfold Gp at gp gq gr
    dsimp only at gp gq gr
    obtain ⟨x1, x2, rfl⟩ := gp
    obtain ⟨y1, y2, rfl⟩ := gq
    obtain ⟨z1, z2, rfl⟩ := gr
    refine ⟨_, (pss_cons 
      (ps_par (i := 3) (j := 4) (by rfl) sc_law_doubled.nd rfl rfl (by decide) rfl rfl (pa_cons (pe_op op_sub (pe_op op_mul (pe_ix (ix_tupK K rfl) (pv 1) pe_int (fun _ _ => rfl)) (pe_ix (ix_tupK K rfl) (pv 0) pe_int (fun _ _ => rfl))) (pe_op op_mul (pe_ix (ix_tupK K rfl) (pv 0) pe_int (fun _ _ => rfl)) (pe_ix (ix_tupK K rfl) (pv 1) pe_int (fun _ _ => rfl)))) (pa_cons (pe_op op_sub (pe_op op_mul (pe_ix (ix_tupK K rfl) (pv 1) pe_int (fun _ _ => rfl)) (pe_ix (ix_tupK K rfl) (pv 0) pe_int (fun _ _ => rfl))) (pe_op op_mul (pe_ix (ix_tupK K rfl) (pv 0) pe_int (fun _ _ => rfl)) (pe_ix (ix_tupK K rfl) (pv 1) pe_int (fun _ _ => rfl)))) pa_nil)) (by rfl)) (pss_cons 
      (ps_par (i := 5) (j := 6) (by rfl) sc_law_doubled.nd rfl rfl (by decide) rfl rfl (pa_cons (pe_op op_sub (pe_op op_mul (pe_ix (ix_tupK K rfl) (pv 2) pe_int (fun _ _ => rfl)) (pe_ix (ix_tupK K rfl) (pv 0) pe_int (fun _ _ => rfl))) (pe_op op_mul (pe_ix (ix_tupK K rfl) (pv 0) pe_int (fun _ _ => rfl)) (pe_ix (ix_tupK K rfl) (pv 2) pe_int (fun _ _ => rfl)))) (pa_cons (pe_op op_sub (pe_op op_mul (pe_ix (ix_tupK K rfl) (pv 2) pe_int (fun _ _ => rfl)) (pe_ix (ix_tupK K rfl) (pv 0) pe_int (fun _ _ => rfl))) (pe_op op_mul (pe_ix (ix_tupK K rfl) (pv 0) pe_int (fun _ _ => rfl)) (pe_ix (ix_tupK K rfl) (pv 2) pe_int (fun _ _ => rfl)))) pa_nil)) (by rfl)) (pss_one 
      (ps_ret (pe_op op_fdivW (pe_op op_sub (pe_op op_mul (pv 3) (pv 6)) (pe_op op_mul (pv 5) (pv 4))) (pe_ix (ix_tupK K rfl) (pv 0) pe_int (fun _ _ => rfl))))))), ?_⟩
    have ha : SqT K H a [.int p1, .int p2, .int 1] := ha
    have hb : SqT K H b [.int q1, .int q2, .int 1] := hb
    have hc : SqT K H c [.int r1, .int r2, .int 1] := hc
    refine q_par (v := .int (q1 * 1 - p1 * 1)) (w := .int (q2 * 1 - p2 * 1)) (ea_cons (by walk_at "ev") (ea_cons (by walk_at "ev") ea_nil)) fun H1 e1 => ?_
    have ha := ex_t e1 ha
    have hb := ex_t e1 hb
    have hc := ex_t e1 hc
    refine q_par (v := .int (r1 * 1 - p1 * 1)) (w := .int (r2 * 1 - p2 * 1)) (ea_cons (by walk_at "ev") (ea_cons (by walk_at "ev") ea_nil)) fun H2 e2 => ?_
    have ha := ex_t e2 ha
    refine s_ret (v := .int (oL (p1, p2, 1) (q1, q2, 1) (r1, r2, 1))) (ev_is (ev_op (x := .int ((q1 * 1 - p1 * 1) * (r2 * 1 - p2 * 1) - (r1 * 1 - p1 * 1) * (q2 * 1 - p2 * 1))) (by walk_at "ev") (ev_op (ev_var rfl) ev_c (rv_ixT ha rfl)) (rv_I (wd (by decide) (by decide)))) ?_) fun H3 e3 => k H3 ((e1.trans e2).trans e3)
    unfold oL
    simp only [Int.mul_one, Int.ediv_one]

def sp_law_turn (K : PySem.W.Frag) : Sp := fun vs H Q _ => ∃ (a b c : Addr) (p q r : Pt), vs = [.ref a, .ref b, .ref c] ∧ PtAt K H a p ∧ PtAt K H b q ∧ PtAt K H c r ∧ Gp p ∧ Gp q ∧ Gp r ∧ Ret (.int (sgn (oL p q r))) H Q
theorem ok_law_turn (M : Txt K mg) : FnOk P w K mg base CX0 2 M.a_law_turn M.fd_law_turn ["_law_a", "_law_b", "_law_c"] (sp_law_turn K) := by
  refine M.F_law_turn.ok sc_law_turn (fun vs H Q E h => ?_) (fun cdv A outer s H vs Q E hr h => ?_)
  · obtain ⟨_, _, _, _, _, _, rfl, _⟩ := h; rfl
  · obtain ⟨a, b, c, p, q, r, rfl, ha, hb, hc, sp, sq, sr, k⟩ := h
    refine ⟨_, (pss_one 
      (ps_ret (pe_call (ok_law_sign M) (hr.mono (by decide)) (by rfl) M.g_law_sign M.F_law_sign.kp M.b_law_sign .nil pass0 (pa_cons (pe_call (ok_law_doubled M) (hr.mono (by decide)) (by rfl) M.g_law_doubled M.F_law_doubled.kp M.b_law_doubled .nil pass0 (pa_cons (pv 0) (pa_cons (pv 1) (pa_cons (pv 2) pa_nil)))) pa_nil)))), ?_⟩
    exact ⟨_, rfl, _, rfl, _, rfl, a, b, c, p, q, r, rfl, ha, hb, hc, sp, sq, sr, fun H1 e1 => ⟨_, rfl, fun H2 e2 => k H2 (e1.trans e2)⟩⟩

def sp_law_det (K : PySem.W.Frag) : Sp := fun vs H Q _ => ∃ (a b c : Addr) (p q r : Pt), vs = [.ref a, .ref b, .ref c] ∧ PtAt K H a p ∧ PtAt K H b q ∧ PtAt K H c r ∧ Sm3 p ∧ Sm3 q ∧ Sm3 r ∧ (-(2 ^ 63) < p.2.2 ∧ p.2.2 < 2 ^ 63) ∧ Ret (.int (mnr p q r)) H Q
theorem ok_law_det (M : Txt K mg) : FnOk P w K mg base CX0 1 M.a_law_det M.fd_law_det ["_law_a", "_law_b", "_law_c"] (sp_law_det K) := by
  refine M.F_law_det.ok sc_law_det (fun vs H Q E h => ?_) (fun cdv A outer s H vs Q E hr h => ?_)
  · obtain ⟨_, _, _, _, _, _, rfl, _⟩ := h; rfl
  · obtain ⟨a, b, c, ⟨p1, p2, p3⟩, ⟨q1, q2, q3⟩, ⟨r1, r2, r3⟩, rfl, ha, hb, hc, sp, sq, sr, sz, q⟩ := h
    unfold Sm3 at sp sq sr
    dsimp only at sp sq sr sz
    refine ⟨_, (pss_cons 
      (ps_set (i := 3) sc_law_det.nd rfl (by first | exact Or.inl rfl | exact Or.inr rfl) (pe_op op_mul (pe_ix (ix_tupK K rfl) (pv 0) pe_int (fun _ _ => rfl)) (pe_op op_sub (pe_op op_mul (pe_ix (ix_tupK K rfl) (pv 1) pe_int (fun _ _ => rfl)) (pe_ix (ix_tupK K rfl) (pv 2) pe_int (fun _ _ => rfl))) (pe_op op_mul (pe_ix (ix_tupK K rfl) (pv 1) pe_int (fun _ _ => rfl)) (pe_ix (ix_tupK K rfl) (pv 2) pe_int (fun _ _ => rfl)))))) (pss_one 
      (ps_ret (pe_op op_add (pe_op op_sub (pv 3) (pe_op op_mul (pe_ix (ix_tupK K rfl) (pv 0) pe_int (fun _ _ => rfl)) (pe_op op_sub (pe_op op_mul (pe_ix (ix_tupK K rfl) (pv 1) pe_int (fun _ _ => rfl)) (pe_ix (ix_tupK K rfl) (pv 2) pe_int (fun _ _ => rfl))) (pe_op op_mul (pe_ix (ix_tupK K rfl) (pv 1) pe_int (fun _ _ => rfl)) (pe_ix (ix_tupK K rfl) (pv 2) pe_int (fun _ _ => rfl)))))) (pe_op op_mul (pe_ix (ix_tupK K rfl) (pv 0) pe_int (fun _ _ => rfl)) (pe_op op_sub (pe_op op_mul (pe_ix (ix_tupK K rfl) (pv 1) pe_int (fun _ _ => rfl)) (pe_ix (ix_tupK K rfl) (pv 2) pe_int (fun _ _ => rfl))) (pe_op op_mul (pe_ix (ix_tupK K rfl) (pv 1) pe_int (fun _ _ => rfl)) (pe_ix (ix_tupK K rfl) (pv 2) pe_int (fun _ _ => rfl))))))))), ?_⟩
    have ha : SqT K H a [.int p1, .int p2, .int p3] := ha
    have hb : SqT K H b [.int q1, .int q2, .int q3] := hb
    have hc : SqT K H c [.int r1, .int r2, .int r3] := hc
    refine q_asg (v := .int (p1 * (q2 * r3 - q3 * r2))) (by walk_at "ev") fun H1 e1 => ?_
    exact s_ret (v := .int (mnr (p1, p2, p3) (q1, q2, q3) (r1, r2, r3))) (Ev.mono e1 (by unfold Vk.mnr; dsimp only; walk_at "ev")) fun H3 e3 => q H3 (e1.trans e3)

theorem sq_le {x m : Int} (h1 : -m ≤ x) (h2 : x ≤ m) : 0 ≤ x * x ∧ x * x ≤ m * m := by
  refine ⟨?_, ?_⟩
  · by_cases h : 0 ≤ x
    · exact Int.mul_nonneg h h
    · have := Int.mul_nonneg (show 0 ≤ -x by omega) (show 0 ≤ -x by omega)
      rwa [Int.neg_mul_neg] at this
  · by_cases h : 0 ≤ x
    · exact Int.mul_le_mul h2 h2 h (by omega)
    · have := Int.mul_le_mul (show -x ≤ m by omega) (show -x ≤ m by omega) (show 0 ≤ -x by omega) (by omega)
      rwa [Int.neg_mul_neg] at this
theorem rL_small {p d : Pt} (hp : Gp p) (hd : Gp d) : Sm3 (rL p d) ∧ (-(2 ^ 63) < (rL p d).2.2 ∧ (rL p d).2.2 < 2 ^ 63) := by
  obtain ⟨h1, h2, _⟩ := hp
  obtain ⟨h3, h4, _⟩ := hd
  unfold Sm3 rL
  dsimp only
  have a := sq_le (x := p.1 - d.1) (m := 2000000) (by omega) (by omega)
  have b := sq_le (x := p.2.1 - d.2.1) (m := 2000000) (by omega) (by omega)
  refine ⟨⟨⟨by omega, by omega⟩, ⟨by omega, by omega⟩⟩, ?_, ?_⟩ <;> omega

def sp_law_in_circle (K : PySem.W.Frag) : Sp := fun vs H Q _ => ∃ (a b c d : Addr) (p q r t : Pt), vs = [.ref a, .ref b, .ref c, .ref d] ∧ PtAt K H a p ∧ PtAt K H b q ∧ PtAt K H c r ∧ PtAt K H d t ∧ Gp p ∧ Gp q ∧ Gp r ∧ Gp t ∧ Ret (.int (cL p q r t)) H Q

theorem ok_law_in_circle (M : Txt K mg) : FnOk P w K mg base CX0 3 M.a_law_in_circle M.fd_law_in_circle ["_law_a", "_law_b", "_law_c", "_law_d"] (sp_law_in_circle K) := by
  refine M.F_law_in_circle.ok sc_law_in_circle (fun vs H Q E h => ?_) (fun cdv A outer s H vs Q E hr h => ?_)
  · obtain ⟨_, _, _, _, _, _, _, _, rfl, _⟩ := h; rfl
  · obtain ⟨a, b, c, d, p, q, r, t, rfl, ha, hb, hc, hd, gp, gq, gr, gt, k⟩ := h
    refine ⟨_, (pss_cons 
      (ps_set (i := 4) sc_law_in_circle.nd rfl (by first | exact Or.inl rfl | exact Or.inr rfl) (pe_lst pa_nil)) (pss_cons 
      (ps_for PassesOwn.never rfl (pi_listK K rfl (pe_lst (pa_cons (pv 0) (pa_cons (pv 1) (pa_cons (pv 2) pa_nil))))) (pg_name (i := 5) sc_law_in_circle.nd rfl (by first | exact Or.inl rfl | exact Or.inr rfl)) (pss_cons 
        (ps_par3 (i := 6) (j := 7) (l := 8) (by rfl) sc_law_in_circle.nd rfl rfl rfl (by decide) (by decide) (by decide) rfl rfl rfl (pa_cons (pe_op op_sub (pe_op op_mul (pe_ix (ix_tupK K rfl) (pv 5) pe_int (fun _ _ => rfl)) (pe_ix (ix_tupK K rfl) (pv 3) pe_int (fun _ _ => rfl))) (pe_op op_mul (pe_ix (ix_tupK K rfl) (pv 3) pe_int (fun _ _ => rfl)) (pe_ix (ix_tupK K rfl) (pv 5) pe_int (fun _ _ => rfl)))) (pa_cons (pe_op op_sub (pe_op op_mul (pe_ix (ix_tupK K rfl) (pv 5) pe_int (fun _ _ => rfl)) (pe_ix (ix_tupK K rfl) (pv 3) pe_int (fun _ _ => rfl))) (pe_op op_mul (pe_ix (ix_tupK K rfl) (pv 3) pe_int (fun _ _ => rfl)) (pe_ix (ix_tupK K rfl) (pv 5) pe_int (fun _ _ => rfl)))) (pa_cons (pe_op op_mul (pe_ix (ix_tupK K rfl) (pv 5) pe_int (fun _ _ => rfl)) (pe_ix (ix_tupK K rfl) (pv 3) pe_int (fun _ _ => rfl))) pa_nil))) (by rfl)) (pss_one 
        (ps_expr (pe_bm PySem.F.plainAttrs_list PySem.F.slot_list_append PySem.F.type_list_append mt_append (pv 4) (pa_cons (pe_tup (pa_cons (pe_op op_mul (pv 6) (pv 8)) (pa_cons (pe_op op_mul (pv 7) (pv 8)) (pa_cons (pe_op op_add (pe_op op_mul (pv 6) (pv 6)) (pe_op op_mul (pv 7) (pv 7))) pa_nil)))) pa_nil)))))) (pss_one 
      (ps_ret (pe_op op_mul (pe_call (ok_law_sign M) (hr.mono (by decide)) (by rfl) M.g_law_sign M.F_law_sign.kp M.b_law_sign .nil pass0 (pa_cons (pe_call (ok_law_det M) (hr.mono (by decide)) (by rfl) M.g_law_det M.F_law_det.kp M.b_law_det .nil pass0 (pa_cons (pe_ix (ix_listK K rfl) (pv 4) pe_int (fun _ _ => rfl)) (pa_cons (pe_ix (ix_listK K rfl) (pv 4) pe_int (fun _ _ => rfl)) (pa_cons (pe_ix (ix_listK K rfl) (pv 4) pe_int (fun _ _ => rfl)) pa_nil)))) pa_nil)) (pe_call (ok_law_turn M) (hr.mono (by decide)) (by rfl) M.g_law_turn M.F_law_turn.kp M.b_law_turn .nil pass0 (pa_cons (pv 0) (pa_cons (pv 1) (pa_cons (pv 2) pa_nil))))))))), ?_⟩
    refine q_asgL (xs := []) (el_lst ea_nil (by decide)) fun R H1 nR e1 hR => ?_
    refine q_forNLn (xs := [.ref a, .ref b, .ref c]) (el_lst (ea_cons (ev_var rfl) (ea_cons (ev_var rfl) (ea_cons (ev_var rfl) ea_nil))) (by show 3 ≤ 100000; decide))
      (fun L m σ H' => Ex H H' ∧ H' L = some (.lst [.ref a, .ref b, .ref c]) ∧ L ≠ R ∧ (∃ qs : List Addr, H' R = some (.lst (qs.map V.ref)) ∧ qs.length = m ∧ ∀ x y, qs[x]? = some y → H' y = some (.tup (pvs (rL (([p, q, r] : List Pt).getD x (0, 0, 1)) t)))) ∧ ∃ x5 x6 x7 x8, σ = [some (.ref a), some (.ref b), some (.ref c), some (.ref d), some (.ref R), x5, x6, x7, x8]) ?_ ?_ ?_ ?_
    · intro L H2 nL e2 hL
      exact ⟨e1.trans e2, hL, (fun z => by rw [z, hR] at nL; cases nL), ⟨[], e2 _ _ hR, rfl, fun x y h => nomatch h⟩, _, _, _, _, rfl⟩
    · rintro L m σ H2 _ ⟨_, h, _⟩
      exact sq_of h
    · rintro L m v σ H2 hv ⟨e2, hL, LR, ⟨qs, hR2, lq, hq⟩, x5, x6, x7, x8, rfl⟩
      have m3 : m < 3 := (List.getElem?_eq_some_iff.1 hv).1
      obtain ⟨u, rfl, hu, gu⟩ : ∃ u, v = .ref u ∧ PtAt K H u (([p, q, r] : List Pt).getD m (0, 0, 1)) ∧ Gp (([p, q, r] : List Pt).getD m (0, 0, 1)) := by
        match m, hv with
        | 0, hv => cases hv; exact ⟨a, rfl, ha, gp⟩
        | 1, hv => cases hv; exact ⟨b, rfl, hb, gq⟩
        | 2, hv => cases hv; exact ⟨c, rfl, hc, gr⟩
      have hu := hu.ex e2
      have hd2 := hd.ex e2
      generalize hpt : ([p, q, r] : List Pt).getD m (0, 0, 1) = pt at hu gu
      obtain ⟨u1, u2, u3⟩ := pt
      obtain ⟨t1, t2, t3⟩ := t
      obtain ⟨k1, k2, k3⟩ := gu
      obtain ⟨j1, j2, j3⟩ := gt
      dsimp only at k1 k2 k3 j1 j2 j3
      subst k3 j3
      have hu : SqT K H2 u [.int u1, .int u2, .int 1] := hu
      have hd2 : SqT K H2 d [.int t1, .int t2, .int 1] := hd2
      refine q_par3 (u := .int (u1 * 1 - t1 * 1)) (v := .int (u2 * 1 - t2 * 1)) (w := .int (1 * 1)) (ea_cons (by walk_at "ev") (ea_cons (by walk_at "ev") (ea_cons (by walk_at "ev") ea_nil))) fun H3 e3 => ?_
      refine s_appU (l := R) (xs := qs.map V.ref) (ys := [.int ((u1 * 1 - t1 * 1) * (1 * 1)), .int ((u2 * 1 - t2 * 1) * (1 * 1)), .int ((u1 * 1 - t1 * 1) * (u1 * 1 - t1 * 1) + (u2 * 1 - t2 * 1) * (u2 * 1 - t2 * 1))]) (e3 _ _ hR2) (ev_var rfl)
        (eu_tup (ea_cons (by walk_at "ev") (ea_cons (by walk_at "ev") (ea_cons (by walk_at "ev") ea_nil))) (by show 3 ≤ 100000; decide)) (by rw [List.length_map]; omega) fun y H4 ny e4 hy => ?_
      have nR' : H R = none := nR
      have e34 := e3.trans e4
      have hR4 := e34 _ _ hR2
      refine ⟨Ex.mut (e2.trans e34) nR', by rw [upd_ne LR]; exact e34 _ _ hL, LR, ⟨qs ++ [y], by rw [upd_same, List.map_append]; rfl, by simp [lq], fun x z hx => ?_⟩, _, _, _, _, rfl⟩
      have zne : ∀ {z : Addr} {ys : List V}, H4 z = some (.tup ys) → z ≠ R := fun h e => by rw [e, hR4] at h; cases h
      by_cases xl : x < qs.length
      · rw [List.getElem?_append_left xl] at hx
        have := e34 _ _ (hq x z hx)
        rw [upd_ne (zne this)]; exact this
      · rw [List.getElem?_append_right (by omega)] at hx
        have x0 : x - qs.length = 0 := by
          have := (List.getElem?_eq_some_iff.1 hx).1
          simp at this; omega
        rw [x0] at hx
        obtain rfl : y = z := Option.some.inj hx
        have : x = m := by omega
        subst this
        rw [upd_ne (zne hy), hy, hpt]
        unfold pvs rL
        simp only [Int.mul_one]
    · rintro L σ H2 ⟨e2, hL, LR, ⟨qs, hR2, lq, hq⟩, x5, x6, x7, x8, rfl⟩
      have lq3 : qs.length = 3 := lq
      match qs, lq3 with
      | [y0, y1, y2], _ =>
        have h0 : PtAt K H2 y0 (rL p t) := st_of (hq 0 y0 rfl)
        have h1 : PtAt K H2 y1 (rL q t) := st_of (hq 1 y1 rfl)
        have h2 : PtAt K H2 y2 (rL r t) := st_of (hq 2 y2 rfl)
        have ix : ∀ (n : Int) (y : Addr), atI ([y0, y1, y2].map V.ref) n = some (.ref y) → Ev (tOp (rIxL K) (tVar 4) (tC (.int n))) [some (.ref a), some (.ref b), some (.ref c), some (.ref d), some (.ref R), x5, x6, x7, x8] H2 (.ref y) := fun n y h => ev_op (ev_var rfl) ev_c (rv_ixL (sq_of hR2) h)
        refine s_ret (v := .int (cL p q r t)) (ev_op (x := .int (sgn (mnr (rL p t) (rL q t) (rL r t)))) (y := .int (sgn (oL p q r))) ?_ ?_ (rv_I ?_)) fun H3 e3 => k H3 (e2.trans e3)
        · refine ev_call (ea_cons (x := .int (mnr (rL p t) (rL q t) (rL r t))) (ev_call (ea_cons (ix 0 y0 rfl) (ea_cons (ix 1 y1 rfl) (ea_cons (ix 2 y2 rfl) ea_nil))) fun H3 e3 Q qq E => ?_) ea_nil) fun H3 e3 Q qq E => ⟨_, rfl, qq⟩
          exact ⟨_, _, _, _, _, _, rfl, h0.ex e3, h1.ex e3, h2.ex e3, (rL_small gp gt).1, (rL_small gq gt).1, (rL_small gr gt).1, (rL_small gp gt).2, qq⟩
        · exact ev_call (ea_cons (ev_var rfl) (ea_cons (ev_var rfl) (ea_cons (ev_var rfl) ea_nil))) fun H3 e3 Q qq E => ⟨_, _, _, _, _, _, rfl, ha.ex (e2.trans e3), hb.ex (e2.trans e3), hc.ex (e2.trans e3), gp, gq, gr, qq⟩
        · have := Vk.sgn_small (mnr (rL p t) (rL q t) (rL r t))
          exact Or.inl ⟨by omega, by omega⟩

def lowP (x y : Int) : Pt := (x / (Int.gcd (Int.gcd x y : Nat) 2 : Nat), y / (Int.gcd (Int.gcd x y : Nat) 2 : Nat), 2 / (Int.gcd (Int.gcd x y : Nat) 2 : Nat))
def sp_law_lowest (K : PySem.W.Frag) : Sp := fun vs H Q _ => ∃ x y : Int, vs = [.int x, .int y, .int 2] ∧ ∀ p H', H p = none → Ex H H' → H' p = some (.tup (pvs (lowP x y))) → Q (.ref p) H'
theorem gcd2 (z : Int) : 0 < Int.gcd z 2 ∧ Int.gcd z 2 ≤ 2 := by
  have h : Int.gcd z 2 ∣ 2 := by
    have := Int.gcd_dvd_right (a := z) (b := 2)
    exact Int.ofNat_dvd.1 this
  exact ⟨Nat.pos_of_dvd_of_pos h (by decide), Nat.le_of_dvd (by decide) h⟩
theorem ok_law_lowest (M : Txt K mg) : FnOk P w K mg base CX0 2 M.a_law_lowest M.fd_law_lowest ["_law_x", "_law_y", "_law_w"] (sp_law_lowest K) := by
  refine M.F_law_lowest.ok sc_law_lowest (fun vs H Q E h => ?_) (fun cdv A outer s H vs Q E hr h => ?_)
  · obtain ⟨_, _, rfl, _⟩ := h; rfl
  · obtain ⟨x, y, rfl, k⟩ := h
    refine ⟨_, (pss_cons 
      (ps_set (i := 3) sc_law_lowest.nd rfl (by first | exact Or.inl rfl | exact Or.inr rfl) (pe_call (ok_law_gcd M) (hr.mono (by decide)) (by rfl) M.g_law_gcd M.F_law_gcd.kp M.b_law_gcd .nil pass0 (pa_cons (pe_call (ok_law_gcd M) (hr.mono (by decide)) (by rfl) M.g_law_gcd M.F_law_gcd.kp M.b_law_gcd .nil pass0 (pa_cons (pv 0) (pa_cons (pv 1) pa_nil))) (pa_cons (pv 2) pa_nil)))) (pss_cons 
      (ps_set (i := 3) sc_law_lowest.nd rfl (by first | exact Or.inl rfl | exact Or.inr rfl) (pe_ifExp (pt_cmpR op_lt (pv 2) pe_int (nomark _)) (pe_op op_sub pe_int (pv 3)) (pv 3))) (pss_one 
      (ps_ret (pe_tup (pa_cons (pe_op op_fdivW (pv 0) (pv 3)) (pa_cons (pe_op op_fdivW (pv 1) (pv 3)) (pa_cons (pe_op op_fdivW (pv 2) (pv 3)) pa_nil)))))))), ?_⟩
    have g2 := gcd2 (Int.gcd x y : Nat)
    refine q_asg (v := .int (Int.gcd (Int.gcd x y : Nat) 2 : Nat)) (ev_call (ea_cons (ev_call (ea_cons (ev_var rfl) (ea_cons (ev_var rfl) ea_nil)) fun H1 e1 Q q E => ⟨x, y, rfl, q⟩) (ea_cons (ev_var rfl) ea_nil)) fun H1 e1 Q q E => ⟨_, _, rfl, q⟩) fun H1 e1 => ?_
    refine q_asg (v := .int (Int.gcd (Int.gcd x y : Nat) 2 : Nat)) (ev_if (b := false) (et_test (ev_op (ev_var rfl) ev_c rv_I0)) (fun h => nomatch h) fun _ => ev_var rfl) fun H2 e2 => ?_
    refine s_retU (xs := pvs (lowP x y)) (eu_tup (ea_cons (ev_op (ev_var rfl) (ev_var rfl) (rv_I (wd (by omega) (by omega)))) (ea_cons (ev_op (ev_var rfl) (ev_var rfl) (rv_I (wd (by omega) (by omega)))) (ea_cons (ev_op (ev_var rfl) (ev_var rfl) (rv_I (wd (by omega) (by omega)))) ea_nil))) (by show 3 ≤ 100000; decide)) fun p H3 np e3 hp => ?_
    exact k p H3 (fresh_back (e1.trans e2) np) ((e1.trans e2).trans e3) hp
end
end Mc
/-! the law's points, in plain words -/
namespace Mc
open PySem PySem.Spec PyProof.Rows L2 Evl
open Vk (Pt Sm sgn dbl mnr rowP sideP Gd oP dP cX cY cZ wE)

abbrev gN (L : List Pt) (i : Nat) : Pt := L.getD i (0, 0, 1)
structure Sites (m : Nat) (L : List Pt) : Prop where
  len : L.length ≤ m
  gp : ∀ p, p ∈ L → Gp p
  nd : L.Nodup
  ho : ∀ i j k, j < i → i < k → k < L.length → oL (gN L i) (gN L j) (gN L k) ≠ 0
  hd : ∀ i j k l, k < j → j < i → i < l → l < L.length → cL (gN L i) (gN L j) (gN L k) (gN L l) ≠ 0
theorem Sites.nil (m : Nat) : Sites m [] := ⟨Nat.zero_le _, fun _ h => (nomatch h), List.nodup_nil, fun _ _ _ _ _ h => (nomatch h), fun _ _ _ _ _ _ _ h => (nomatch h)⟩
theorem gN_old {L : List Pt} {p : Pt} {i : Nat} (h : i < L.length) : gN (L ++ [p]) i = gN L i := by
  unfold gN
  rw [List.getD_eq_getElem?_getD, List.getD_eq_getElem?_getD, List.getElem?_append_left h]
theorem gN_new {L : List Pt} {p : Pt} {i : Nat} (h : i = L.length) : gN (L ++ [p]) i = p := by
  subst h
  unfold gN
  rw [List.getD_eq_getElem?_getD, List.getElem?_append_right (Nat.le_refl _), Nat.sub_self]; rfl
theorem gN_mem {L : List Pt} {i : Nat} (h : i < L.length) : gN L i ∈ L := by
  unfold gN
  rw [List.getD_eq_getElem?_getD, List.getElem?_eq_getElem h]
  exact List.getElem_mem h
theorem Sites.add {m : Nat} {L : List Pt} {p : Pt} (s : Sites m L) (hl : L.length < m) (g : Gp p) (np : p ∉ L) (h : ∀ i j, j < i → i < L.length → oL (gN L i) (gN L j) p ≠ 0 ∧ ∀ k, k < j → cL (gN L i) (gN L j) (gN L k) p ≠ 0) : Sites m (L ++ [p]) := by
  have ll : (L ++ [p]).length = L.length + 1 := by simp
  refine ⟨by omega, fun q hq => ?_, ?_, fun i j k h1 h2 h3 => ?_, fun i j k l h1 h2 h3 h4 => ?_⟩
  · rcases List.mem_append.1 hq with hq | hq
    · exact s.gp q hq
    · rw [List.mem_singleton.1 hq]; exact g
  · exact List.nodup_append.2 ⟨s.nd, by simp, fun a ha b hb e => np (by rw [← List.mem_singleton.1 hb, ← e]; exact ha)⟩
  · rw [ll] at h3
    rw [gN_old (i := i) (by omega), gN_old (i := j) (by omega)]
    by_cases e : k < L.length
    · rw [gN_old e]; exact s.ho i j k h1 h2 e
    · rw [gN_new (by omega)]; exact (h i j h1 (by omega)).1
  · rw [ll] at h4
    rw [gN_old (i := i) (by omega), gN_old (i := j) (by omega), gN_old (i := k) (by omega)]
    by_cases e : l < L.length
    · rw [gN_old e]; exact s.hd i j k l h1 h2 h3 e
    · rw [gN_new (by omega)]; exact (h i j h2 (by omega)).2 k h1

def dpt (u : Nat) : Pt := (11 * (u : Int) - (u : Int) * (u : Int), (u : Int) * (u : Int) * (u : Int) - 60 * (u : Int), 1)
instance (p : Pt) : Decidable (Gp p) := by unfold Gp; infer_instance
theorem dpt_gp : ∀ u, u < 61 → Gp (dpt u) := by decide +kernel
def Cover (L : List Pt) (p : Pt) : Prop := 3 ≤ L.length ∨ (∃ a b, L = [a, b] ∧ oL b a p = 0) ∨ L = [p]
theorem oL_a (a b : Pt) : oL b a a = 0 := by unfold oL; grind
theorem oL_b (a b : Pt) : oL b a b = 0 := by unfold oL; grind
theorem Cover.add {L : List Pt} {p q : Pt} (h : Cover L q) : Cover (L ++ [p]) q := by
  have ll : (L ++ [p]).length = L.length + 1 := by simp
  rcases h with h | ⟨a, b, rfl, h⟩ | rfl
  · exact .inl (by omega)
  · exact .inl (by simp)
  · exact .inr (.inl ⟨q, p, rfl, oL_a q p⟩)
theorem Cover.new (L : List Pt) (p : Pt) : Cover (L ++ [p]) p := by
  match L with
  | [] => exact .inr (.inr rfl)
  | [a] => exact .inr (.inl ⟨a, p, rfl, oL_b a p⟩)
  | a :: b :: t => exact .inl (by simp)
def Why (m : Nat) (L : List Pt) (p : Pt) : Prop := L.length = m ∨ p ∈ L ∨ ∃ i j, j < i ∧ i < L.length ∧ (oL (gN L i) (gN L j) p = 0 ∨ ∃ k, k < j ∧ cL (gN L i) (gN L j) (gN L k) p = 0)
theorem Cover.bad {m : Nat} {L : List Pt} {p : Pt} (m3 : 3 ≤ m) (h : Why m L p) : Cover L p := by
  rcases h with h | h | ⟨i, j, h1, h2, h⟩
  · exact .inl (by omega)
  · match L, h with
    | [a], h =>
      rw [List.mem_singleton.1 h]; exact .inr (.inr rfl)
    | [a, b], h =>
      refine .inr (.inl ⟨a, b, rfl, ?_⟩)
      simp at h
      rcases h with rfl | rfl
      · exact oL_a _ _
      · exact oL_b _ _
    | a :: b :: c :: t, h => exact .inl (by simp)
  · by_cases l3 : 3 ≤ L.length
    · exact .inl l3
    · obtain rfl : i = 1 := by omega
      obtain rfl : j = 0 := by omega
      have l2 : L.length = 2 := by omega
      match L, l2 with
      | [a, b], _ =>
        rcases h with h | ⟨k, hk, _⟩
        · exact .inr (.inl ⟨a, b, rfl, h⟩)
        · exact absurd hk (Nat.not_lt_zero _)
theorem three {L : List Pt} {n : Nat} (n9 : 9 ≤ n) (nd : L.Nodup) (gp : ∀ p, p ∈ L → Gp p) (h : ∀ u, n ≤ u → u < n + 40 → Cover L (dpt u)) : 3 ≤ L.length := by
  refine Classical.byContradiction fun no => ?_
  have h0 := (h n (by omega) (by omega)).resolve_left no
  have h1 := (h (n + 1) (by omega) (by omega)).resolve_left no
  have h2 := (h (n + 2) (by omega) (by omega)).resolve_left no
  have h3 := (h (n + 3) (by omega) (by omega)).resolve_left no
  rcases h0 with ⟨a, b, rfl, z0⟩ | rfl
  · have c : ∀ {p}, ((∃ a' b', [a, b] = [a', b'] ∧ oL b' a' p = 0) ∨ [a, b] = [p]) → oL b a p = 0 := by
      rintro p (⟨a', b', e, z⟩ | e)
      · cases e; exact z
      · cases e
    have z1 := c h1
    have z2 := c h2
    have z3 := c h3
    have ga := gp a (by simp)
    have gb := gp b (by simp)
    have ab : a ≠ b := by
      intro e; subst e; simp at nd
    obtain ⟨a1, a2, a3⟩ := a
    obtain ⟨b1, b2, b3⟩ := b
    obtain ⟨_, _, rfl⟩ := ga
    obtain ⟨_, _, rfl⟩ := gb
    unfold oL dpt at z0 z1 z2 z3
    dsimp only at z0 z1 z2 z3
    have c1 : ((n + 1 : Nat) : Int) = (n : Int) + 1 := by omega
    have c2 : ((n + 2 : Nat) : Int) = (n : Int) + 2 := by omega
    have c3 : ((n + 3 : Nat) : Int) = (n : Int) + 3 := by omega
    rw [c1] at z1
    rw [c2] at z2
    rw [c3] at z3
    generalize (n : Int) = t at z0 z1 z2 z3
    have e6 : 6 * (a1 - b1) = 0 := by grind
    have e1 : a1 = b1 := by omega
    subst e1
    have e2 : 2 * (a2 - b2) = 0 := by grind
    have e3 : a2 = b2 := by omega
    exact ab (by rw [e3])
  · rcases h1 with ⟨a, b, e, _⟩ | e
    · cases e
    · have e' := (List.cons.inj e).1
      have e2 : (dpt n).1 = (dpt (n + 1)).1 := by rw [e']
      unfold dpt at e2
      dsimp only at e2
      have c1 : ((n + 1 : Nat) : Int) = (n : Int) + 1 := by omega
      rw [c1] at e2
      have e3 : 2 * (n : Int) = 10 := by grind
      omega

theorem oP_oL {a b c : Pt} (ha : a.2.2 = 1) (hb : b.2.2 = 1) (hc : c.2.2 = 1) : oP a b c = 4 * oL a b c := by
  unfold oP oL cX cY wE
  rw [if_pos ha, if_pos hb, if_pos hc]; grind
theorem dP_cL {a b c d : Pt} (ha : a.2.2 = 1) (hb : b.2.2 = 1) (hc : c.2.2 = 1) (hd : d.2.2 = 1) (h : cL a b c d ≠ 0) : dP a b c d ≠ 0 := by
  have one : (1 : Int) ∣ 1 := Int.dvd_refl 1
  obtain ⟨e, e0, k⟩ := Vk.mnr_dP (W := 1) (.inl rfl) (.inl ha) (.inl hb) (.inl hc) (.inl hd) (by rw [ha]; exact one) (by rw [hb]; exact one) (by rw [hc]; exact one) (by rw [hd]; exact one)
  have r : ∀ p : Pt, p.2.2 = 1 → rowP 1 p d = rL p d := fun p hp => by
    unfold Vk.rowP rL
    rw [hp, hd]
    simp only [show (1 : Int) / 1 = 1 from rfl, Int.mul_one]
  rw [r a ha, r b hb, r c hc] at k
  intro z
  rw [z] at k
  have : mnr (rL a d) (rL b d) (rL c d) = 0 := (Int.mul_eq_zero.1 (show e * mnr (rL a d) (rL b d) (rL c d) = 0 by omega)).resolve_left (by omega)
  apply h
  unfold cL
  rw [this]
  show sgn 0 * _ = 0
  exact Int.zero_mul _
theorem oP_sw (a b c : Pt) : oP b a c = - oP a b c := by unfold oP; grind
theorem dP_sw (a b c d : Pt) : dP c b a d = - dP a b c d := by unfold dP oP; grind
theorem Sites.o {m : Nat} {L : List Pt} (s : Sites m L) {i j k : Nat} (h1 : i < j) (h2 : j < k) (h3 : k < L.length) : oP (gN L i) (gN L j) (gN L k) ≠ 0 := by
  have w : ∀ i, i < L.length → (gN L i).2.2 = 1 := fun i hi => (s.gp _ (gN_mem hi)).2.2
  rw [oP_sw, oP_oL (w j (by omega)) (w i (by omega)) (w k h3)]
  have := s.ho j i k h1 h2 h3
  omega
theorem Sites.d {m : Nat} {L : List Pt} (s : Sites m L) {i j k l : Nat} (h1 : i < j) (h2 : j < k) (h3 : k < l) (h4 : l < L.length) : dP (gN L i) (gN L j) (gN L k) (gN L l) ≠ 0 := by
  have w : ∀ i, i < L.length → (gN L i).2.2 = 1 := fun i hi => (s.gp _ (gN_mem hi)).2.2
  rw [dP_sw]
  have := dP_cL (w k (by omega)) (w j (by omega)) (w i (by omega)) (w l h4) (s.hd k j i l h1 h2 h3 h4)
  omega
theorem Sites.gd1 {m : Nat} {L : List Pt} (s : Sites m L) (m7 : m ≤ 7) (l3 : 3 ≤ L.length) : Gd L := by
  refine ⟨l3, Nat.le_trans s.len m7, fun p hp => ?_, fun p hp => ?_, fun i j k h1 h2 h3 => s.o h1 h2 h3, fun i j k l h1 h2 h3 h4 => s.d h1 h2 h3 h4⟩
  · obtain ⟨⟨a1, a2⟩, ⟨b1, b2⟩, w⟩ := s.gp p hp
    exact ⟨⟨by omega, by omega⟩, ⟨by omega, by omega⟩, .inl w⟩
  · rw [(s.gp p hp).2.2]
    exact Int.gcd_one
def lowQ (p : Pt) : Pt := lowP p.1 p.2.1
theorem lowP_cases (x y : Int) : (Int.gcd (Int.gcd x y : Nat) 2 = 1 ∧ lowP x y = (x, y, 2)) ∨ (∃ a b, x = 2 * a ∧ y = 2 * b ∧ lowP x y = (a, b, 1)) := by
  have g2 := gcd2 (Int.gcd x y : Nat)
  by_cases h : Int.gcd (Int.gcd x y : Nat) 2 = 1
  · refine .inl ⟨h, ?_⟩
    unfold lowP
    rw [h]
    show (x / 1, y / 1, (2 : Int) / 1) = (x, y, 2)
    rw [Int.ediv_one, Int.ediv_one, Int.ediv_one]
  · have e : Int.gcd (Int.gcd x y : Nat) 2 = 2 := by omega
    have d : (2 : Int) ∣ (Int.gcd x y : Nat) := by
      have := Int.gcd_dvd_left (a := ((Int.gcd x y : Nat) : Int)) (b := 2)
      rw [e] at this; exact this
    obtain ⟨a, ha⟩ := Int.dvd_trans d (Int.gcd_dvd_left (a := x) (b := y))
    obtain ⟨b, hb⟩ := Int.dvd_trans d (Int.gcd_dvd_right (a := x) (b := y))
    refine .inr ⟨a, b, ha, hb, ?_⟩
    unfold lowP
    rw [e]
    show (x / 2, y / 2, (2 : Int) / 2) = (a, b, 1)
    rw [show x / 2 = a by omega, show y / 2 = b by omega]; rfl
theorem lowP_c (x y : Int) : cX (lowP x y) = x ∧ cY (lowP x y) = y := by
  rcases lowP_cases x y with ⟨_, e⟩ | ⟨a, b, rfl, rfl, e⟩ <;> rw [e] <;> unfold cX cY wE
  · exact ⟨Int.mul_one _, Int.mul_one _⟩
  · exact ⟨Int.mul_comm _ _, Int.mul_comm _ _⟩
theorem c_one {p : Pt} (h : p.2.2 = 1) : cX p = p.1 * 2 ∧ cY p = p.2.1 * 2 := by
  unfold cX cY wE
  rw [if_pos h]; exact ⟨rfl, rfl⟩
theorem low_oP {a b c : Pt} (ha : a.2.2 = 1) (hb : b.2.2 = 1) (hc : c.2.2 = 1) : oP a b c = 4 * oP (lowQ a) (lowQ b) (lowQ c) := by
  unfold oP lowQ
  simp only [(lowP_c _ _).1, (lowP_c _ _).2, (c_one ha).1, (c_one ha).2, (c_one hb).1, (c_one hb).2, (c_one hc).1, (c_one hc).2]
  grind
theorem low_dP {a b c d : Pt} (ha : a.2.2 = 1) (hb : b.2.2 = 1) (hc : c.2.2 = 1) (hd : d.2.2 = 1) : dP a b c d = 16 * dP (lowQ a) (lowQ b) (lowQ c) (lowQ d) := by
  unfold dP cZ oP lowQ
  simp only [(lowP_c _ _).1, (lowP_c _ _).2, (c_one ha).1, (c_one ha).2, (c_one hb).1, (c_one hb).2, (c_one hc).1, (c_one hc).2, (c_one hd).1, (c_one hd).2]
  grind
theorem Sites.gd2 {m : Nat} {L : List Pt} (s : Sites m L) (m7 : m ≤ 7) (l3 : 3 ≤ L.length) : Gd (L.map lowQ) := by
  have w : ∀ i, i < L.length → (gN L i).2.2 = 1 := fun i hi => (s.gp _ (gN_mem hi)).2.2
  have ll : (L.map lowQ).length = L.length := List.length_map _
  have ge : ∀ i, i < L.length → gN (L.map lowQ) i = lowQ (gN L i) := fun i hi => by
    unfold gN
    rw [List.getD_eq_getElem?_getD, List.getD_eq_getElem?_getD, List.getElem?_map, List.getElem?_eq_getElem hi]; rfl
  refine ⟨by omega, by rw [ll]; exact Nat.le_trans s.len m7, fun p hp => ?_, fun p hp => ?_, fun i j k h1 h2 h3 => ?_, fun i j k l h1 h2 h3 h4 => ?_⟩
  · obtain ⟨q, hq, rfl⟩ := List.mem_map.1 hp
    obtain ⟨⟨a1, a2⟩, ⟨b1, b2⟩, _⟩ := s.gp q hq
    unfold lowQ
    rcases lowP_cases q.1 q.2.1 with ⟨_, e⟩ | ⟨a, b, x, y, e⟩ <;> rw [e]
    · exact ⟨⟨by dsimp only; omega, by dsimp only; omega⟩, ⟨by dsimp only; omega, by dsimp only; omega⟩, .inr rfl⟩
    · exact ⟨⟨by dsimp only; omega, by dsimp only; omega⟩, ⟨by dsimp only; omega, by dsimp only; omega⟩, .inl rfl⟩
  · obtain ⟨q, hq, rfl⟩ := List.mem_map.1 hp
    unfold lowQ
    rcases lowP_cases q.1 q.2.1 with ⟨g, e⟩ | ⟨a, b, x, y, e⟩ <;> rw [e]
    · exact g
    · exact Int.gcd_one
  · rw [ll] at h3
    show oP (gN _ i) (gN _ j) (gN _ k) ≠ 0
    rw [ge i (by omega), ge j (by omega), ge k h3]
    have a := s.o h1 h2 h3
    rw [low_oP (w i (by omega)) (w j (by omega)) (w k h3)] at a
    omega
  · rw [ll] at h4
    show dP (gN _ i) (gN _ j) (gN _ k) (gN _ l) ≠ 0
    rw [ge i (by omega), ge j (by omega), ge k (by omega), ge l h4]
    have a := s.d h1 h2 h3 h4
    rw [low_dP (w i (by omega)) (w j (by omega)) (w k (by omega)) (w l h4)] at a
    omega
end Mc
/-! the law's points, drawn -/
namespace Mc
open PySem PySem.Spec PyProof.Rows L2 Evl
open Vk (Pt Sm sgn dbl mnr rowP sideP Gd oP dP)

theorem lD_shaped (ns : List Int) : SeqAt.shaped (.list (ns.map PyData.int)) = true := by
  unfold SeqAt.shaped
  refine Bool.and_eq_true_iff.2 ⟨by simp only [PyData.canLay0, ints_lay], decide_eq_true ?_⟩
  simp only [PyData.depth, ints_depth]; omega
theorem r_if {tt : TT} {ta tb : TE} {b : Bool} {σ : L2.St} {H : Hp} {Q : VK} (h : EvT tt σ H b) (h1 : b = true → ∀ H1, Ex H H1 → ta σ H1 Q) (h2 : b = false → ∀ H1, Ex H H1 → tb σ H1 Q) : tIf tt ta tb σ H Q := h H (Ex.refl H) _ fun H1 e => by
  cases b with
  | true => exact h1 rfl H1 e
  | false => exact h2 rfl H1 e
theorem r_ifT {te : TE} {tu tw : TS} {D : Ends} {σ : L2.St} {H : Hp} (h : te σ H fun x H1 => ∃ k, x = .bl k ∧ if k = true then tu D σ H1 else tw D σ H1) : tIfS (tTest te) tu tw D σ H := h

/-- tuples of numbers, just laid -/
def PtsU (H : Hp) (fs : List (Addr × Pt)) : Prop := ∀ q, q ∈ fs → H q.1 = some (.tup (pvs q.2))
theorem PtsU.l {K : PySem.W.Frag} {H : Hp} {fs : List (Addr × Pt)} (h : PtsU H fs) : PtsL K H fs := fun q hq => st_of (h q hq)
theorem PtsU.ex {H H' : Hp} {fs : List (Addr × Pt)} (e : Ex H H') (h : PtsU H fs) : PtsU H' fs := fun q hq => e _ _ (h q hq)
theorem PtsU.exB {H H' : Hp} {r : Addr} {xs : List V} {fs : List (Addr × Pt)} (b : ExB r H H') (hr : H r = some (.lst xs)) (h : PtsU H fs) : PtsU H' fs := fun q hq => b.tup hr (h q hq)
theorem row_neF {K : PySem.W.Frag} {H : Hp} {r F : Addr} {g : Addr × List Int} {fs : List (Addr × Pt)} (h : RowA K H r g) (hF : H F = some (.lst (refs fs))) : F ≠ r := by
  obtain ⟨c, x, d, hr, _⟩ := h
  intro z
  rw [z, hr] at hF
  have := HO.lst.inj (Option.some.inj hF)
  match fs, this with
  | [_], h => cases (List.cons.inj h).2
  | _ :: _ :: _, h => cases (List.cons.inj (List.cons.inj h).2).1
theorem in_pts (L : List (Addr × Pt)) (p : Pt) : decide (pD p ∈ L.map fun q => pD q.2) = decide (p ∈ pts L) := by
  refine decide_eq_decide.2 ⟨fun h => ?_, fun h => ?_⟩
  · obtain ⟨q, hq, e⟩ := List.mem_map.1 h
    exact List.mem_map.2 ⟨q, hq, pD_inj e⟩
  · obtain ⟨q, hq, e⟩ := List.mem_map.1 h
    exact List.mem_map.2 ⟨q, hq, by rw [e]⟩
theorem gN_pts {L : List (Addr × Pt)} {i : Nat} {p : Addr × Pt} (h : L[i]? = some p) : gN (pts L) i = p.2 := pt_get h
/-- one look at a point and two found -/
def OKd (L : List Pt) (pt : Pt) (i j : Nat) : Prop := oL (gN L i) (gN L j) pt ≠ 0 ∧ ∀ k, k < j → cL (gN L i) (gN L j) (gN L k) pt ≠ 0

section
variable {P : Program} {w : World} {K : PySem.W.Frag} {mg : Str → Option Value} {base : Heap}

def sp_law_sites (K : PySem.W.Frag) : Sp := fun vs H Q _ => ∃ (r : Addr) (g : Addr × List Int), vs = [.ref r, .int 3, .int 7] ∧ RowA K H r g ∧ ∀ p H' ps, PtsT K H' p ps → Gd (pts ps) → Q (.ref p) H'

theorem ok_law_sites (M : Txt K mg) : FnOk P w K mg base CX0 4 M.a_law_sites M.fd_law_sites ["_law_row", "_law_least", "_law_most"] (sp_law_sites K) := by
  refine M.F_law_sites.ok sc_law_sites (fun vs H Q E h => ?_) (fun cdv A outer s H vs Q E hr h => ?_)
  · obtain ⟨_, _, rfl, _⟩ := h; rfl
  · obtain ⟨r, g, rfl, row, k⟩ := h
    have hu : (A.deeper (envOfC (Str.ofString "_law_sites") (defScope s_law_sites) s.heap.objs.size M.a_law_sites cdv)).units + 65 < cLine := by have := hr.un; omega
    refine ⟨_, (pss_cons 
      (ps_asg (pe_tup (pa_cons (pe_lst pa_nil) (pa_cons (pe_op op_add (pv 1) (pe_call (ok_law_taken M) (hr.mono (by decide)) (by rfl) M.g_law_taken M.F_law_taken.kp M.b_law_taken .nil pass0 (pa_cons (pv 0) (pa_cons (pe_op op_add (pe_op op_sub (pv 2) (pv 1)) pe_int) pa_nil)))) (pa_cons (pe_call (ok_law_pick M) (hr.mono (by decide)) (by rfl) M.g_law_pick M.F_law_pick.kp M.b_law_pick .nil pass0 (pa_cons (pv 0) (pa_cons (pe_lst (pa_cons pe_int (pa_cons pe_int (pa_cons pe_int pa_nil)))) pa_nil))) pa_nil)))) (pg_tupK (n := 3) K rfl rfl (pgs_cons (pg_name (i := 3) sc_law_sites.nd rfl (by first | exact Or.inl rfl | exact Or.inr rfl)) (pgs_cons (pg_name (i := 4) sc_law_sites.nd rfl (by first | exact Or.inl rfl | exact Or.inr rfl)) (pgs_cons (pg_name (i := 5) sc_law_sites.nd rfl (by first | exact Or.inl rfl | exact Or.inr rfl)) pgs_nil))))) (pss_cons 
      (ps_for PassesOwn.never rfl (pi_range1 (by rfl) M.n_range (pa_cons (pe_op op_add (pe_op op_mul pe_int (pv 4)) pe_int) pa_nil)) (pg_name (i := 6) sc_law_sites.nd rfl (by first | exact Or.inl rfl | exact Or.inr rfl)) (pss_cut 
        (ps_set (i := 7) sc_law_sites.nd rfl (by first | exact Or.inl rfl | exact Or.inr rfl) (pe_ifExp (pt_cmpR op_lt (pv 6) (pe_op op_mul pe_int (pv 4)) (nomark _)) (pe_call (ok_law_grid M) (hr.mono (by decide)) (by rfl) M.g_law_grid M.F_law_grid.kp M.b_law_grid .nil pass0 (pa_cons (pv 0) (pa_cons (pv 5) pa_nil))) (pe_tup (pa_cons (pe_op op_sub (pe_op op_mul pe_int (pv 6)) (pe_op op_mul (pv 6) (pv 6))) (pa_cons (pe_op op_sub (pe_op op_mul (pe_op op_mul (pv 6) (pv 6)) (pv 6)) (pe_op op_mul pe_int (pv 6))) (pa_cons pe_int pa_nil)))))) (pss_cons 
        (ps_set (i := 8) sc_law_sites.nd rfl (by first | exact Or.inl rfl | exact Or.inr rfl) (pe_or (pe_cmpR (op_inDK K rfl hu) (pv 7) (pv 3) (by rfl)) (pe_one (pe_cmpR op_eq (pe_callB (call_lenK K rfl) (by rfl) M.n_len (by decide +kernel) (pa_cons (pv 3) pa_nil)) (pv 4) (nomark _))))) (pss_cons 
        (ps_for PassesOwn.never rfl (pi_range1 (by rfl) M.n_range (pa_cons (pe_ifExp (pt_not (pt_val (pv 8))) (pe_callB (call_lenK K rfl) (by rfl) M.n_len (by decide +kernel) (pa_cons (pv 3) pa_nil)) pe_int) pa_nil)) (pg_name (i := 9) sc_law_sites.nd rfl (by first | exact Or.inl rfl | exact Or.inr rfl)) (pss_one 
          (ps_for PassesOwn.never rfl (pi_range1 (by rfl) M.n_range (pa_cons (pv 9) pa_nil)) (pg_name (i := 10) sc_law_sites.nd rfl (by first | exact Or.inl rfl | exact Or.inr rfl)) (pss_cons 
            (ps_set (i := 8) sc_law_sites.nd rfl (by first | exact Or.inl rfl | exact Or.inr rfl) (pe_or (pv 8) (pe_one (pe_cmpR op_eq (pe_call (ok_law_turn M) (hr.mono (by decide)) (by rfl) M.g_law_turn M.F_law_turn.kp M.b_law_turn .nil pass0 (pa_cons (pe_ix (ix_listK K rfl) (pv 3) (pv 9) (fun _ _ => rfl)) (pa_cons (pe_ix (ix_listK K rfl) (pv 3) (pv 10) (fun _ _ => rfl)) (pa_cons (pv 7) pa_nil)))) pe_int (nomark _))))) (pss_cons 
            (ps_setLc (i := 11) (own := [("_law_k", 12)]) (by rfl) sc_law_sites.nd rfl rfl (sw_true rfl rfl rfl (by decide +kernel)) (pi_range1 (by rfl) M.n_range (pa_cons (pv 10) pa_nil)) (blkOk_by (own := [("_law_k", 12)]) (N := N_law_sites) (sc := defScope s_law_sites) (by decide +kernel)) (fun _ _ _ _ _ => (pg_name (i := 12) sc_law_sites.nd rfl (by first | exact Or.inl rfl | exact Or.inr rfl))) (fun _ _ _ _ _ => (pts_one (PW.pt (pw_and (pt_not (pt_val (pv 8))) (pw_and1 (pt_cmpR op_eq (pe_call (ok_law_in_circle M) (hr.mono (by decide)) (by rfl) M.g_law_in_circle M.F_law_in_circle.kp M.b_law_in_circle .nil pass0 (pa_cons (pe_ix (ix_listK K rfl) (pv 3) (pv 9) (fun _ _ => rfl)) (pa_cons (pe_ix (ix_listK K rfl) (pv 3) (pv 10) (fun _ _ => rfl)) (pa_cons (pe_ix (ix_listK K rfl) (pv 3) (pv 12) (fun _ _ => rfl)) (pa_cons (pv 7) pa_nil))))) pe_int (nomark _))))))) (fun _ _ _ _ _ => (pv 12))) (pss_one 
            (ps_set (i := 8) sc_law_sites.nd rfl (by first | exact Or.inl rfl | exact Or.inr rfl) (pe_or (pv 8) (pe_one (pe_cmpR (op_neDK K rfl (Nat.lt_trans (Nat.lt_succ_self _) hu)) (pv 11) (pe_lst pa_nil) (nomark _))))))))))) (pss_one 
        (ps_if (pt_not (pt_val (pv 8))) (pss_one 
          (ps_expr (pe_bm PySem.F.plainAttrs_list PySem.F.slot_list_append PySem.F.type_list_append mt_append (pv 3) (pa_cons (pv 7) pa_nil)))) pss_nil)))))) (pss_cut 
      (ps_if (pt_cmpR op_eq (pe_call (ok_law_taken M) (hr.mono (by decide)) (by rfl) M.g_law_taken M.F_law_taken.kp M.b_law_taken .nil pass0 (pa_cons (pv 0) (pa_cons pe_int pa_nil))) pe_int (nomark _)) (pss_one 
        (ps_set (i := 3) sc_law_sites.nd rfl (by first | exact Or.inl rfl | exact Or.inr rfl) (pe_lc (own := [("_law_p", 7)]) (by rfl) sc_law_sites.nd (pi_listK K rfl (pv 3)) (blkOk_by (own := [("_law_p", 7)]) (N := N_law_sites) (sc := defScope s_law_sites) (by decide +kernel)) (fun _ _ _ _ _ => (pg_name (i := 7) sc_law_sites.nd rfl (by first | exact Or.inl rfl | exact Or.inr rfl))) (fun _ _ _ _ _ => pts_nil) (fun _ _ _ _ _ => (pe_call (ok_law_lowest M) (hr.mono (by decide)) (by rfl) M.g_law_lowest M.F_law_lowest.kp M.b_law_lowest .nil pass0 (pa_cons (pe_ix (ix_tupK K rfl) (pv 7) pe_int (fun _ _ => rfl)) (pa_cons (pe_ix (ix_tupK K rfl) (pv 7) pe_int (fun _ _ => rfl)) (pa_cons pe_int pa_nil)))))))) pss_nil) (pss_one 
      (ps_ret (pe_callTy (call_tupleK K rfl) (by rfl) M.n_tuple (by decide +kernel) (pa_cons (pv 3) pa_nil))))))), ?_⟩
    refine r_qG (r_tup (r_cons (r_lst (r_nil ⟨Nat.zero_le _, fun F nF => ?_⟩))))
    have rowF := row.ex (Ex.new (o := HO.lst []) nF)
    have hsF : g.1 ≠ F ∨ ∀ H', SqL K H' g.1 (g.2.map V.int) := by
      obtain ⟨_, _, _, _, hs, _⟩ := row
      rcases hs with (h | ⟨o, h⟩) | h
      · exact .inl fun z => by rw [z, nF] at h; cases h
      · exact .inl fun z => by rw [z, nF] at h; cases h
      · exact .inr fun H' => .inr h
    have hF1 : (upd H F (.lst [])) F = some (.lst (refs [])) := upd_same
    generalize upd H F (.lst []) = H1 at rowF hF1
    refine r_cons (r_op (r_of (ev_var rfl) fun H2 e2 => r_call (r_cons (r_of (ev_var rfl) fun H3 e3 => r_cons (r_of (ev_op (ev_op (ev_var rfl) (ev_var rfl) rv_I0) ev_c rv_I0) fun H4 e4 => r_nil ?_)))))
    have e14 := (e2.trans e3).trans e4
    refine ⟨r, 7 - 3 + 1, g, rfl, by decide, by decide, rowF.ex e14, fun n H5 b5 row5 n0 n1 => ⟨3, n, rfl, rfl, ?_⟩⟩
    have hF5 := b5 _ _ (row_neF rowF hF1) (e14 _ _ hF1)
    refine r_cons (r_call (r_cons (r_of (ev_var rfl) fun H6 e6 => r_cons (r_lst (r_cons (r_of ev_c fun H7 e7 => r_cons (r_of ev_c fun H8 e8 => r_cons (r_of ev_c fun H9 e9 => r_nil ⟨by show 3 ≤ sizeLine; decide, fun l nl => r_nil ?_⟩))))))))
    have e59 := (e6.trans e7).trans (e8.trans e9)
    have e10 := e59.trans (Ex.new (o := HO.lst [.int 3, .int 5, .int 9]) nl)
    refine ⟨r, l, [3, 5, 9], g, rfl, upd_same, by decide, by decide, row5.ex e10, fun z H11 b11 row11 hz => r_nil ⟨by show 3 ≤ sizeLine; decide, fun t nt => ?_⟩⟩
    have hF11 := b11 _ _ (row_neF (row5.ex e10) (e10 _ _ hF5)) (e10 _ _ hF5)
    have e12 := Ex.new (o := HO.tup [.ref F, .int (3 + n), .int z]) nt
    refine g_triple (st_of upd_same) ?_
    have hF0 := e12 _ _ hF11
    have row0 := row11.ex e12
    generalize upd H11 t (.tup [.ref F, .int (3 + n), .int z]) = H0 at hF0 row0
    obtain ⟨m, em⟩ : ∃ m : Nat, 3 + n = (m : Int) := ⟨(3 + n).toNat, by omega⟩
    show tSeq _ _ _ [some (.ref r), some (.int 3), some (.int 7), some (.ref F), some (.int (3 + n)), some (.int z), none, none, none, none, none, none, none] H0
    rw [em]
    have m3 : 3 ≤ m := by omega
    have m7 : m ≤ 7 := by omega
    have z9 : 0 ≤ z ∧ z ≤ 100 := by
      simp only [List.mem_cons, List.not_mem_nil, or_false] at hz
      omega
    clear em n0 n1 hz
    refine q_forR1 (n := 3 * (m : Int) + 40) (ea_cons (ev_op (ev_op ev_c (ev_var rfl) (rv_I (by exact Or.inl ⟨by decide, by decide⟩))) ev_c rv_I0) ea_nil) (by omega)
      (fun t σ H' => RowA K H' r g ∧ (∃ fs, H' F = some (.lst (refs fs)) ∧ PtsU H' fs ∧ Sites m (pts fs) ∧ ∀ u, 3 * m ≤ u → u < t → Cover (pts fs) (dpt u)) ∧ ∃ x6 x7 x8 x9 x10 x11 x12, σ = [some (.ref r), some (.int 3), some (.int 7), some (.ref F), some (.int (m : Int)), some (.int z), x6, x7, x8, x9, x10, x11, x12]) ?_ ?_ ?_
    · intro H1 e1
      exact ⟨row0.ex e1, ⟨[], e1 _ _ hF0, (fun q hq => nomatch hq), Sites.nil m, fun u h1 h2 => absurd h2 (Nat.not_lt_zero _)⟩, _, _, _, _, _, _, _, rfl⟩
    · rintro t σ H1 ht ⟨row1, ⟨fs, hF1, pu1, st, cov⟩, x6, x7, x8, x9, x10, x11, x12, rfl⟩
      have FR := row_neF row1 hF1
      have t60 : t < 61 := by omega
      refine q_cut (M := fun σ' H' => RowA K H' r g ∧ H' F = some (.lst (refs fs)) ∧ PtsU H' fs ∧ ∃ q pt, H' q = some (.tup (pvs pt)) ∧ Gp pt ∧ (3 * m ≤ t → pt = dpt t) ∧
        σ' = [some (.ref r), some (.int 3), some (.int 7), some (.ref F), some (.int (m : Int)), some (.int z), some (.int (t : Int)), some (.ref q), x8, x9, x10, x11, x12]) ?_ ?_
      · refine r_asg (r_if (b := decide ((t : Int) < 3 * (m : Int))) (et_test (ev_op (ev_var rfl) (ev_op ev_c (ev_var rfl) (rv_I (by exact Or.inl ⟨by decide, by decide⟩))) rv_I0)) (fun hb H2 e2 => ?_) (fun hb H2 e2 => ?_))
        · have hb' := of_decide_eq_true hb
          refine r_call (r_cons (r_of (ev_var rfl) fun H3 e3 => r_cons (r_of (ev_var rfl) fun H4 e4 => r_nil ?_)))
          have e14 := (e2.trans e3).trans e4
          obtain ⟨xs, hrl⟩ := (row1.ex e14).lst
          refine ⟨r, z, g, rfl, z9.1, z9.2, row1.ex e14, fun q x y H5 nq b5 row5 hq x0 x1 y0 y1 => ?_⟩
          exact ⟨row5, b5 _ _ FR (e14 _ _ hF1), (pu1.ex e14).exB b5 hrl, q, (x, y, 1), hq, ⟨⟨by show -1000000 ≤ x; omega, by show x ≤ 1000000; omega⟩, ⟨by show -1000000 ≤ y; omega, by show y ≤ 1000000; omega⟩, rfl⟩, fun h => by omega, rfl⟩
        · have hb' := of_decide_eq_false hb
          refine eu_tup (vs := pvs (dpt t)) (ea_cons (ev_op (ev_op ev_c (ev_var rfl) (rv_I (by exact Or.inl ⟨by decide, by decide⟩))) (ev_op (ev_var rfl) (ev_var rfl) (rv_I (by exact Or.inl ⟨by omega, by omega⟩))) rv_I0)
            (ea_cons (ev_op (ev_op (ev_op (ev_var rfl) (ev_var rfl) (rv_I (by exact Or.inl ⟨by omega, by omega⟩))) (ev_var rfl) (rv_I (by exact Or.inr ⟨by omega, by omega⟩))) (ev_op ev_c (ev_var rfl) (rv_I (by exact Or.inl ⟨by decide, by decide⟩))) rv_I0) (ea_cons ev_c ea_nil))) (by show 3 ≤ 100000; decide) H2 (Ex.refl _) _ fun q H3 nq e3 hq => ?_
          have e13 := e2.trans e3
          exact ⟨row1.ex e13, e13 _ _ hF1, pu1.ex e13, q, dpt t, hq, dpt_gp t t60, fun _ => rfl, rfl⟩
      · clear hF1 pu1 FR row1 H1
        rintro σ H7 ⟨row7, hF7, pu7, q, pt, hq, gpt, det, rfl⟩
        have FR := row_neF row7 hF7
        have lfs : (pts fs).length = fs.length := pts_len fs
        have l7 := st.len
        refine q_asg (v := .bl (decide (pt ∈ pts fs) || decide (fs.length = m))) (ev_orV (a := decide (pt ∈ pts fs)) (b := decide (fs.length = m)) (ev_op (ev_var rfl) (ev_var rfl) ?_) fun _ => ev_is (ev_op (ev_cb (ea_cons (ev_var rfl) ea_nil) (rc_lenL (sq_of hF7))) (ev_var rfl) (rv_eq rfl)) ?_) fun H8 e8 => ?_
        · intro H8 e8 Q qq
          refine ⟨tD (pD pt), (fs.map fun p => pD p.2).map tD, dp_tD (st_of (e8 _ _ hq)), .lst (sq_of (e8 _ _ hF7)) (dp_pts fs (pu7.ex e8).l), tD_shaped _, tDl_shaped _, ?_⟩
          rw [any_tD, in_pts]
          exact qq H8 (Ex.refl _)
        · congr 1
          refine decide_eq_decide.2 ?_
          rw [refs_len]
          constructor
          · intro h; have := V.int.inj h; omega
          · intro h; congr 1; omega
        obtain ⟨bad0, hbad0⟩ : ∃ b, b = (decide (pt ∈ pts fs) || decide (fs.length = m)) := ⟨_, rfl⟩
        rw [← hbad0]
        have why0 : bad0 = true → Why m (pts fs) pt := by
          intro h
          rw [hbad0, Bool.or_eq_true, decide_eq_true_eq, decide_eq_true_eq] at h
          rcases h with h | h
          · exact .inr (.inl h)
          · exact .inl (by omega)
        have ok0 : bad0 = false → pt ∉ pts fs ∧ fs.length ≠ m := by
          intro h
          rw [hbad0, Bool.or_eq_false_iff, decide_eq_false_iff_not, decide_eq_false_iff_not] at h
          exact h
        have row8 := row7.ex e8
        have hF8 := e8 _ _ hF7
        have pu8 := pu7.ex e8
        have hq8 := e8 _ _ hq
        clear hbad0 hF7 pu7 hq row7 e8 H7
        refine q_forR1 (n := if bad0 = true then 0 else (fs.length : Int)) (ea_cons (ev_if (b := !bad0) (et_not (et_B (ev_var rfl))) (fun hb => ?_) (fun hb => ?_)) ea_nil) (by split <;> omega)
          (fun i σ H' => Ex H8 H' ∧ ∃ bad, (bad0 = true → bad = true) ∧ (bad = false → ∀ i' j', j' < i' → i' < i → OKd (pts fs) pt i' j') ∧ (bad = true → Why m (pts fs) pt) ∧ ∃ x9 x10 x11 x12,
            σ = [some (.ref r), some (.int 3), some (.int 7), some (.ref F), some (.int (m : Int)), some (.int z), some (.int (t : Int)), some (.ref q), some (.bl bad), x9, x10, x11, x12]) ?_ ?_ ?_
        · have hb0 : bad0 = false := by cases bad0 <;> simp_all
          rw [hb0, if_neg (by decide)]
          exact ev_is (ev_cb (ea_cons (ev_var rfl) ea_nil) (rc_lenL (sq_of hF8))) (by rw [refs_len])
        · have hb0 : bad0 = true := by cases bad0 <;> simp_all
          rw [hb0, if_pos rfl]
          exact ev_c
        · intro H9 e9
          exact ⟨e9, bad0, id, fun _ i' j' _ h => absurd h (Nat.not_lt_zero _), why0, _, _, _, _, rfl⟩
        · rintro i σ H9 hi ⟨e9, bad, b0, okb, whyb, x9, x10, x11, x12, rfl⟩
          have il : i < fs.length := by
            split at hi
            · omega
            · omega
          refine s_forR1 (n := (i : Int)) (ea_cons (ev_var rfl) ea_nil) (by omega)
            (fun j σ H' => Ex H8 H' ∧ ∃ bad, (bad0 = true → bad = true) ∧ (bad = false → (∀ i' j', j' < i' → i' < i → OKd (pts fs) pt i' j') ∧ ∀ j', j' < j → OKd (pts fs) pt i j') ∧ (bad = true → Why m (pts fs) pt) ∧ ∃ x10 x11 x12,
              σ = [some (.ref r), some (.int 3), some (.int 7), some (.ref F), some (.int (m : Int)), some (.int z), some (.int (t : Int)), some (.ref q), some (.bl bad), some (.int (i : Int)), x10, x11, x12]) ?_ ?_ ?_
          · intro H10 e10
            exact ⟨e9.trans e10, bad, b0, fun h => ⟨okb h, fun j' h => absurd h (Nat.not_lt_zero _)⟩, whyb, _, _, _, rfl⟩
          · clear e9 H9 okb whyb b0 bad x10 x11 x12
            rintro j σ H9 hj ⟨e9, bad, b0, okb, whyb, x10, x11, x12, rfl⟩
            have jl : j < i := by omega
            have hF9 := e9 _ _ hF8
            have pu9 := pu8.ex e9
            have hq9 : PtAt K H9 q pt := st_of (e9 _ _ hq8)
            have gf : ∀ x, x < fs.length → Gp (gN (pts fs) x) := fun x hx => st.gp _ (gN_mem (by omega))
            have ix : ∀ {te : TE} {σ : L2.St} {x : Nat}, x < fs.length → σ[3]? = some (some (.ref F)) → ∀ H', Ex H9 H' → Ev te σ H' (.int (x : Int)) → ∃ p, Ev (tOp (rIxL K) (tVar 3) te) σ H' (.ref p) ∧ PtAt K H' p (gN (pts fs) x) := by
              intro te σ x hx h3 H' e' hev
              obtain ⟨p, hp⟩ : ∃ p, fs[x]? = some p := ⟨_, List.getElem?_eq_getElem hx⟩
              refine ⟨p.1, ev_op (ev_var h3) hev (rv_ixL (sq_of (e' _ _ hF9)) (atI_nat (ref_at hp))), ?_⟩
              rw [gN_pts hp]
              exact st_of (e' _ _ (pu9 p (List.mem_of_getElem? hp)))
            refine q_asg (v := .bl (bad || decide (oL (gN (pts fs) i) (gN (pts fs) j) pt = 0))) (ev_orV (a := bad) (b := decide (oL (gN (pts fs) i) (gN (pts fs) j) pt = 0)) (ev_var rfl) fun _ => ?_) fun H10 e10 => ?_
            · obtain ⟨p1, v1, h1⟩ := ix (te := tVar 9) (σ := [some (.ref r), some (.int 3), some (.int 7), some (.ref F), some (.int (m : Int)), some (.int z), some (.int (t : Int)), some (.ref q), some (.bl bad), some (.int (i : Int)), some (.int (j : Int)), x11, x12]) il rfl H9 (Ex.refl _) (ev_var rfl)
              obtain ⟨p2, v2, h2⟩ := ix (te := tVar 10) (σ := [some (.ref r), some (.int 3), some (.int 7), some (.ref F), some (.int (m : Int)), some (.int z), some (.int (t : Int)), some (.ref q), some (.bl bad), some (.int (i : Int)), some (.int (j : Int)), x11, x12]) (x := j) (by omega) rfl H9 (Ex.refl _) (ev_var rfl)
              refine ev_is (ev_op (x := .int (sgn (oL (gN (pts fs) i) (gN (pts fs) j) pt))) (ev_call (ea_cons v1 (ea_cons v2 (ea_cons (ev_var rfl) ea_nil))) fun H10 e10 Q qq E => ⟨_, _, _, _, _, _, rfl, h1.ex e10, h2.ex e10, hq9.ex e10, gf i il, gf j (by omega), gpt, qq⟩) ev_c (rv_eq rfl)) ?_
              congr 1
              refine decide_eq_decide.2 ⟨fun h => Vk.sgn_zero.1 (V.int.inj h), fun h => by rw [h]; rfl⟩
            obtain ⟨bad2, hbad2⟩ : ∃ b, b = (bad || decide (oL (gN (pts fs) i) (gN (pts fs) j) pt = 0)) := ⟨_, rfl⟩
            rw [← hbad2]
            let f : Nat → Bool := fun k => !bad2 && decide (cL (gN (pts fs) i) (gN (pts fs) j) (gN (pts fs) k) pt = 0)
            refine q_asgL (xs := given (j : Int).toNat f (fun k => V.int (k : Int))) (el_lcR1 f (fun k => V.int (k : Int)) (ea_cons (ev_var rfl) ea_nil) (by omega) (fun x => rfl) ?_ (fun kk H' e' _ _ => ev_var rfl)) fun S H11 nS e11 hS => ?_
            · intro kk H' e' hkk
              have e'' := e10.trans e'
              refine et_and (et_not (et_B (ev_var rfl))) fun _ => et_test ?_
              obtain ⟨p1, v1, h1⟩ := ix (te := tVar 9) (σ := [some (.ref r), some (.int 3), some (.int 7), some (.ref F), some (.int (m : Int)), some (.int z), some (.int (t : Int)), some (.ref q), some (.bl bad2), some (.int (i : Int)), some (.int (j : Int)), x11, some (.int (kk : Int))]) il rfl H' e'' (ev_var rfl)
              obtain ⟨p2, v2, h2⟩ := ix (te := tVar 10) (σ := [some (.ref r), some (.int 3), some (.int 7), some (.ref F), some (.int (m : Int)), some (.int z), some (.int (t : Int)), some (.ref q), some (.bl bad2), some (.int (i : Int)), some (.int (j : Int)), x11, some (.int (kk : Int))]) (x := j) (by omega) rfl H' e'' (ev_var rfl)
              obtain ⟨p3, v3, h3⟩ := ix (te := tVar 12) (σ := [some (.ref r), some (.int 3), some (.int 7), some (.ref F), some (.int (m : Int)), some (.int z), some (.int (t : Int)), some (.ref q), some (.bl bad2), some (.int (i : Int)), some (.int (j : Int)), x11, some (.int (kk : Int))]) (x := kk) (by omega) rfl H' e'' (ev_var rfl)
              refine ev_is (ev_op (x := .int (cL (gN (pts fs) i) (gN (pts fs) j) (gN (pts fs) kk) pt)) (ev_call (ea_cons v1 (ea_cons v2 (ea_cons v3 (ea_cons (ev_var rfl) ea_nil)))) fun H10 e10 Q qq E => ⟨_, _, _, _, _, _, _, _, rfl, h1.ex e10, h2.ex e10, h3.ex e10, hq9.ex (e''.trans e10), gf i il, gf j (by omega), gf kk (by omega), gpt, qq⟩) ev_c (rv_eq rfl)) ?_
              congr 1
              exact decide_eq_decide.2 ⟨fun h => V.int.inj h, fun h => by rw [h]⟩
            have e911 := e10.trans e11
            obtain ⟨ns, hns, ens⟩ : ∃ ns : List Int, given (j : Int).toNat f (fun k => V.int (k : Int)) = ns.map V.int ∧ (ns = [] ↔ ∀ kk, kk < j → f kk = false) := by
              refine ⟨((List.range j).filter f).map fun (k : Nat) => (k : Int), ?_, ?_⟩
              · unfold given
                rw [Int.toNat_natCast, List.map_map]; rfl
              · rw [List.map_eq_nil_iff, List.filter_eq_nil_iff]
                exact ⟨fun h kk hk => by simpa using h kk (List.mem_range.2 hk), fun h kk hk => by rw [h kk (List.mem_range.1 hk)]; decide⟩
            rw [hns] at hS
            refine s_asg (v := .bl (bad2 || !decide (ns = []))) (ev_orV (a := bad2) (b := !decide (ns = [])) (ev_var rfl) fun _ => ev_opL (ev_var rfl) (el_lst ea_nil (by decide)) fun el H12 hel e12 H13 e13 Q qq => ?_) fun H12 e12 => ?_
            · refine ⟨.list (ns.map PyData.int), .list (([] : List Int).map PyData.int), .lst (sq_of (e13 _ _ (e12 _ _ hS))) (dp_ints ns), .lst (sq_of (e13 _ _ hel)) (dp_ints []), lD_shaped ns, lD_shaped [], ?_⟩
              simp only [PyData.eqv]
              rw [eqv_ints]
              exact qq H13 (Ex.refl _)
            have b2t : bad2 = true → Why m (pts fs) pt := by
              intro h
              rw [hbad2, Bool.or_eq_true, decide_eq_true_eq] at h
              rcases h with h | h
              · exact whyb h
              · exact .inr (.inr ⟨i, j, jl, by omega, .inl h⟩)
            refine ⟨e9.trans (e911.trans e12), _, fun h => ?_, fun h => ?_, fun h => ?_, _, _, _, rfl⟩
            · rw [hbad2, b0 h]; rfl
            · rw [Bool.or_eq_false_iff] at h
              have h2 := h.2
              have h1 := h.1
              rw [h1] at hbad2
              have hb2 := Bool.or_eq_false_iff.1 hbad2.symm
              have nn : ns = [] := by simpa using h2
              have all := ens.1 nn
              refine ⟨(okb hb2.1).1, fun j' hj' => ?_⟩
              by_cases e : j' < j
              · exact (okb hb2.1).2 j' e
              · obtain rfl : j' = j := by omega
                refine ⟨of_decide_eq_false hb2.2, fun kk hk => ?_⟩
                have := all kk hk
                show cL _ _ _ _ ≠ 0
                have z : (!bad2 && decide (cL (gN (pts fs) i) (gN (pts fs) j') (gN (pts fs) kk) pt = 0)) = false := this
                rw [h1] at z
                simpa using z
            · rw [Bool.or_eq_true] at h
              rcases h with h | h
              · exact b2t h
              · cases hb2 : bad2 with
                | true => exact b2t hb2
                | false =>
                  have nn : ¬ ns = [] := by simpa using h
                  refine Classical.byContradiction fun no => nn (ens.2 fun kk hk => ?_)
                  show (!bad2 && decide (cL (gN (pts fs) i) (gN (pts fs) j) (gN (pts fs) kk) pt = 0)) = false
                  rw [hb2]
                  refine decide_eq_false fun z => no (.inr (.inr ⟨i, j, jl, by omega, .inr ⟨kk, hk, z⟩⟩))
          · rintro σ H10 ⟨e10, bad, b0, okb, whyb, x10, x11, x12, rfl⟩
            refine ⟨e10, bad, b0, fun h i' j' h1 h2 => ?_, whyb, _, _, _, _, rfl⟩
            rw [Int.toNat_natCast] at okb
            by_cases e : i' < i
            · exact (okb h).1 i' j' h1 e
            · obtain rfl : i' = i := by omega
              exact (okb h).2 j' h1
        · rintro σ H9 ⟨e9, bad, b0, okb, whyb, x9, x10, x11, x12, rfl⟩
          refine s_when (b := !bad) (et_not (et_B (ev_var rfl))) (fun hb H10 e10 => ?_) (fun hb H10 e10 => ?_)
          · have hb1 : bad = false := by cases bad <;> simp_all
            have hb0 : bad0 = false := by
              cases h : bad0 with
              | false => rfl
              | true => rw [b0 h] at hb1; cases hb1
            have e810 := e9.trans e10
            have hF10 := e810 _ _ hF8
            have nm := ok0 hb0
            rw [hb0, if_neg (by decide), Int.toNat_natCast] at okb
            refine s_app (l := F) (xs := refs fs) hF10 (ev_var rfl) (ev_var rfl) (by rw [refs_len]; omega) fun H11 e11 => ?_
            have e811 := e810.trans e11
            have hF11 := e11 _ _ hF10
            have row11 := row8.ex e811
            have eR : (refs fs ++ [V.ref q]) = refs (fs ++ [(q, pt)]) := by simp
            have eP : pts (fs ++ [(q, pt)]) = pts fs ++ [pt] := by unfold pts; simp
            refine ⟨?_, ⟨fs ++ [(q, pt)], by rw [upd_same, eR], fun x hx => ?_, ?_, fun u h1 h2 => ?_⟩, _, _, _, _, _, _, _, rfl⟩
            · obtain ⟨c, x, d, hrr, hs, z⟩ := row11
              have bb : ExB F H11 (upd H11 F (.lst (refs fs ++ [V.ref q]))) := ExB.upd _
              exact ⟨c, x, d, bb _ _ FR.symm hrr, hsF.elim (fun n => sqB bb n hs) (fun a => a _), z⟩
            · have tupF : ∀ {a : Addr} {xs : List V}, H11 a = some (.tup xs) → (upd H11 F (.lst (refs fs ++ [V.ref q]))) a = some (.tup xs) := fun {a xs} h => by
                rw [upd_ne (fun z => by rw [z, hF11] at h; cases h)]; exact h
              rcases List.mem_append.1 hx with hx | hx
              · exact tupF ((pu8.ex e811) x hx)
              · rw [List.mem_singleton.1 hx]
                exact tupF (e811 _ _ hq8)
            · rw [eP]
              refine st.add (by have := nm.2; omega) gpt nm.1 fun i j h1 h2 => okb hb1 i j h1 (by omega)
            · rw [eP]
              by_cases e : u < t
              · exact (cov u h1 e).add
              · obtain rfl : u = t := by omega
                rw [← det h1]
                exact Cover.new _ _
          · have hb1 : bad = true := by cases bad <;> simp_all
            have e810 := e9.trans e10
            refine ⟨row8.ex e810, ⟨fs, e810 _ _ hF8, pu8.ex e810, st, fun u h1 h2 => ?_⟩, _, _, _, _, _, _, _, rfl⟩
            by_cases e : u < t
            · exact cov u h1 e
            · obtain rfl : u = t := by omega
              rw [← det h1]
              exact Cover.bad m3 (whyb hb1)
    · rintro σ H1 ⟨row1, ⟨fs, hF1, pu1, st, cov⟩, x6, x7, x8, x9, x10, x11, x12, rfl⟩
      have FR := row_neF row1 hF1
      have l3 : 3 ≤ (pts fs).length := three (n := 3 * m) (by omega) st.nd st.gp fun u h1 h2 => cov u h1 (by omega)
      have lfs : (pts fs).length = fs.length := pts_len fs
      have l7 := st.len
      refine q_cut (M := fun σ' H' => ∃ F' ps, H' F' = some (.lst (refs ps)) ∧ PtsU H' ps ∧ Gd (pts ps) ∧ σ'[3]? = some (some (.ref F'))) ?_ ?_
      · refine r_ifT (r_op (r_call (r_cons (r_of (ev_var rfl) fun H2 e2 => r_cons (r_of ev_c fun H3 e3 => r_nil ?_)))))
        have e13 := e2.trans e3
        obtain ⟨xs, hrl⟩ := (row1.ex e13).lst
        refine ⟨r, 4, g, rfl, by decide, by decide, row1.ex e13, fun n H4 b4 row4 _ _ => r_of ev_c fun H5 e5 => ⟨rfl, _, rfl, ?_⟩⟩
        have hF5 := e5 _ _ (b4 _ _ FR (e13 _ _ hF1))
        have pu5 := ((pu1.ex e13).exB b4 hrl).ex e5
        split
        · refine r_asg (el_new (a := F) (xs := refs fs) (fun i => [some (.ref r), some (.int 3), some (.int 7), some (.ref F), some (.int (m : Int)), some (.int z), x6, (refs fs)[i]?, x8, x9, x10, x11, x12]) (fun i => pvs (lowQ (gN (pts fs) i))) (by exact ev_var rfl) (sq_of hF5) (by rw [refs_len]; omega) (fun i => rfl) ?_ ?_ ?_)
          · intro i x hx H6 e6 R rr
            have := rr H6 (Ex.refl _)
            rw [hx] at this
            exact this
          · intro i hi H6 e6 H7 e7 Q qq
            rw [refs_len] at hi
            obtain ⟨p, hp⟩ : ∃ p, fs[i]? = some p := ⟨_, List.getElem?_eq_getElem hi⟩
            have hp7 : SqT K H7 p.1 [.int p.2.1, .int p.2.2.1, .int p.2.2.2] := st_of ((e6.trans e7) _ _ (pu5 p (List.mem_of_getElem? hp)))
            rw [show (refs fs)[i]? = some (V.ref p.1) from ref_at hp]
            refine r_call (r_cons (r_of (ev_op (ev_var rfl) ev_c (rv_ixT hp7 rfl)) fun H8 e8 => r_cons (r_of (ev_op (ev_var rfl) ev_c (rv_ixT (ex_t e8 hp7) rfl)) fun H9 e9 => r_cons (r_of ev_c fun H10 e10 => r_nil ?_))))
            have e710 := (e8.trans e9).trans e10
            refine ⟨p.2.1, p.2.2.1, rfl, fun y H11 ny e11 hy => qq y H11 (fresh_back e710 ny) (e710.trans e11) ?_⟩
            rw [hy, gN_pts hp]; rfl
          · intro D H6 as nD e6 hD hl has
            rw [refs_len] at hl
            have zl : (as.zip ((pts fs).map lowQ)).length = fs.length := by rw [List.length_zip, List.length_map]; omega
            refine ⟨D, as.zip ((pts fs).map lowQ), ?_, ?_, ?_, rfl⟩
            · rw [hD]
              congr 2
              unfold refs
              rw [show (fun p : Addr × Pt => V.ref p.1) = V.ref ∘ Prod.fst from rfl, ← List.map_map, List.map_fst_zip (by rw [List.length_map]; omega)]
            · intro x hx
              obtain ⟨i, hi⟩ := List.getElem?_of_mem hx
              rw [List.getElem?_zip_eq_some] at hi
              have h1 := has i x.1 hi.1
              rw [h1]
              congr 2
              have h2 := hi.2
              rw [List.getElem?_map, Option.map_eq_some_iff] at h2
              obtain ⟨p, hp, e⟩ := h2
              rw [← e]
              unfold gN
              rw [List.getD_eq_getElem?_getD, hp]; rfl
            · have : pts (as.zip ((pts fs).map lowQ)) = (pts fs).map lowQ := by
                show (as.zip _).map Prod.snd = _
                exact List.map_snd_zip (by rw [List.length_map]; omega)
              rw [this]
              exact st.gd2 m7 l3
        · exact ⟨F, fs, hF5, pu5, st.gd1 m7 l3, rfl⟩
      · rintro σ H2 ⟨F', ps, hF2, pu2, gd, h3⟩
        refine r_ret (r_cb (r_cons (r_of (ev_var h3) fun H3 e3 => r_nil ⟨F', refs ps, rfl, .inl ⟨sq_of (e3 _ _ hF2), fun p np => ?_⟩⟩)))
        have e4 := e3.trans (Ex.new (o := HO.tup (refs ps)) np)
        exact k p _ ps ⟨st_of upd_same, (pu2.ex e4).l⟩ gd
end
end Mc
/-! the law -/
namespace Mc
open PySem PySem.Spec PyProof.Rows L2 Evl
open Vk (Pt Sm sgn dbl mnr rowP sideP Gd oP dP sm)

/-- two lists of the same sets, each once, in order -/
theorem same_order {n k : Nat} (hn : n ≤ 8) {A B : List (List Int)} (f : ∀ a, a ∈ A → ∃ S : Nat → Bool, a = cs (canon n S) ∧ (canon n S).length = k) (hA : A.Nodup) (hB : B.Nodup) (m : ∀ a, a ∈ A ↔ a ∈ B)
    (sA : A.Pairwise fun a b => TS.code 8 a ≤ TS.code 8 b) (sB : B.Pairwise fun a b => TS.code 8 a ≤ TS.code 8 b) : A = B := by
  refine List.Perm.eq_of_pairwise (le := fun a b => TS.code 8 a ≤ TS.code 8 b) (fun a b ha hb h1 h2 => ?_) sA sB ((List.perm_ext_iff_of_nodup hA hB).2 m)
  obtain ⟨S, rfl, l1⟩ := f a ha
  obtain ⟨S', rfl, l2⟩ := f b ((m b).2 hb)
  exact code_inj (by unfold cs; rw [List.length_map, List.length_map, l1, l2]) (bd_canon hn S) (bd_canon hn S') (by omega)
/-- the sets behind -/
theorem kst_nat {K : PySem.W.Frag} {H : Hp} {n k : Nat} {C : List (List Nat)} {ks : List (Addr × List Int)} (h : Kst K H n k C ks) : ∃ D : List (List Nat), D.length = ks.length ∧ D.Nodup ∧ ∀ R, R ∈ D ↔ R ∈ C := by
  have back : (ks.map fun q => q.2.map Int.toNat).map cs = ks.map (·.2) := by
    rw [List.map_map]
    refine List.map_congr_left fun q hq => ?_
    obtain ⟨S, e, _⟩ := h.few q hq
    show cs (q.2.map Int.toNat) = q.2
    rw [e]
    unfold cs
    rw [List.map_map, List.map_map]
    refine List.map_congr_left fun d _ => ?_
    show ((Int.toNat (d : Int) : Nat) : Int) = d
    rw [Int.toNat_natCast]
  have inj : ∀ {L : List (List Nat)} {R : List Nat}, cs R ∈ L.map cs ↔ R ∈ L := fun {L R} => by
    constructor
    · intro h
      obtain ⟨R', h1, h2⟩ := List.mem_map.1 h
      rw [← cs_inj h2]; exact h1
    · exact fun h => List.mem_map.2 ⟨R, h, rfl⟩
  refine ⟨ks.map fun q => q.2.map Int.toNat, List.length_map _, ?_, fun R => ?_⟩
  · have := h.nd
    rw [← back] at this
    exact (List.pairwise_map.1 this).imp fun {x y} h e => h (by rw [e])
  · rw [← inj, back, h.mem, inj]

section
variable {P : Program} {w : World} {K : PySem.W.Frag} {mg : Str → Option Value} {base : Heap}

def sp_law (K : PySem.W.Frag) : Sp := fun vs H Q _ => ∃ (a : Addr) (ns : List Int), vs = [.ref a] ∧ SqL K H a (ns.map V.int) ∧ ∀ H', Q (.bl true) H'

theorem ok_law (M : Txt K mg) : FnOk P w K mg base CX0 8 M.a_law M.fd_law ["_law_script"] (sp_law K) := by
  refine M.F_law.ok sc_law (fun vs H Q E h => ?_) (fun cdv A outer s H vs Q E hr h => ?_)
  · obtain ⟨_, _, rfl, _⟩ := h; rfl
  · obtain ⟨a, ns, rfl, hs, fin⟩ := h
    have hu : (A.deeper (envOfC (Str.ofString "law") (defScope s_law) s.heap.objs.size M.a_law cdv)).units + 64 < cLine := by have := hr.un; omega
    refine ⟨_, (pss_cons 
      (ps_set (i := 1) sc_law.nd rfl (by first | exact Or.inl rfl | exact Or.inr rfl) (pe_lst (pa_cons (pv 0) (pa_cons pe_int (pa_cons pe_int (pa_cons pe_int pa_nil)))))) (pss_cons 
      (ps_set (i := 2) sc_law.nd rfl (by first | exact Or.inl rfl | exact Or.inr rfl) (pe_call (ok_law_sites M) (hr.mono (by decide)) (by rfl) M.g_law_sites M.F_law_sites.kp M.b_law_sites .nil pass0 (pa_cons (pv 1) (pa_cons pe_int (pa_cons pe_int pa_nil))))) (pss_cons 
      (ps_par (i := 3) (j := 4) (by rfl) sc_law.nd rfl rfl (by decide) rfl rfl (pa_cons (pe_callB (call_lenK K rfl) (by rfl) M.n_len (by decide +kernel) (pa_cons (pv 2) pa_nil)) (pa_cons pe_int pa_nil)) (by rfl)) (pss_cons 
      (ps_for PassesOwn.never rfl (pi_range2 (by rfl) M.n_range (pa_cons pe_int (pa_cons (pv 3) pa_nil))) (pg_name (i := 5) sc_law.nd rfl (by first | exact Or.inl rfl | exact Or.inr rfl)) (pss_cons 
        (ps_set (i := 6) sc_law.nd rfl (by first | exact Or.inl rfl | exact Or.inr rfl) (pe_call (ok_nearest_choices M) (hr.mono (by decide)) (by rfl) M.g_nearest_choices M.F_nearest_choices.kp M.b_nearest_choices .nil pass0 (pa_cons (pv 2) (pa_cons (pv 5) pa_nil)))) (pss_cons 
        (ps_if (PW.pt (pw_or (pt_not (pt_val (pe_callB (call_isiK K rfl) (by rfl) M.n_isinstance (by decide +kernel) (pa_cons (pv 6) (pa_cons (pe_bltn (v := .ty "tuple") (u := .type "tuple") (by rfl) M.n_tuple (by decide +kernel) rfl) pa_nil))))) (pw_or1 (pt_cmpR (op_neDK K rfl hu) (pe_callTy (call_listK K rfl) (by rfl) M.n_list (by decide +kernel) (pa_cons (pv 6) pa_nil)) (pe_callB (cr_sortedTK K P w rfl rfl rfl rfl) (by rfl) M.n_sorted (by decide +kernel) (pa_cons (pe_callTy (cr_setK K P w rfl rfl rfl rfl hr.units) (by rfl) M.n_set (by decide +kernel) (pa_cons (pv 6) pa_nil)) pa_nil)) (nomark _))))) (pss_one 
          (ps_ret pe_bl)) pss_nil) (pss_cons 
        (ps_if (pt_cmpR op_ne (pe_callB (call_lenK K rfl) (by rfl) M.n_len (by decide +kernel) (pa_cons (pv 6) pa_nil)) (pe_op op_sub (pe_op op_add (pe_op op_sub (pe_op op_sub (pe_op op_mul (pe_op op_mul pe_int (pv 5)) (pv 3)) (pv 3)) (pe_op op_mul (pv 5) (pv 5))) pe_int) (pv 4)) (nomark _)) (pss_one 
          (ps_ret pe_bl)) pss_nil) (pss_one 
        (ps_set (i := 4) sc_law.nd rfl (by first | exact Or.inl rfl | exact Or.inr rfl) (pe_op op_add (pv 4) (pe_callB (call_lenK K rfl) (by rfl) M.n_len (by decide +kernel) (pa_cons (pe_call (ok_separable M) (hr.mono (by decide)) (by rfl) M.g_separable M.F_separable.kp M.b_separable .nil pass0 (pa_cons (pv 2) (pa_cons (pv 5) pa_nil))) pa_nil))))))))) (pss_one 
      (ps_ret pe_bl)))))), ?_⟩
    refine q_asgL (xs := [.ref a, .int 0, .int 3270, .int 0]) (el_lst (ea_cons (ev_var rfl) (ea_cons ev_c (ea_cons ev_c (ea_cons ev_c ea_nil)))) (by show 4 ≤ 100000; decide)) fun r H1 nr e1 hrw => ?_
    have row : RowA K H1 r (a, ns) := by
      refine ⟨0, 3270, 0, hrw, ex_l e1 hs, ?_, by decide, by decide, by decide⟩
      rcases hs with (h | ⟨o, h⟩) | h
      · exact .inl fun z => by rw [show a = r from z, nr] at h; cases h
      · exact .inl fun z => by rw [show a = r from z, nr] at h; cases h
      · exact .inr fun H' => .inr h
    refine r_q (r_call (r_cons (r_of (ev_var rfl) fun H2 e2 => r_cons (r_of ev_c fun H3 e3 => r_cons (r_of ev_c fun H4 e4 => r_nil ?_)))))
    refine ⟨r, (a, ns), rfl, row.ex ((e2.trans e3).trans e4), fun p H0 ps hP gd => ?_⟩
    have n7 := gd.n7
    have n3 := gd.n3
    rw [pts_len] at n7 n3
    refine q_par (v := .int (ps.length : Int)) (w := .int 0) (ea_cons (ev_lenP hP (ev_var rfl)) (ea_cons ev_c ea_nil)) fun H5 e5 => ?_
    have hP5 := hP.ex e5
    refine q_forR2 (lo := 1) (n := (ps.length : Int)) (ea_cons ev_c (ea_cons (ev_var rfl) ea_nil)) (by omega)
      (fun j σ H' => Ex H5 H' ∧ ∃ T : Nat → List (List Nat), (∀ i, 1 ≤ i → i < 1 + j → (T i).Nodup ∧ ∀ R, R ∈ T i ↔ R ∈ vis ps i) ∧ ∃ x5 x6, σ = [some (.ref a), some (.ref r), some (.ref p), some (.int (ps.length : Int)), some (.int (sm (List.range j) fun i => ((T (i + 1)).length : Int))), x5, x6]) ?_ ?_ ?_
    · intro H6 e6
      exact ⟨e6, fun _ => [], fun i h1 h2 => by omega, _, _, rfl⟩
    · rintro j σ H6 hj ⟨e6, T, hT, x5, x6, rfl⟩
      have ek : (1 : Int) + (j : Int) = ((j + 1 : Nat) : Int) := by omega
      rw [ek]
      have jl : j + 1 + 1 ≤ ps.length := by omega
      have hP6 := hP5.ex e6
      refine r_q (r_call (r_cons (r_of (ev_var rfl) fun H7 e7 => r_cons (r_of (ev_var rfl) fun H8 e8 => r_nil ?_))))
      refine ⟨p, ps, j + 1, rfl, hP6.ex (e7.trans e8), gd, by omega, jl, fun f H9 ks e9 hf kst => ?_⟩
      have hP9 := hP6.ex ((e7.trans e8).trans e9)
      have e69 := e6.trans ((e7.trans e8).trans e9)
      refine q_when (b := false) (et_or (a := false) (b := false) (et_not (a := true) (et_B (ev_cb (ea_cons (ev_var rfl) (ea_cons ev_c ea_nil)) (rc_isT (st_of hf))))) fun _ => et_test (fun Ha ea Q qq => ?_)) (fun h => nomatch h) fun _ H10 e10 => ?_
      · refine r_op (r_cb (r_cons (r_of (ev_var rfl) fun Hb eb => r_nil ?_)))
        have eb' := ea.trans eb
        have hfb := eb' _ _ hf
        refine ⟨f, _, rfl, .inr (st_of hfb), fun l nl => ?_⟩
        have el := Ex.new (o := HO.lst (ks.map fun q => V.ref q.1)) nl
        refine r_cb (r_cons (r_cb (r_cons (r_of (ev_var rfl) fun Hc ec => r_nil ?_))))
        have elc := el.trans ec
        have h9c := eb'.trans elc
        refine ⟨f, ks, rfl, .inr (st_of (elc _ _ hfb)), fun q hq => ex_t h9c (kst.tup q hq), few_of n7 (by omega) kst.few, fun sA SL nS sub all => r_nil ?_⟩
        have e7 : Ex Hc (upd Hc sA (SetTO P w sA SL)) := Ex.new nS
        refine ⟨sA, SL, j + 1, 8, rfl, upd_same, fun q hq => ex_t (h9c.trans e7) (kst.tup q (sub q hq)), by omega, fun q hq => ?_, fun L' t pm nd lt pw nt => ?_⟩
        · obtain ⟨S, e, hl⟩ := kst.few q (sub q hq)
          exact ⟨by rw [e]; unfold cs; rw [List.length_map]; exact hl, by rw [e]; exact bd_canon (by omega) S⟩
        have e8 := Ex.new (o := HO.lst (L'.map fun q => V.ref q.1)) nt
        have sub' : ∀ q, q ∈ L' → q ∈ ks := fun q hq => sub q (pm.mem_iff.1 hq)
        have eq : ks.map (·.2) = L'.map (·.2) := by
          refine same_order (n := ps.length) (k := j + 1) (by omega) (fun x hx => ?_) kst.nd nd (fun x => ⟨fun hx => ?_, fun hx => ?_⟩) (List.Pairwise.map _ (fun _ _ h => h) kst.ord) (List.Pairwise.map _ (fun _ _ h => h) pw)
          · obtain ⟨q, hq, rfl⟩ := List.mem_map.1 hx
            exact kst.few q hq
          · obtain ⟨q, hq, rfl⟩ := List.mem_map.1 hx
            obtain ⟨r', h1, h2⟩ := List.mem_map.1 (all q hq)
            exact List.mem_map.2 ⟨r', pm.mem_iff.2 h1, h2⟩
          · obtain ⟨q, hq, rfl⟩ := List.mem_map.1 hx
            exact List.mem_map.2 ⟨q, sub' q hq, rfl⟩
        have h9d := (h9c.trans e7).trans e8
        refine ⟨.list ((ks.map (·.2)).map tD), .list ((L'.map (·.2)).map tD), .lst (sq_of ((ec.trans (e7.trans e8)) _ _ upd_same)) (dp_tDs ks fun q hq => ex_t h9d (kst.tup q hq)), .lst (sq_of upd_same) (dp_tDs L' fun q hq => ex_t h9d (kst.tup q (sub' q hq))), tDl_shaped _, tDl_shaped _, ?_⟩
        simp only [PyData.eqv]
        rw [eqv_tDs, decide_eq_true eq]
        exact qq _ ((eb.trans elc).trans (e7.trans e8))
      have e910 := e10
      have hP10 := hP9.ex e10
      obtain ⟨D, lD, ndD, mD⟩ := kst_nat kst
      have count := law_count gd (k := j + 1) (by omega) jl ndD mD T (fun i h1 h2 => hT i h1 (by omega))
      rw [lD, Nat.add_sub_cancel] at count
      refine q_when (b := false) (et_test (ev_is (ev_op (ev_cb (ea_cons (ev_var rfl) ea_nil) (rc_lenT (st_of (e10 _ _ hf)))) (ev_op (ev_op (ev_op (ev_op (ev_op (ev_op ev_c (ev_var rfl) (rv_I (by exact Or.inl ⟨by decide, by decide⟩))) (ev_var rfl) (rv_I (by exact Or.inr ⟨by omega, by omega⟩))) (ev_var rfl) rv_I0) (ev_op (ev_var rfl) (ev_var rfl) (rv_I (by exact Or.inr ⟨by omega, by omega⟩))) rv_I0) ev_c rv_I0) (ev_var rfl) rv_I0) (rv_ne rfl)) ?_)) (fun h => nomatch h) fun _ H11 e11 => ?_
      · rw [List.length_map, count]
        congr 1
        rw [decide_eq_true rfl]; rfl
      have hP11 := hP10.ex e11
      refine r_asg (r_op (r_of (ev_var rfl) fun H12 e12 => r_cb (r_cons (r_call (r_cons (r_of (ev_var rfl) fun H13 e13 => r_cons (r_of (ev_var rfl) fun H14 e14 => r_nil ?_)))))))
      have e1114 := (e12.trans e13).trans e14
      refine ⟨p, ps, j + 1, rfl, hP11.ex e1114, gd, by omega, jl, fun t H15 ys Tk e15 hy ly ndT mT => r_nil ⟨t, ys, rfl, .inr (st_of hy), ?_⟩⟩
      refine ⟨_, _, rfl, rfl, (e69.trans (e10.trans e11)).trans (e1114.trans e15), fun i => if i = j + 1 then Tk else T i, fun i h1 h2 => ?_, some (.int ((j + 1 : Nat) : Int)), some (.ref f), ?_⟩
      · by_cases e : i = j + 1
        · subst e
          simp only [if_pos rfl]
          exact ⟨ndT, mT⟩
        · simp only [if_neg e]
          exact hT i h1 (by omega)
      · have es : sm (List.range (j + 1)) (fun i => (((if i + 1 = j + 1 then Tk else T (i + 1)) : List (List Nat)).length : Int)) = sm (List.range j) (fun i => ((T (i + 1)).length : Int)) + (ys.length : Int) := by
          rw [List.range_succ, Vk.sm_append, Vk.sm_cons, Vk.sm_nil, if_pos rfl, ly, Int.add_zero]
          congr 1
          refine Vk.sm_congr fun i hi => ?_
          rw [if_neg (by have := List.mem_range.1 hi; omega)]
        show _ = ([some (.ref a), some (.ref r), some (.ref p), some (.int (ps.length : Int)), some (.int (sm (List.range (j + 1)) fun i => (((if i + 1 = j + 1 then Tk else T (i + 1)) : List (List Nat)).length : Int))), some (.int ((j + 1 : Nat) : Int)), some (.ref f)] : L2.St)
        rw [es]; rfl
    · rintro σ H6 ⟨e6, T, hT, x5, x6, rfl⟩
      exact s_ret (v := .bl true) ev_c fun H7 _ => fin H7
end
end Mc
/-! the top, and the end -/
namespace Mc
open PySem PySem.Spec PyProof.Rows L2 Evl
theorem all_mk {P : Program} {w : World} {K : PySem.W.Frag} {h : Heap} {mg : Str → Option Value} {fa : Addr} (X : K.In h) (G : h.Ns mainGlobals mg) (XL : ∃ t : Tok, mg "LARGEST" = some (.int 1000000000000 t)) (hfa : mg "law" = some (.ref fa))
    {f1 f2 f3 f4 f5 f6 f7 f8 f9 f10 f11 f12 f13 f14 f15 f16 f17 f18 f19 f20 f21 f22 f23 f24 f25 f26 f27 f28 f29 f30 f31 f32 f33 f34 : Addr} {od1 od2 od3 od4 od5 od6 od7 od8 od9 od10 od11 od12 od13 od14 od15 od16 od17 od18 od19 od20 od21 od22 od23 od24 od25 od26 od27 od28 od29 od30 od31 od32 od33 od34 an1 an2 an3 an4 an5 an6 an7 an8 an9 an10 an11 an12 an13 an14 an15 an16 an17 an18 an19 an20 an21 an22 an23 an24 an25 an26 an27 an28 an29 an30 an31 an32 an33 an34 : Option Addr} {sl1 sl2 sl3 sl4 sl5 sl6 sl7 sl8 sl9 sl10 sl11 sl12 sl13 sl14 sl15 sl16 sl17 sl18 sl19 sl20 sl21 sl22 sl23 sl24 sl25 sl26 sl27 sl28 sl29 sl30 sl31 sl32 sl33 sl34 : Array (Option Value)} {oc1 oc2 oc3 oc4 oc5 oc6 oc7 oc8 oc9 oc10 oc11 oc12 oc13 oc14 oc15 oc16 oc17 oc18 oc19 oc20 oc21 oc22 oc23 oc24 oc25 oc26 oc27 oc28 oc29 oc30 oc31 oc32 oc33 oc34 kV1 kV2 kV3 kV4 kV5 kV6 kV7 kV8 kV9 kV10 kV11 kV12 kV13 kV14 kV15 kV16 kV17 kV18 kV19 kV20 kV21 kV22 kV23 kV24 kV25 kV26 kV27 kV28 kV29 kV30 kV31 kV32 kV33 kV34 dc1 dc2 dc3 dc4 dc5 dc6 dc7 dc8 dc9 dc10 dc11 dc12 dc13 dc14 dc15 dc16 dc17 dc18 dc19 dc20 dc21 dc22 dc23 dc24 dc25 dc26 dc27 dc28 dc29 dc30 dc31 dc32 dc33 dc34 pm1 pm2 pm3 pm4 pm5 pm6 pm7 pm8 pm9 pm10 pm11 pm12 pm13 pm14 pm15 pm16 pm17 pm18 pm19 pm20 pm21 pm22 pm23 pm24 pm25 pm26 pm27 pm28 pm29 pm30 pm31 pm32 pm33 pm34 cd1 cd2 cd3 cd4 cd5 cd6 cd7 cd8 cd9 cd10 cd11 cd12 cd13 cd14 cd15 cd16 cd17 cd18 cd19 cd20 cd21 cd22 cd23 cd24 cd25 cd26 cd27 cd28 cd29 cd30 cd31 cd32 cd33 cd34 ct1 ct2 ct3 ct4 ct5 ct6 ct7 ct8 ct9 ct10 ct11 ct12 ct13 ct14 ct15 ct16 ct17 ct18 ct19 ct20 ct21 ct22 ct23 ct24 ct25 ct26 ct27 ct28 ct29 ct30 ct31 ct32 ct33 ct34 : Value} {tP tN : Tok}
    (a1 : PySem.W.nsIn K mainGlobals "_law_taken" = some (some (.ref f1))) (l1 : K.lookup f1 = some ⟨oc1, od1, .func (PySem.W.fnOf "_law_taken" "_law_taken" (defArgs s_law_taken) (defBody s_law_taken) (defScope s_law_taken) .none kV1 dc1 pm1 an1 cd1 ct1), sl1⟩) (c1 : PySem.W.codeIn K cd1 "_law_taken" = true) (k1 : PySem.W.keepIn K (.ref f1) = true)
    (a2 : PySem.W.nsIn K mainGlobals "_law_pick" = some (some (.ref f2))) (l2 : K.lookup f2 = some ⟨oc2, od2, .func (PySem.W.fnOf "_law_pick" "_law_pick" (defArgs s_law_pick) (defBody s_law_pick) (defScope s_law_pick) .none kV2 dc2 pm2 an2 cd2 ct2), sl2⟩) (c2 : PySem.W.codeIn K cd2 "_law_pick" = true) (k2 : PySem.W.keepIn K (.ref f2) = true)
    (a3 : PySem.W.nsIn K mainGlobals "_law_signed" = some (some (.ref f3))) (l3 : K.lookup f3 = some ⟨oc3, od3, .func (PySem.W.fnOf "_law_signed" "_law_signed" (defArgs s_law_signed) (defBody s_law_signed) (defScope s_law_signed) .none kV3 dc3 pm3 an3 cd3 ct3), sl3⟩) (c3 : PySem.W.codeIn K cd3 "_law_signed" = true) (k3 : PySem.W.keepIn K (.ref f3) = true)
    (a4 : PySem.W.nsIn K mainGlobals "_law_grid" = some (some (.ref f4))) (l4 : K.lookup f4 = some ⟨oc4, od4, .func (PySem.W.fnOf "_law_grid" "_law_grid" (defArgs s_law_grid) (defBody s_law_grid) (defScope s_law_grid) .none kV4 dc4 pm4 an4 cd4 ct4), sl4⟩) (c4 : PySem.W.codeIn K cd4 "_law_grid" = true) (k4 : PySem.W.keepIn K (.ref f4) = true)
    (a5 : PySem.W.nsIn K mainGlobals "_law_gcd" = some (some (.ref f5))) (l5 : K.lookup f5 = some ⟨oc5, od5, .func (PySem.W.fnOf "_law_gcd" "_law_gcd" (defArgs s_law_gcd) (defBody s_law_gcd) (defScope s_law_gcd) .none kV5 dc5 pm5 an5 cd5 ct5), sl5⟩) (c5 : PySem.W.codeIn K cd5 "_law_gcd" = true) (k5 : PySem.W.keepIn K (.ref f5) = true)
    (a6 : PySem.W.nsIn K mainGlobals "_law_lowest" = some (some (.ref f6))) (l6 : K.lookup f6 = some ⟨oc6, od6, .func (PySem.W.fnOf "_law_lowest" "_law_lowest" (defArgs s_law_lowest) (defBody s_law_lowest) (defScope s_law_lowest) .none kV6 dc6 pm6 an6 cd6 ct6), sl6⟩) (c6 : PySem.W.codeIn K cd6 "_law_lowest" = true) (k6 : PySem.W.keepIn K (.ref f6) = true)
    (a7 : PySem.W.nsIn K mainGlobals "_law_sign" = some (some (.ref f7))) (l7 : K.lookup f7 = some ⟨oc7, od7, .func (PySem.W.fnOf "_law_sign" "_law_sign" (defArgs s_law_sign) (defBody s_law_sign) (defScope s_law_sign) .none kV7 dc7 pm7 an7 cd7 ct7), sl7⟩) (c7 : PySem.W.codeIn K cd7 "_law_sign" = true) (k7 : PySem.W.keepIn K (.ref f7) = true)
    (a8 : PySem.W.nsIn K mainGlobals "_law_doubled" = some (some (.ref f8))) (l8 : K.lookup f8 = some ⟨oc8, od8, .func (PySem.W.fnOf "_law_doubled" "_law_doubled" (defArgs s_law_doubled) (defBody s_law_doubled) (defScope s_law_doubled) .none kV8 dc8 pm8 an8 cd8 ct8), sl8⟩) (c8 : PySem.W.codeIn K cd8 "_law_doubled" = true) (k8 : PySem.W.keepIn K (.ref f8) = true)
    (a9 : PySem.W.nsIn K mainGlobals "_law_turn" = some (some (.ref f9))) (l9 : K.lookup f9 = some ⟨oc9, od9, .func (PySem.W.fnOf "_law_turn" "_law_turn" (defArgs s_law_turn) (defBody s_law_turn) (defScope s_law_turn) .none kV9 dc9 pm9 an9 cd9 ct9), sl9⟩) (c9 : PySem.W.codeIn K cd9 "_law_turn" = true) (k9 : PySem.W.keepIn K (.ref f9) = true)
    (a10 : PySem.W.nsIn K mainGlobals "_law_det" = some (some (.ref f10))) (l10 : K.lookup f10 = some ⟨oc10, od10, .func (PySem.W.fnOf "_law_det" "_law_det" (defArgs s_law_det) (defBody s_law_det) (defScope s_law_det) .none kV10 dc10 pm10 an10 cd10 ct10), sl10⟩) (c10 : PySem.W.codeIn K cd10 "_law_det" = true) (k10 : PySem.W.keepIn K (.ref f10) = true)
    (a11 : PySem.W.nsIn K mainGlobals "_law_in_circle" = some (some (.ref f11))) (l11 : K.lookup f11 = some ⟨oc11, od11, .func (PySem.W.fnOf "_law_in_circle" "_law_in_circle" (defArgs s_law_in_circle) (defBody s_law_in_circle) (defScope s_law_in_circle) .none kV11 dc11 pm11 an11 cd11 ct11), sl11⟩) (c11 : PySem.W.codeIn K cd11 "_law_in_circle" = true) (k11 : PySem.W.keepIn K (.ref f11) = true)
    (a12 : PySem.W.nsIn K mainGlobals "_law_sites" = some (some (.ref f12))) (l12 : K.lookup f12 = some ⟨oc12, od12, .func (PySem.W.fnOf "_law_sites" "_law_sites" (defArgs s_law_sites) (defBody s_law_sites) (defScope s_law_sites) .none kV12 dc12 pm12 an12 cd12 ct12), sl12⟩) (c12 : PySem.W.codeIn K cd12 "_law_sites" = true) (k12 : PySem.W.keepIn K (.ref f12) = true)
    (a13 : PySem.W.nsIn K mainGlobals "is_in" = some (some (.ref f13))) (l13 : K.lookup f13 = some ⟨oc13, od13, .func (PySem.W.fnOf "is_in" "is_in" (defArgs s_is_in) (defBody s_is_in) (defScope s_is_in) .none kV13 dc13 pm13 an13 cd13 ct13), sl13⟩) (c13 : PySem.W.codeIn K cd13 "is_in" = true) (k13 : PySem.W.keepIn K (.ref f13) = true)
    (a14 : PySem.W.nsIn K mainGlobals "gcd" = some (some (.ref f14))) (l14 : K.lookup f14 = some ⟨oc14, od14, .func (PySem.W.fnOf "gcd" "gcd" (defArgs s_gcd) (defBody s_gcd) (defScope s_gcd) .none kV14 dc14 pm14 an14 cd14 ct14), sl14⟩) (c14 : PySem.W.codeIn K cd14 "gcd" = true) (k14 : PySem.W.keepIn K (.ref f14) = true)
    (a15 : PySem.W.nsIn K mainGlobals "is_point" = some (some (.ref f15))) (l15 : K.lookup f15 = some ⟨oc15, od15, .func (PySem.W.fnOf "is_point" "is_point" (defArgs s_is_point) (defBody s_is_point) (defScope s_is_point) .none kV15 dc15 pm15 an15 cd15 ct15), sl15⟩) (c15 : PySem.W.codeIn K cd15 "is_point" = true) (k15 : PySem.W.keepIn K (.ref f15) = true)
    (a16 : PySem.W.nsIn K mainGlobals "need_points" = some (some (.ref f16))) (l16 : K.lookup f16 = some ⟨oc16, od16, .func (PySem.W.fnOf "need_points" "need_points" (defArgs s_need_points) (defBody s_need_points) (defScope s_need_points) .none kV16 dc16 pm16 an16 cd16 ct16), sl16⟩) (c16 : PySem.W.codeIn K cd16 "need_points" = true) (k16 : PySem.W.keepIn K (.ref f16) = true)
    (a17 : PySem.W.nsIn K mainGlobals "sign" = some (some (.ref f17))) (l17 : K.lookup f17 = some ⟨oc17, od17, .func (PySem.W.fnOf "sign" "sign" (defArgs s_sign) (defBody s_sign) (defScope s_sign) .none kV17 dc17 pm17 an17 cd17 ct17), sl17⟩) (c17 : PySem.W.codeIn K cd17 "sign" = true) (k17 : PySem.W.keepIn K (.ref f17) = true)
    (a18 : PySem.W.nsIn K mainGlobals "doubled" = some (some (.ref f18))) (l18 : K.lookup f18 = some ⟨oc18, od18, .func (PySem.W.fnOf "doubled" "doubled" (defArgs s_doubled) (defBody s_doubled) (defScope s_doubled) .none kV18 dc18 pm18 an18 cd18 ct18), sl18⟩) (c18 : PySem.W.codeIn K cd18 "doubled" = true) (k18 : PySem.W.keepIn K (.ref f18) = true)
    (a19 : PySem.W.nsIn K mainGlobals "turn_of" = some (some (.ref f19))) (l19 : K.lookup f19 = some ⟨oc19, od19, .func (PySem.W.fnOf "turn_of" "turn_of" (defArgs s_turn_of) (defBody s_turn_of) (defScope s_turn_of) .none kV19 dc19 pm19 an19 cd19 ct19), sl19⟩) (c19 : PySem.W.codeIn K cd19 "turn_of" = true) (k19 : PySem.W.keepIn K (.ref f19) = true)
    (a20 : PySem.W.nsIn K mainGlobals "need_general" = some (some (.ref f20))) (l20 : K.lookup f20 = some ⟨oc20, od20, .func (PySem.W.fnOf "need_general" "need_general" (defArgs s_need_general) (defBody s_need_general) (defScope s_need_general) .none kV20 dc20 pm20 an20 cd20 ct20), sl20⟩) (c20 : PySem.W.codeIn K cd20 "need_general" = true) (k20 : PySem.W.keepIn K (.ref f20) = true)
    (a21 : PySem.W.nsIn K mainGlobals "pairs_in" = some (some (.ref f21))) (l21 : K.lookup f21 = some ⟨oc21, od21, .func (PySem.W.fnOf "pairs_in" "pairs_in" (defArgs s_pairs_in) (defBody s_pairs_in) (defScope s_pairs_in) .none kV21 dc21 pm21 an21 cd21 ct21), sl21⟩) (c21 : PySem.W.codeIn K cd21 "pairs_in" = true) (k21 : PySem.W.keepIn K (.ref f21) = true)
    (a22 : PySem.W.nsIn K mainGlobals "triples_in" = some (some (.ref f22))) (l22 : K.lookup f22 = some ⟨oc22, od22, .func (PySem.W.fnOf "triples_in" "triples_in" (defArgs s_triples_in) (defBody s_triples_in) (defScope s_triples_in) .none kV22 dc22 pm22 an22 cd22 ct22), sl22⟩) (c22 : PySem.W.codeIn K cd22 "triples_in" = true) (k22 : PySem.W.keepIn K (.ref f22) = true)
    (a23 : PySem.W.nsIn K mainGlobals "common_weight" = some (some (.ref f23))) (l23 : K.lookup f23 = some ⟨oc23, od23, .func (PySem.W.fnOf "common_weight" "common_weight" (defArgs s_common_weight) (defBody s_common_weight) (defScope s_common_weight) .none kV23 dc23 pm23 an23 cd23 ct23), sl23⟩) (c23 : PySem.W.codeIn K cd23 "common_weight" = true) (k23 : PySem.W.keepIn K (.ref f23) = true)
    (a24 : PySem.W.nsIn K mainGlobals "scaled" = some (some (.ref f24))) (l24 : K.lookup f24 = some ⟨oc24, od24, .func (PySem.W.fnOf "scaled" "scaled" (defArgs s_scaled) (defBody s_scaled) (defScope s_scaled) .none kV24 dc24 pm24 an24 cd24 ct24), sl24⟩) (c24 : PySem.W.codeIn K cd24 "scaled" = true) (k24 : PySem.W.keepIn K (.ref f24) = true)
    (a25 : PySem.W.nsIn K mainGlobals "minor" = some (some (.ref f25))) (l25 : K.lookup f25 = some ⟨oc25, od25, .func (PySem.W.fnOf "minor" "minor" (defArgs s_minor) (defBody s_minor) (defScope s_minor) .none kV25 dc25 pm25 an25 cd25 ct25), sl25⟩) (c25 : PySem.W.codeIn K cd25 "minor" = true) (k25 : PySem.W.keepIn K (.ref f25) = true)
    (a26 : PySem.W.nsIn K mainGlobals "side_of" = some (some (.ref f26))) (l26 : K.lookup f26 = some ⟨oc26, od26, .func (PySem.W.fnOf "side_of" "side_of" (defArgs s_side_of) (defBody s_side_of) (defScope s_side_of) .none kV26 dc26 pm26 an26 cd26 ct26), sl26⟩) (c26 : PySem.W.codeIn K cd26 "side_of" = true) (k26 : PySem.W.keepIn K (.ref f26) = true)
    (a27 : PySem.W.nsIn K mainGlobals "need_sites" = some (some (.ref f27))) (l27 : K.lookup f27 = some ⟨oc27, od27, .func (PySem.W.fnOf "need_sites" "need_sites" (defArgs s_need_sites) (defBody s_need_sites) (defScope s_need_sites) .none kV27 dc27 pm27 an27 cd27 ct27), sl27⟩) (c27 : PySem.W.codeIn K cd27 "need_sites" = true) (k27 : PySem.W.keepIn K (.ref f27) = true)
    (a28 : PySem.W.nsIn K mainGlobals "need_size" = some (some (.ref f28))) (l28 : K.lookup f28 = some ⟨oc28, od28, .func (PySem.W.fnOf "need_size" "need_size" (defArgs s_need_size) (defBody s_need_size) (defScope s_need_size) .none kV28 dc28 pm28 an28 cd28 ct28), sl28⟩) (c28 : PySem.W.codeIn K cd28 "need_size" = true) (k28 : PySem.W.keepIn K (.ref f28) = true)
    (a29 : PySem.W.nsIn K mainGlobals "inside_of" = some (some (.ref f29))) (l29 : K.lookup f29 = some ⟨oc29, od29, .func (PySem.W.fnOf "inside_of" "inside_of" (defArgs s_inside_of) (defBody s_inside_of) (defScope s_inside_of) .none kV29 dc29 pm29 an29 cd29 ct29), sl29⟩) (c29 : PySem.W.codeIn K cd29 "inside_of" = true) (k29 : PySem.W.keepIn K (.ref f29) = true)
    (a30 : PySem.W.nsIn K mainGlobals "choices_at" = some (some (.ref f30))) (l30 : K.lookup f30 = some ⟨oc30, od30, .func (PySem.W.fnOf "choices_at" "choices_at" (defArgs s_choices_at) (defBody s_choices_at) (defScope s_choices_at) .none kV30 dc30 pm30 an30 cd30 ct30), sl30⟩) (c30 : PySem.W.codeIn K cd30 "choices_at" = true) (k30 : PySem.W.keepIn K (.ref f30) = true)
    (a31 : PySem.W.nsIn K mainGlobals "nearest_choices" = some (some (.ref f31))) (l31 : K.lookup f31 = some ⟨oc31, od31, .func (PySem.W.fnOf "nearest_choices" "nearest_choices" (defArgs s_nearest_choices) (defBody s_nearest_choices) (defScope s_nearest_choices) .none kV31 dc31 pm31 an31 cd31 ct31), sl31⟩) (c31 : PySem.W.codeIn K cd31 "nearest_choices" = true) (k31 : PySem.W.keepIn K (.ref f31) = true)
    (a32 : PySem.W.nsIn K mainGlobals "lefts" = some (some (.ref f32))) (l32 : K.lookup f32 = some ⟨oc32, od32, .func (PySem.W.fnOf "lefts" "lefts" (defArgs s_lefts) (defBody s_lefts) (defScope s_lefts) .none kV32 dc32 pm32 an32 cd32 ct32), sl32⟩) (c32 : PySem.W.codeIn K cd32 "lefts" = true) (k32 : PySem.W.keepIn K (.ref f32) = true)
    (a33 : PySem.W.nsIn K mainGlobals "separable" = some (some (.ref f33))) (l33 : K.lookup f33 = some ⟨oc33, od33, .func (PySem.W.fnOf "separable" "separable" (defArgs s_separable) (defBody s_separable) (defScope s_separable) .none kV33 dc33 pm33 an33 cd33 ct33), sl33⟩) (c33 : PySem.W.codeIn K cd33 "separable" = true) (k33 : PySem.W.keepIn K (.ref f33) = true)
    (a34 : PySem.W.nsIn K mainGlobals "law" = some (some (.ref f34))) (l34 : K.lookup f34 = some ⟨oc34, od34, .func (PySem.W.fnOf "law" "law" (defArgs s_law) (defBody s_law) (defScope s_law) .none kV34 dc34 pm34 an34 cd34 ct34), sl34⟩) (c34 : PySem.W.codeIn K cd34 "law" = true) (k34 : PySem.W.keepIn K (.ref f34) = true)
    (z1 : PySem.W.nsIn K mainGlobals "isinstance" = some none)
    (z2 : PySem.W.nsIn K mainGlobals "int" = some none)
    (z3 : PySem.W.nsIn K mainGlobals "bool" = some none)
    (z4 : PySem.W.nsIn K mainGlobals "abs" = some none)
    (z5 : PySem.W.nsIn K mainGlobals "tuple" = some none)
    (z6 : PySem.W.nsIn K mainGlobals "len" = some none)
    (z7 : PySem.W.nsIn K mainGlobals "range" = some none)
    (z8 : PySem.W.nsIn K mainGlobals "sorted" = some none)
    (z9 : PySem.W.nsIn K mainGlobals "set" = some none)
    (z10 : PySem.W.nsIn K mainGlobals "list" = some none)
    (y1 : PySem.W.nsIn K mainGlobals "MOST_POINTS" = some (some (.int 40 tP))) (y2 : PySem.W.nsIn K mainGlobals "MOST_NEAR" = some (some (.int 8 tN))) :
    ∃ fd : FuncData, (∀ (s : Shared) (v : Value), BindsTo s fd ⟨[v], []⟩ [("_law_script", v)]) ∧ ∀ base : Heap, K.In base → base.Ns mainGlobals mg → FnOk P w K mg base CX0 8 fa fd ["_law_script"] (sp_law K) := by
  have e := hfa.symm.trans (PySem.W.mg_of X G a34)
  cases e
  obtain ⟨tL, gL⟩ := XL
  have F1 := fun_mk (st := s_law_taken) l1 c1 k1
  have b1 := F1.binds (ps := ["_law_row", "_law_many"]) fun _ _ _ _ _ _ us hl => match us, hl with | [_, _], _ => rfl
  have F2 := fun_mk (st := s_law_pick) l2 c2 k2
  have b2 := F2.binds (ps := ["_law_row", "_law_things"]) fun _ _ _ _ _ _ us hl => match us, hl with | [_, _], _ => rfl
  have F3 := fun_mk (st := s_law_signed) l3 c3 k3
  have b3 := F3.binds (ps := ["_law_row", "_law_most"]) fun _ _ _ _ _ _ us hl => match us, hl with | [_, _], _ => rfl
  have F4 := fun_mk (st := s_law_grid) l4 c4 k4
  have b4 := F4.binds (ps := ["_law_row", "_law_size"]) fun _ _ _ _ _ _ us hl => match us, hl with | [_, _], _ => rfl
  have F5 := fun_mk (st := s_law_gcd) l5 c5 k5
  have b5 := F5.binds (ps := ["_law_one", "_law_other"]) fun _ _ _ _ _ _ us hl => match us, hl with | [_, _], _ => rfl
  have F6 := fun_mk (st := s_law_lowest) l6 c6 k6
  have b6 := F6.binds (ps := ["_law_x", "_law_y", "_law_w"]) fun _ _ _ _ _ _ us hl => match us, hl with | [_, _, _], _ => rfl
  have F7 := fun_mk (st := s_law_sign) l7 c7 k7
  have b7 := F7.binds (ps := ["_law_number"]) fun _ _ _ _ _ _ us hl => match us, hl with | [_], _ => rfl
  have F8 := fun_mk (st := s_law_doubled) l8 c8 k8
  have b8 := F8.binds (ps := ["_law_a", "_law_b", "_law_c"]) fun _ _ _ _ _ _ us hl => match us, hl with | [_, _, _], _ => rfl
  have F9 := fun_mk (st := s_law_turn) l9 c9 k9
  have b9 := F9.binds (ps := ["_law_a", "_law_b", "_law_c"]) fun _ _ _ _ _ _ us hl => match us, hl with | [_, _, _], _ => rfl
  have F10 := fun_mk (st := s_law_det) l10 c10 k10
  have b10 := F10.binds (ps := ["_law_a", "_law_b", "_law_c"]) fun _ _ _ _ _ _ us hl => match us, hl with | [_, _, _], _ => rfl
  have F11 := fun_mk (st := s_law_in_circle) l11 c11 k11
  have b11 := F11.binds (ps := ["_law_a", "_law_b", "_law_c", "_law_d"]) fun _ _ _ _ _ _ us hl => match us, hl with | [_, _, _, _], _ => rfl
  have F12 := fun_mk (st := s_law_sites) l12 c12 k12
  have b12 := F12.binds (ps := ["_law_row", "_law_least", "_law_most"]) fun _ _ _ _ _ _ us hl => match us, hl with | [_, _, _], _ => rfl
  have F13 := fun_mk (st := s_is_in) l13 c13 k13
  have b13 := F13.binds (ps := ["value", "least", "most"]) fun _ _ _ _ _ _ us hl => match us, hl with | [_, _, _], _ => rfl
  have F14 := fun_mk (st := s_gcd) l14 c14 k14
  have b14 := F14.binds (ps := ["one", "other"]) fun _ _ _ _ _ _ us hl => match us, hl with | [_, _], _ => rfl
  have F15 := fun_mk (st := s_is_point) l15 c15 k15
  have b15 := F15.binds (ps := ["value"]) fun _ _ _ _ _ _ us hl => match us, hl with | [_], _ => rfl
  have F16 := fun_mk (st := s_need_points) l16 c16 k16
  have b16 := F16.binds (ps := ["value"]) fun _ _ _ _ _ _ us hl => match us, hl with | [_], _ => rfl
  have F17 := fun_mk (st := s_sign) l17 c17 k17
  have b17 := F17.binds (ps := ["number"]) fun _ _ _ _ _ _ us hl => match us, hl with | [_], _ => rfl
  have F18 := fun_mk (st := s_doubled) l18 c18 k18
  have b18 := F18.binds (ps := ["a", "b", "c"]) fun _ _ _ _ _ _ us hl => match us, hl with | [_, _, _], _ => rfl
  have F19 := fun_mk (st := s_turn_of) l19 c19 k19
  have b19 := F19.binds (ps := ["a", "b", "c"]) fun _ _ _ _ _ _ us hl => match us, hl with | [_, _, _], _ => rfl
  have F20 := fun_mk (st := s_need_general) l20 c20 k20
  have b20 := F20.binds (ps := ["points"]) fun _ _ _ _ _ _ us hl => match us, hl with | [_], _ => rfl
  have F21 := fun_mk (st := s_pairs_in) l21 c21 k21
  have b21 := F21.binds (ps := ["many"]) fun _ _ _ _ _ _ us hl => match us, hl with | [_], _ => rfl
  have F22 := fun_mk (st := s_triples_in) l22 c22 k22
  have b22 := F22.binds (ps := ["many"]) fun _ _ _ _ _ _ us hl => match us, hl with | [_], _ => rfl
  have F23 := fun_mk (st := s_common_weight) l23 c23 k23
  have b23 := F23.binds (ps := ["points"]) fun _ _ _ _ _ _ us hl => match us, hl with | [_], _ => rfl
  have F24 := fun_mk (st := s_scaled) l24 c24 k24
  have b24 := F24.binds (ps := ["points"]) fun _ _ _ _ _ _ us hl => match us, hl with | [_], _ => rfl
  have F25 := fun_mk (st := s_minor) l25 c25 k25
  have b25 := F25.binds (ps := ["a", "b", "c"]) fun _ _ _ _ _ _ us hl => match us, hl with | [_, _, _], _ => rfl
  have F26 := fun_mk (st := s_side_of) l26 c26 k26
  have b26 := F26.binds (ps := ["a", "b", "c", "d"]) fun _ _ _ _ _ _ us hl => match us, hl with | [_, _, _, _], _ => rfl
  have F27 := fun_mk (st := s_need_sites) l27 c27 k27
  have b27 := F27.binds (ps := ["points"]) fun _ _ _ _ _ _ us hl => match us, hl with | [_], _ => rfl
  have F28 := fun_mk (st := s_need_size) l28 c28 k28
  have b28 := F28.binds (ps := ["points", "k"]) fun _ _ _ _ _ _ us hl => match us, hl with | [_, _], _ => rfl
  have F29 := fun_mk (st := s_inside_of) l29 c29 k29
  have b29 := F29.binds (ps := ["points", "triple"]) fun _ _ _ _ _ _ us hl => match us, hl with | [_, _], _ => rfl
  have F30 := fun_mk (st := s_choices_at) l30 c30 k30
  have b30 := F30.binds (ps := ["points", "k"]) fun _ _ _ _ _ _ us hl => match us, hl with | [_, _], _ => rfl
  have F31 := fun_mk (st := s_nearest_choices) l31 c31 k31
  have b31 := F31.binds (ps := ["points", "k"]) fun _ _ _ _ _ _ us hl => match us, hl with | [_, _], _ => rfl
  have F32 := fun_mk (st := s_lefts) l32 c32 k32
  have b32 := F32.binds (ps := ["points", "a", "b"]) fun _ _ _ _ _ _ us hl => match us, hl with | [_, _, _], _ => rfl
  have F33 := fun_mk (st := s_separable) l33 c33 k33
  have b33 := F33.binds (ps := ["points", "k"]) fun _ _ _ _ _ _ us hl => match us, hl with | [_, _], _ => rfl
  have F34 := fun_mk (st := s_law) l34 c34 k34
  have b34 := F34.binds (ps := ["_law_script"]) fun _ _ _ _ _ _ us hl => match us, hl with | [_], _ => rfl
  have M : ∃ M : Txt K mg, M.a_law = fa ∧ M.fd_law = PySem.W.fnOf "law" "law" (defArgs s_law) (defBody s_law) (defScope s_law) .none kV34 dc34 pm34 an34 cd34 ct34 := ⟨{ n_isinstance := PySem.W.mg_none_of X G z1, n_int := PySem.W.mg_none_of X G z2, n_bool := PySem.W.mg_none_of X G z3, n_abs := PySem.W.mg_none_of X G z4, n_tuple := PySem.W.mg_none_of X G z5, n_len := PySem.W.mg_none_of X G z6, n_range := PySem.W.mg_none_of X G z7, n_sorted := PySem.W.mg_none_of X G z8, n_set := PySem.W.mg_none_of X G z9, n_list := PySem.W.mg_none_of X G z10, t_LARGEST := tL, g_LARGEST := gL, t_MOST_POINTS := tP, g_MOST_POINTS := PySem.W.mg_of X G y1, t_MOST_NEAR := tN, g_MOST_NEAR := PySem.W.mg_of X G y2, a_law_taken := f1, fd_law_taken := _, F_law_taken := F1, g_law_taken := PySem.W.mg_of X G a1, b_law_taken := b1, a_law_pick := f2, fd_law_pick := _, F_law_pick := F2, g_law_pick := PySem.W.mg_of X G a2, b_law_pick := b2, a_law_signed := f3, fd_law_signed := _, F_law_signed := F3, g_law_signed := PySem.W.mg_of X G a3, b_law_signed := b3, a_law_grid := f4, fd_law_grid := _, F_law_grid := F4, g_law_grid := PySem.W.mg_of X G a4, b_law_grid := b4, a_law_gcd := f5, fd_law_gcd := _, F_law_gcd := F5, g_law_gcd := PySem.W.mg_of X G a5, b_law_gcd := b5, a_law_lowest := f6, fd_law_lowest := _, F_law_lowest := F6, g_law_lowest := PySem.W.mg_of X G a6, b_law_lowest := b6, a_law_sign := f7, fd_law_sign := _, F_law_sign := F7, g_law_sign := PySem.W.mg_of X G a7, b_law_sign := b7, a_law_doubled := f8, fd_law_doubled := _, F_law_doubled := F8, g_law_doubled := PySem.W.mg_of X G a8, b_law_doubled := b8, a_law_turn := f9, fd_law_turn := _, F_law_turn := F9, g_law_turn := PySem.W.mg_of X G a9, b_law_turn := b9, a_law_det := f10, fd_law_det := _, F_law_det := F10, g_law_det := PySem.W.mg_of X G a10, b_law_det := b10, a_law_in_circle := f11, fd_law_in_circle := _, F_law_in_circle := F11, g_law_in_circle := PySem.W.mg_of X G a11, b_law_in_circle := b11, a_law_sites := f12, fd_law_sites := _, F_law_sites := F12, g_law_sites := PySem.W.mg_of X G a12, b_law_sites := b12, a_is_in := f13, fd_is_in := _, F_is_in := F13, g_is_in := PySem.W.mg_of X G a13, b_is_in := b13, a_gcd := f14, fd_gcd := _, F_gcd := F14, g_gcd := PySem.W.mg_of X G a14, b_gcd := b14, a_is_point := f15, fd_is_point := _, F_is_point := F15, g_is_point := PySem.W.mg_of X G a15, b_is_point := b15, a_need_points := f16, fd_need_points := _, F_need_points := F16, g_need_points := PySem.W.mg_of X G a16, b_need_points := b16, a_sign := f17, fd_sign := _, F_sign := F17, g_sign := PySem.W.mg_of X G a17, b_sign := b17, a_doubled := f18, fd_doubled := _, F_doubled := F18, g_doubled := PySem.W.mg_of X G a18, b_doubled := b18, a_turn_of := f19, fd_turn_of := _, F_turn_of := F19, g_turn_of := PySem.W.mg_of X G a19, b_turn_of := b19, a_need_general := f20, fd_need_general := _, F_need_general := F20, g_need_general := PySem.W.mg_of X G a20, b_need_general := b20, a_pairs_in := f21, fd_pairs_in := _, F_pairs_in := F21, g_pairs_in := PySem.W.mg_of X G a21, b_pairs_in := b21, a_triples_in := f22, fd_triples_in := _, F_triples_in := F22, g_triples_in := PySem.W.mg_of X G a22, b_triples_in := b22, a_common_weight := f23, fd_common_weight := _, F_common_weight := F23, g_common_weight := PySem.W.mg_of X G a23, b_common_weight := b23, a_scaled := f24, fd_scaled := _, F_scaled := F24, g_scaled := PySem.W.mg_of X G a24, b_scaled := b24, a_minor := f25, fd_minor := _, F_minor := F25, g_minor := PySem.W.mg_of X G a25, b_minor := b25, a_side_of := f26, fd_side_of := _, F_side_of := F26, g_side_of := PySem.W.mg_of X G a26, b_side_of := b26, a_need_sites := f27, fd_need_sites := _, F_need_sites := F27, g_need_sites := PySem.W.mg_of X G a27, b_need_sites := b27, a_need_size := f28, fd_need_size := _, F_need_size := F28, g_need_size := PySem.W.mg_of X G a28, b_need_size := b28, a_inside_of := f29, fd_inside_of := _, F_inside_of := F29, g_inside_of := PySem.W.mg_of X G a29, b_inside_of := b29, a_choices_at := f30, fd_choices_at := _, F_choices_at := F30, g_choices_at := PySem.W.mg_of X G a30, b_choices_at := b30, a_nearest_choices := f31, fd_nearest_choices := _, F_nearest_choices := F31, g_nearest_choices := PySem.W.mg_of X G a31, b_nearest_choices := b31, a_lefts := f32, fd_lefts := _, F_lefts := F32, g_lefts := PySem.W.mg_of X G a32, b_lefts := b32, a_separable := f33, fd_separable := _, F_separable := F33, g_separable := PySem.W.mg_of X G a33, b_separable := b33, a_law := fa, fd_law := _, F_law := F34, g_law := PySem.W.mg_of X G a34, b_law := b34 }, rfl, rfl⟩
  obtain ⟨M, ea, ef⟩ := M
  refine ⟨M.fd_law, fun s v => by rw [ef]; exact .of_eq rfl, fun base _ _ => ?_⟩
  have ok := ok_law (P := P) (w := w) (base := base) M
  rw [ea] at ok
  exact ok

/-- the end, with what the loose constant is -/
theorem walk_x {l : PySem.W.OpenLaw} {n k : Nat} {q : Program} {loose : List Str} {XP : (Str → Option Value) → Heap → Prop} {YP : World → Heap → Prop} {d : DefRec} {K : Params → PySem.W.Frag} {CX : World → CXT} {sp : World → Sp} {x : Str}
    (hn : l.most = some n) (hn2 : n ≤ sizeLine) (hdf : d.params.defaults = []) (hr : Room k callerA)
    (hY : ∀ (w : World) (h : Heap), YP w h → (K w.params).In h)
    (F : ∀ (w : World) (mg : Str → Option Value) (fa : Addr) (h : Heap), (K w.params).In h → h.Ns mainGlobals mg → XP mg h → mg d.name = some (.ref fa) →
      ∃ fd : FuncData, (∀ (s : Shared) (u : Value), BindsTo s fd ⟨[u], []⟩ [(x, u)]) ∧
        ∀ base : Heap, (K w.params).In base → base.Ns mainGlobals mg → FnOk l.prog w (K w.params) mg base (CX w) k fa fd [x] (sp w))
    (hsp : ∀ (w : World) (H : Hp) (a : Addr) (ns : List Int), SqL (K w.params) H a (ns.map V.int) → sp w [.ref a] H (fun v _ => v = .bl true) fun _ _ _ => False)
    (hCX : ∀ (w : World) (H : Hp) (s : Shared) (e : Value) (s' : Shared), CX w [] H s (fun _ _ _ => False) e s' → False) :
    PySem.W.WalkO q loose XP YP l.row.toRowW d [] (fun f vs => PySem.call f vs) := by
  refine Att.attach_call hn hdf fun w s₀ s₁ mg mb fa o pm cd doc a vs ns G Y ho hd hcd hmg hobj hints hlen hg => ?_
  obtain ⟨fd, hb, hF⟩ := F w mg fa _ (hY w _ Y) G.T.g G.X hmg
  exact law_call (hY w _ Y) G.T.g G.T.b G.T.builtins G.T.nolimit hg hobj hints (Nat.le_trans hlen hn2) hr hF hb (fun H _ hS => hsp w H a ns hS) fun H e s' => hCX w H s₁ e s'
theorem largest {p : Program} {mg : Str → Option Value} {h : Heap} (x : PySem.W.XL p [("LARGEST", PySem.W.WData.int 1000000000000)] mg h) : ∃ t : Tok, mg "LARGEST" = some (.int 1000000000000 t) := by
  obtain ⟨v, e, r⟩ := x.2.val _ List.mem_cons_self
  cases r with
  | int i t => exact ⟨t, e⟩
theorem walk {l : PySem.W.OpenLaw} {q : Program} {loose : List Str} {XP : (Str → Option Value) → Heap → Prop} {YP : World → Heap → Prop} {d : DefRec} {K : Params → PySem.W.Frag} (hn : l.most = some 63) (hdf : d.params.defaults = [])
    (hY : ∀ (w : World) (h : Heap), YP w h → (K w.params).In h)
    (F : ∀ (w : World) (mg : Str → Option Value) (fa : Addr) (h : Heap), (K w.params).In h → h.Ns mainGlobals mg → XP mg h → mg d.name = some (.ref fa) →
      ∃ fd : FuncData, (∀ (s : Shared) (u : Value), BindsTo s fd ⟨[u], []⟩ [("_law_script", u)]) ∧ ∀ base : Heap, (K w.params).In base → base.Ns mainGlobals mg → FnOk l.prog w (K w.params) mg base CX0 8 fa fd ["_law_script"] (sp_law (K w.params))) :
    PySem.W.WalkO q loose XP YP l.row.toRowW d [] (fun f vs => PySem.call f vs) :=
  walk_x (n := 63) (k := 8) (x := "_law_script") (CX := fun _ => CX0) (sp := fun w => sp_law (K w.params)) hn (by decide) hdf ⟨rfl, by decide, by decide⟩ hY F (fun _ _ a ns hS => ⟨a, ns, rfl, hS, fun _ => rfl⟩) fun _ _ _ _ _ z => z
end Mc
open PySem PySem.W PyProof.Rows
set_option maxRecDepth 100000 in
set_option maxHeartbeats 0 in
theorem PySem.Challenge.cw_meshcore_k70_whole_numbers_of_cells_holds : PySem.Challenge.rw_meshcore_k70_whole_numbers_of_cells.Holds := by
  w_on; o_law; k_head; (case hw => w_witness2)
  k_fill
  refine Mc.walk (l := PySem.Challenge.rw_meshcore_k70_whole_numbers_of_cells) rfl rfl (fun w h Y => PySem.W.kIn_of Y) ?F
  case F =>
    intro w mg fa h KX G XP hmg
    have XL := Mc.largest XP
    refine' Mc.all_mk KX G XL hmg ?a1 ?l1 ?c1 ?k1 ?a2 ?l2 ?c2 ?k2 ?a3 ?l3 ?c3 ?k3 ?a4 ?l4 ?c4 ?k4 ?a5 ?l5 ?c5 ?k5 ?a6 ?l6 ?c6 ?k6 ?a7 ?l7 ?c7 ?k7 ?a8 ?l8 ?c8 ?k8 ?a9 ?l9 ?c9 ?k9 ?a10 ?l10 ?c10 ?k10 ?a11 ?l11 ?c11 ?k11 ?a12 ?l12 ?c12 ?k12 ?a13 ?l13 ?c13 ?k13 ?a14 ?l14 ?c14 ?k14 ?a15 ?l15 ?c15 ?k15 ?a16 ?l16 ?c16 ?k16 ?a17 ?l17 ?c17 ?k17 ?a18 ?l18 ?c18 ?k18 ?a19 ?l19 ?c19 ?k19 ?a20 ?l20 ?c20 ?k20 ?a21 ?l21 ?c21 ?k21 ?a22 ?l22 ?c22 ?k22 ?a23 ?l23 ?c23 ?k23 ?a24 ?l24 ?c24 ?k24 ?a25 ?l25 ?c25 ?k25 ?a26 ?l26 ?c26 ?k26 ?a27 ?l27 ?c27 ?k27 ?a28 ?l28 ?c28 ?k28 ?a29 ?l29 ?c29 ?k29 ?a30 ?l30 ?c30 ?k30 ?a31 ?l31 ?c31 ?k31 ?a32 ?l32 ?c32 ?k32 ?a33 ?l33 ?c33 ?k33 ?a34 ?l34 ?c34 ?k34 ?z1 ?z2 ?z3 ?z4 ?z5 ?z6 ?z7 ?z8 ?z9 ?z10 ?y1 ?y2
    (case a1 => k_is); (case l1 => k_is); (case c1 => k_is); (case k1 => k_is)
    (case a2 => k_is); (case l2 => k_is); (case c2 => k_is); (case k2 => k_is)
    (case a3 => k_is); (case l3 => k_is); (case c3 => k_is); (case k3 => k_is)
    (case a4 => k_is); (case l4 => k_is); (case c4 => k_is); (case k4 => k_is)
    (case a5 => k_is); (case l5 => k_is); (case c5 => k_is); (case k5 => k_is)
    (case a6 => k_is); (case l6 => k_is); (case c6 => k_is); (case k6 => k_is)
    (case a7 => k_is); (case l7 => k_is); (case c7 => k_is); (case k7 => k_is)
    (case a8 => k_is); (case l8 => k_is); (case c8 => k_is); (case k8 => k_is)
    (case a9 => k_is); (case l9 => k_is); (case c9 => k_is); (case k9 => k_is)
    (case a10 => k_is); (case l10 => k_is); (case c10 => k_is); (case k10 => k_is)
    (case a11 => k_is); (case l11 => k_is); (case c11 => k_is); (case k11 => k_is)
    (case a12 => k_is); (case l12 => k_is); (case c12 => k_is); (case k12 => k_is)
    (case a13 => k_is); (case l13 => k_is); (case c13 => k_is); (case k13 => k_is)
    (case a14 => k_is); (case l14 => k_is); (case c14 => k_is); (case k14 => k_is)
    (case a15 => k_is); (case l15 => k_is); (case c15 => k_is); (case k15 => k_is)
    (case a16 => k_is); (case l16 => k_is); (case c16 => k_is); (case k16 => k_is)
    (case a17 => k_is); (case l17 => k_is); (case c17 => k_is); (case k17 => k_is)
    (case a18 => k_is); (case l18 => k_is); (case c18 => k_is); (case k18 => k_is)
    (case a19 => k_is); (case l19 => k_is); (case c19 => k_is); (case k19 => k_is)
    (case a20 => k_is); (case l20 => k_is); (case c20 => k_is); (case k20 => k_is)
    (case a21 => k_is); (case l21 => k_is); (case c21 => k_is); (case k21 => k_is)
    (case a22 => k_is); (case l22 => k_is); (case c22 => k_is); (case k22 => k_is)
    (case a23 => k_is); (case l23 => k_is); (case c23 => k_is); (case k23 => k_is)
    (case a24 => k_is); (case l24 => k_is); (case c24 => k_is); (case k24 => k_is)
    (case a25 => k_is); (case l25 => k_is); (case c25 => k_is); (case k25 => k_is)
    (case a26 => k_is); (case l26 => k_is); (case c26 => k_is); (case k26 => k_is)
    (case a27 => k_is); (case l27 => k_is); (case c27 => k_is); (case k27 => k_is)
    (case a28 => k_is); (case l28 => k_is); (case c28 => k_is); (case k28 => k_is)
    (case a29 => k_is); (case l29 => k_is); (case c29 => k_is); (case k29 => k_is)
    (case a30 => k_is); (case l30 => k_is); (case c30 => k_is); (case k30 => k_is)
    (case a31 => k_is); (case l31 => k_is); (case c31 => k_is); (case k31 => k_is)
    (case a32 => k_is); (case l32 => k_is); (case c32 => k_is); (case k32 => k_is)
    (case a33 => k_is); (case l33 => k_is); (case c33 => k_is); (case k33 => k_is)
    (case a34 => k_is); (case l34 => k_is); (case c34 => k_is); (case k34 => k_is)
    (case z1 => k_is); (case z2 => k_is); (case z3 => k_is); (case z4 => k_is); (case z5 => k_is); (case z6 => k_is); (case z7 => k_is); (case z8 => k_is); (case z9 => k_is); (case z10 => k_is)
    (case y1 => k_is); (case y2 => k_is)
