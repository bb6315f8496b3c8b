import PyProof.Rows.All
import Wide.All
import OpenK.AllK
import Wide.FinOn
import HandS.ForMost
import HandS.Replace
import KE.SortData
import PyProof.CollectStr
import PyProof.StrLawsFirst
import PyProof.Rows.StrStrike
import HandS.IsInst
import HandS.TupLe
import HandS.TupAny
import HandS.TryOnly
import HandS.ExcOwn
import HandS.WordsExc
import HandS.DictComp
import KE.GoesMore
import PyProof.EnumMake
import HandS.StrMore
import HandS.Small
import KE.DataMinMax
import HandS.Lambda
import KE.SortKeyHeap
import HandS.SortKw
import HandS.EndTab
import HandS.Conv
import HandS.Deep
import PyProof.Rows.StrJoinStr
import PyProof.ListStr
import PyProof.DictUpdate
import KE.KNestM
import PySem.Challenge.RW_oncewords_k12_whole_lots_of_kinds
set_option Elab.async false
section OwMath
/-! Words in which first stands count: the plain mathematics (no program in sight). Letters are numbers; F x y: x and y are friends. -/
namespace Ow
/-- x stands ahead of y -/
def Bf : List Nat → Nat → Nat → Prop
  | [], _, _ => False
  | a :: r, x, y => (a = x ∧ y ∈ r) ∨ Bf r x y
theorem bf_mem : ∀ {s : List Nat} {x y : Nat}, Bf s x y → x ∈ s ∧ y ∈ s
  | a :: r, x, y, h => by
    rcases h with ⟨rfl, h⟩ | h
    · exact ⟨List.mem_cons_self, List.mem_cons_of_mem _ h⟩
    · obtain ⟨h1, h2⟩ := bf_mem h
      exact ⟨List.mem_cons_of_mem _ h1, List.mem_cons_of_mem _ h2⟩
theorem bf_append {x y : Nat} : ∀ {a b : List Nat}, Bf (a ++ b) x y ↔ Bf a x y ∨ Bf b x y ∨ (x ∈ a ∧ y ∈ b)
  | [], b => by simp [Bf]
  | c :: a, b => by
    have ih := bf_append (x := x) (y := y) (a := a) (b := b)
    simp only [List.cons_append, Bf, ih, List.mem_append, List.mem_cons]
    constructor
    · rintro (⟨rfl, h | h⟩ | h | h | ⟨h1, h2⟩)
      · exact .inl (.inl ⟨rfl, h⟩)
      · exact .inr (.inr ⟨.inl rfl, h⟩)
      · exact .inl (.inr h)
      · exact .inr (.inl h)
      · exact .inr (.inr ⟨.inr h1, h2⟩)
    · rintro ((⟨rfl, h⟩ | h) | h | ⟨h1 | h1, h2⟩)
      · exact .inl ⟨rfl, .inl h⟩
      · exact .inr (.inl h)
      · exact .inr (.inr (.inl h))
      · exact .inl ⟨h1.symm, .inr h2⟩
      · exact .inr (.inr (.inr ⟨h1, h2⟩))
theorem bf_filter {p : Nat → Bool} {x y : Nat} : ∀ {s : List Nat}, Bf (s.filter p) x y ↔ Bf s x y ∧ p x = true ∧ p y = true
  | [] => by simp [Bf]
  | a :: r => by
    have ih := bf_filter (p := p) (x := x) (y := y) (s := r)
    by_cases h : p a = true
    · rw [List.filter_cons_of_pos h]
      simp only [Bf, ih, List.mem_filter]
      constructor
      · rintro (⟨rfl, h1, h2⟩ | ⟨h1, h2, h3⟩)
        · exact ⟨.inl ⟨rfl, h1⟩, h, h2⟩
        · exact ⟨.inr h1, h2, h3⟩
      · rintro ⟨⟨rfl, h1⟩ | h1, h2, h3⟩
        · exact .inl ⟨rfl, h1, h3⟩
        · exact .inr ⟨h1, h2, h3⟩
    · rw [List.filter_cons_of_neg h]
      simp only [Bf, ih]
      constructor
      · rintro ⟨h1, h2, h3⟩
        exact ⟨.inr h1, h2, h3⟩
      · rintro ⟨⟨rfl, h1⟩ | h1, h2, h3⟩
        · exact absurd h2 h
        · exact ⟨h1, h2, h3⟩
theorem bf_total {x y : Nat} : ∀ {s : List Nat}, x ∈ s → y ∈ s → x ≠ y → Bf s x y ∨ Bf s y x
  | a :: r, hx, hy, ne => by
    rcases List.mem_cons.mp hx with rfl | hx
    · rcases List.mem_cons.mp hy with rfl | hy
      · exact absurd rfl ne
      · exact .inl (.inl ⟨rfl, hy⟩)
    · rcases List.mem_cons.mp hy with e | hy
      · exact .inr (.inl ⟨e.symm, hx⟩)
      · exact (bf_total hx hy ne).imp .inr .inr
theorem bf_irr {x : Nat} : ∀ {s : List Nat}, s.Nodup → ¬ Bf s x x
  | a :: r, nd, h => by
    obtain ⟨h1, h2⟩ := List.nodup_cons.mp nd
    rcases h with ⟨rfl, h⟩ | h
    · exact h1 h
    · exact bf_irr h2 h
theorem bf_asymm {x y : Nat} : ∀ {s : List Nat}, s.Nodup → Bf s x y → ¬ Bf s y x
  | a :: r, nd, h, k => by
    obtain ⟨h1, h2⟩ := List.nodup_cons.mp nd
    rcases h with ⟨rfl, h⟩ | h
    · rcases k with ⟨rfl, k⟩ | k
      · exact h1 h
      · exact h1 (bf_mem k).2
    · rcases k with ⟨rfl, k⟩ | k
      · exact h1 (bf_mem h).2
      · exact bf_asymm h2 h k
/-- the signs ahead of the first x -/
def ahd (s : List Nat) (x : Nat) : List Nat := s.takeWhile (fun y => y != x)
theorem mem_ahd {x y : Nat} : ∀ {s : List Nat}, s.Nodup → x ∈ s → (y ∈ ahd s x ↔ Bf s y x)
  | a :: r, nd, hx => by
    obtain ⟨h1, h2⟩ := List.nodup_cons.mp nd
    unfold ahd
    by_cases e : a = x
    · subst e
      rw [List.takeWhile_cons_of_neg (by simp)]
      constructor
      · intro h; cases h
      · rintro (⟨rfl, h⟩ | h)
        · exact absurd h h1
        · exact absurd (bf_mem h).2 h1
    · have hx' : x ∈ r := (List.mem_cons.mp hx).resolve_left (fun z => e z.symm)
      have ih := mem_ahd (y := y) h2 hx'
      unfold ahd at ih
      rw [List.takeWhile_cons_of_pos (by simpa using e), List.mem_cons, ih]
      constructor
      · rintro (rfl | h)
        · exact .inl ⟨rfl, hx'⟩
        · exact .inr h
      · rintro (⟨rfl, _⟩ | h)
        · exact .inl rfl
        · exact .inr h
/-- two rows of letters with the same letters, friends in the same order -/
def Eq' (F : Nat → Nat → Bool) (s t : List Nat) : Prop := (∀ x, x ∈ s ↔ x ∈ t) ∧ ∀ x y, F x y = true → (Bf s x y ↔ Bf t x y)
theorem Eq'.refl {F : Nat → Nat → Bool} (s : List Nat) : Eq' F s s := ⟨fun _ => Iff.rfl, fun _ _ _ => Iff.rfl⟩
theorem Eq'.symm {F : Nat → Nat → Bool} {s t : List Nat} (h : Eq' F s t) : Eq' F t s := ⟨fun x => (h.1 x).symm, fun x y f => (h.2 x y f).symm⟩
theorem Eq'.trans {F : Nat → Nat → Bool} {s t u : List Nat} (h : Eq' F s t) (k : Eq' F t u) : Eq' F s u := ⟨fun x => (h.1 x).trans (k.1 x), fun x y f => (h.2 x y f).trans (k.2 x y f)⟩
theorem Eq'.filter {F : Nat → Nat → Bool} {s t : List Nat} (h : Eq' F s t) (p : Nat → Bool) : Eq' F (s.filter p) (t.filter p) :=
  ⟨fun x => by rw [List.mem_filter, List.mem_filter, h.1 x], fun x y f => by rw [bf_filter, bf_filter, h.2 x y f]⟩
/-- no friend of x stands ahead of it -/
def fre (F : Nat → Nat → Bool) (s : List Nat) (x : Nat) : Bool := (ahd s x).all fun y => !F x y
theorem fre_iff {F : Nat → Nat → Bool} {s : List Nat} {x : Nat} (nd : s.Nodup) (hx : x ∈ s) : fre F s x = true ↔ ∀ y, F x y = true → ¬ Bf s y x := by
  unfold fre
  rw [List.all_eq_true]
  constructor
  · intro h y f b
    have := h y ((mem_ahd nd hx).mpr b)
    rw [f] at this
    cases this
  · intro h y hy
    cases f : F x y with
    | false => rfl
    | true => exact absurd ((mem_ahd nd hx).mp hy) (h y f)
/-- the least free letter -/
structure IsMin (F : Nat → Nat → Bool) (s : List Nat) (m : Nat) : Prop where
  mem : m ∈ s
  fr : fre F s m = true
  le : ∀ y ∈ s, fre F s y = true → m ≤ y
theorem IsMin.uniq {F : Nat → Nat → Bool} {s : List Nat} {m k : Nat} (h : IsMin F s m) (g : IsMin F s k) : m = k :=
  Nat.le_antisymm (h.le k g.mem g.fr) (g.le m h.mem h.fr)
def mf (F : Nat → Nat → Bool) (s : List Nat) : Nat := (s.filter (fre F s)).min?.getD 0
theorem fre_head {F : Nat → Nat → Bool} {a : Nat} {r : List Nat} : fre F (a :: r) a = true := by
  unfold fre ahd
  rw [List.takeWhile_cons_of_neg (by simp)]
  rfl
theorem mf_is {F : Nat → Nat → Bool} : ∀ {s : List Nat}, s ≠ [] → IsMin F s (mf F s)
  | [], h => absurd rfl h
  | a :: r, _ => by
    have hm : a ∈ (a :: r).filter (fre F (a :: r)) := List.mem_filter.mpr ⟨List.mem_cons_self, fre_head⟩
    cases e : ((a :: r).filter (fre F (a :: r))).min? with
    | none =>
      rw [List.min?_eq_none_iff] at e
      rw [e] at hm
      cases hm
    | some m =>
      have e2 : mf F (a :: r) = m := by unfold mf; rw [e]; rfl
      rw [e2]
      obtain ⟨h1, h2⟩ := List.min?_eq_some_iff.mp e
      obtain ⟨h3, h4⟩ := List.mem_filter.mp h1
      exact ⟨h3, h4, fun y hy hf => h2 y (List.mem_filter.mpr ⟨hy, hf⟩)⟩
theorem mf_eq {F : Nat → Nat → Bool} {s : List Nat} {m : Nat} (h : IsMin F s m) : mf F s = m :=
  (mf_is (F := F) (s := s) (fun e => by have := h.mem; rw [e] at this; cases this)).uniq h
/-- s without x -/
def del (s : List Nat) (x : Nat) : List Nat := s.filter (fun y => y != x)
theorem mem_del {s : List Nat} {x y : Nat} : y ∈ del s x ↔ y ∈ s ∧ y ≠ x := by
  unfold del
  rw [List.mem_filter]
  simp
theorem del_nodup {s : List Nat} (x : Nat) (nd : s.Nodup) : (del s x).Nodup := List.Nodup.sublist List.filter_sublist nd
theorem del_len {x : Nat} : ∀ {s : List Nat}, s.Nodup → x ∈ s → (del s x).length + 1 = s.length
  | a :: r, nd, hx => by
    obtain ⟨h1, h2⟩ := List.nodup_cons.mp nd
    unfold del
    by_cases e : a = x
    · subst e
      rw [List.filter_cons_of_neg (by simp)]
      have z : r.filter (fun y => y != a) = r := List.filter_eq_self.mpr fun y hy => by
        simp only [bne_iff_ne, ne_eq]
        rintro rfl
        exact h1 hy
      rw [z]
      rfl
    · have hx' : x ∈ r := (List.mem_cons.mp hx).resolve_left (fun z => e z.symm)
      have ih := del_len h2 hx'
      unfold del at ih
      rw [List.filter_cons_of_pos (by simpa using e), List.length_cons, List.length_cons, ih]
/-- the least row: n letters -/
def kd (F : Nat → Nat → Bool) : Nat → List Nat → List Nat
  | 0, _ => []
  | n + 1, s => mf F s :: kd F n (del s (mf F s))
theorem kd_len {F : Nat → Nat → Bool} : ∀ (n : Nat) (s : List Nat), (kd F n s).length = n
  | 0, _ => rfl
  | n + 1, s => by
    show (kd F n _).length + 1 = n + 1
    rw [kd_len n]
theorem IsMin.congr {F : Nat → Nat → Bool} {s t : List Nat} {m : Nat} (ns : s.Nodup) (nt : t.Nodup) (hF : ∀ x y, F x y = F y x) (e : Eq' F s t) (h : IsMin F s m) : IsMin F t m := by
  have key : ∀ x, x ∈ s → (fre F s x = true ↔ fre F t x = true) := fun x hx => by
    rw [fre_iff ns hx, fre_iff nt ((e.1 x).mp hx)]
    constructor
    · intro h y f b
      exact h y f ((e.2 y x (by rw [hF]; exact f)).mpr b)
    · intro h y f b
      exact h y f ((e.2 y x (by rw [hF]; exact f)).mp b)
  refine ⟨(e.1 m).mp h.mem, (key m h.mem).mp h.fr, fun y hy f => ?_⟩
  have hy' := (e.1 y).mpr hy
  exact h.le y hy' ((key y hy').mpr f)
theorem kd_congr {F : Nat → Nat → Bool} (hF : ∀ x y, F x y = F y x) : ∀ (n : Nat) {s t : List Nat}, s.Nodup → t.Nodup → s.length = n → Eq' F s t → kd F n s = kd F n t
  | 0, _, _, _, _, _, _ => rfl
  | n + 1, s, t, ns, nt, hl, e => by
    have hs : s ≠ [] := fun z => by rw [z] at hl; cases hl
    have ms := mf_is (F := F) hs
    have em : mf F s = mf F t := (mf_eq (ms.congr ns nt hF e)).symm
    show mf F s :: kd F n (del s (mf F s)) = mf F t :: kd F n (del t (mf F t))
    rw [← em]
    have l1 := del_len ns ms.mem
    rw [kd_congr hF n (del_nodup _ ns) (del_nodup _ nt) (by omega) (e.filter _)]
theorem kd_eq {F : Nat → Nat → Bool} (hF : ∀ x y, F x y = F y x) : ∀ (n : Nat) {s : List Nat}, s.Nodup → s.length = n → Eq' F (kd F n s) s ∧ (kd F n s).Nodup
  | 0, s, ns, hl => by
    have e : s = [] := List.eq_nil_of_length_eq_zero hl
    subst e
    exact ⟨Eq'.refl _, List.nodup_nil⟩
  | n + 1, s, ns, hl => by
    have hs : s ≠ [] := fun z => by rw [z] at hl; cases hl
    have ms := mf_is (F := F) hs
    have l1 := del_len ns ms.mem
    obtain ⟨e, nd⟩ := kd_eq hF n (del_nodup (mf F s) ns) (by omega)
    have hm := (fre_iff ns ms.mem).mp ms.fr
    generalize mf F s = m at ms l1 e nd hm
    have em : ∀ x, x ∈ kd F n (del s m) ↔ x ∈ s ∧ x ≠ m := fun x => (e.1 x).trans mem_del
    have key : kd F (n + 1) s = kd F (n + 1) s := rfl
    have ek : ∀ m', m' = m → mf F s = m' → Eq' F (kd F (n + 1) s) s ∧ (kd F (n + 1) s).Nodup := by
      rintro m' rfl hm'
      show Eq' F (mf F s :: kd F n (del s (mf F s))) s ∧ (mf F s :: kd F n (del s (mf F s))).Nodup
      rw [hm']
      refine ⟨⟨fun x => ?_, fun x y f => ?_⟩, List.nodup_cons.mpr ⟨fun z => ((em m').mp z).2 rfl, nd⟩⟩
      · rw [List.mem_cons, em x]
        constructor
        · rintro (rfl | h)
          · exact ms.mem
          · exact h.1
        · intro h
          by_cases z : x = m'
          · exact .inl z
          · exact .inr ⟨h, z⟩
      · show (m' = x ∧ y ∈ kd F n (del s m')) ∨ Bf (kd F n (del s m')) x y ↔ Bf s x y
        rw [em y, e.2 x y f]
        unfold del
        rw [bf_filter]
        constructor
        · rintro (⟨rfl, h1, h2⟩ | ⟨h1, _⟩)
          · exact (bf_total ms.mem h1 (fun z => h2 z.symm)).resolve_right (hm y f)
          · exact h1
        · intro h
          by_cases z : m' = x
          · subst z
            exact .inl ⟨rfl, (bf_mem h).2, fun z => bf_irr ns (by rw [z] at h; exact h)⟩
          · refine .inr ⟨h, ?_, ?_⟩
            · simp only [bne_iff_ne, ne_eq]
              exact fun q => z q.symm
            · simp only [bne_iff_ne, ne_eq]
              rintro rfl
              exact hm x (by rw [hF]; exact f) h
    exact ek m rfl (mf_eq ms)
/-- the letters in the order of their first stands -/
def fst : List Nat → List Nat
  | [] => []
  | a :: r => a :: (fst r).filter (fun y => y != a)
theorem mem_fst {x : Nat} : ∀ {s : List Nat}, x ∈ fst s ↔ x ∈ s
  | [] => Iff.rfl
  | a :: r => by
    show x ∈ a :: (fst r).filter _ ↔ _
    rw [List.mem_cons, List.mem_filter, mem_fst, List.mem_cons]
    constructor
    · rintro (h | ⟨h, _⟩)
      · exact .inl h
      · exact .inr h
    · rintro (h | h)
      · exact .inl h
      · by_cases z : x = a
        · exact .inl z
        · exact .inr ⟨h, by simpa using z⟩
theorem fst_nodup : ∀ (s : List Nat), (fst s).Nodup
  | [] => List.nodup_nil
  | a :: r => by
    show (a :: (fst r).filter _).Nodup
    refine List.nodup_cons.mpr ⟨fun h => ?_, List.Nodup.sublist List.filter_sublist (fst_nodup r)⟩
    have := (List.mem_filter.mp h).2
    simp at this
theorem fst_id : ∀ {s : List Nat}, s.Nodup → fst s = s
  | [], _ => rfl
  | a :: r, nd => by
    obtain ⟨h1, h2⟩ := List.nodup_cons.mp nd
    show a :: (fst r).filter _ = a :: r
    rw [fst_id h2, List.filter_eq_self.mpr fun y hy => by
      simp only [bne_iff_ne, ne_eq]
      rintro rfl
      exact h1 hy]
theorem fst_append : ∀ (a b : List Nat), fst (a ++ b) = fst a ++ (fst b).filter (fun y => decide (y ∉ a))
  | [], b => by
    show fst b = [] ++ _
    rw [List.nil_append, List.filter_eq_self.mpr fun y _ => by simp]
  | c :: a, b => by
    show c :: (fst (a ++ b)).filter _ = c :: (fst a).filter _ ++ _
    rw [fst_append a b, List.filter_append, List.filter_filter, List.cons_append]
    congr 2
    refine List.filter_congr fun y _ => ?_
    by_cases h1 : y = c <;> by_cases h2 : y ∈ a <;> simp [h1, h2]
/-- the kind of a word -/
def kind (F : Nat → Nat → Bool) (s : List Nat) : List Nat := kd F (fst s).length (fst s)
/-- a kind -/
structure IsK (F : Nat → Nat → Bool) (s : List Nat) : Prop where
  nd : s.Nodup
  eq : kd F s.length s = s
section
variable {F : Nat → Nat → Bool} (hF : ∀ x y, F x y = F y x)
theorem Eq'.len {s t : List Nat} (e : Eq' F s t) (ns : s.Nodup) (nt : t.Nodup) : s.length = t.length :=
  Nat.le_antisymm (ns.length_le_of_subset fun x hx => (e.1 x).mp hx) (nt.length_le_of_subset fun x hx => (e.1 x).mpr hx)
include hF in
theorem kind_eq (s : List Nat) : Eq' F (kind F s) (fst s) := (kd_eq hF _ (fst_nodup s) rfl).1
include hF in
theorem kind_nodup (s : List Nat) : (kind F s).Nodup := (kd_eq hF _ (fst_nodup s) rfl).2
include hF in
theorem kind_congr {s t : List Nat} (e : Eq' F (fst s) (fst t)) : kind F s = kind F t := by
  unfold kind
  rw [e.len (fst_nodup s) (fst_nodup t)]
  exact kd_congr hF _ (fst_nodup s) (fst_nodup t) (e.len (fst_nodup s) (fst_nodup t)) e
include hF in
theorem kind_iff {s t : List Nat} : kind F s = kind F t ↔ Eq' F (fst s) (fst t) := by
  refine ⟨fun h => ?_, kind_congr hF⟩
  exact (kind_eq hF s).symm.trans (by rw [h]; exact kind_eq hF t)
theorem IsK.kind {s : List Nat} (h : IsK F s) : kind F s = s := by
  unfold Ow.kind
  rw [fst_id h.nd]
  exact h.eq
theorem kind_of_nodup {s : List Nat} (h : s.Nodup) : kind F s = kd F s.length s := by
  unfold Ow.kind
  rw [fst_id h]
include hF in
theorem kind_isK (s : List Nat) : IsK F (kind F s) := by
  have nd := kind_nodup hF s
  refine ⟨nd, ?_⟩
  rw [← kind_of_nodup nd]
  refine kind_congr hF ?_
  rw [fst_id nd]
  exact kind_eq hF s
include hF in
theorem mem_kind {s : List Nat} {x : Nat} : x ∈ kind F s ↔ x ∈ s := ((kind_eq hF s).1 x).trans mem_fst
theorem isK_nil : IsK F [] := ⟨List.nodup_nil, rfl⟩
include hF in
/-- a word's end may be put as its kind -/
theorem kind_right (a b : List Nat) : kind F (a ++ kind F b) = kind F (a ++ b) := by
  refine kind_congr hF ?_
  rw [fst_append, fst_append, fst_id (kind_nodup hF b)]
  have e := (kind_eq hF b).filter (fun y => decide (y ∉ a))
  refine ⟨fun x => ?_, fun x y f => ?_⟩
  · rw [List.mem_append, List.mem_append, e.1 x]
  · rw [bf_append, bf_append, e.2 x y f, e.1 y]
include hF in
theorem kind_left (a b : List Nat) : kind F (kind F a ++ b) = kind F (a ++ b) := by
  refine kind_congr hF ?_
  rw [fst_append, fst_append, fst_id (kind_nodup hF a)]
  have e := kind_eq hF a
  have z : (fst b).filter (fun y => decide (y ∉ kind F a)) = (fst b).filter (fun y => decide (y ∉ a)) := List.filter_congr fun y _ => decide_eq_decide.mpr (not_congr (mem_kind hF))
  rw [z]
  refine ⟨fun x => ?_, fun x y f => ?_⟩
  · rw [List.mem_append, List.mem_append, e.1 x]
  · rw [bf_append, bf_append, e.2 x y f, e.1 x]
/-- words of one with words of other behind them: what joined reckons -/
theorem joined_eq {a b : List Nat} (na : a.Nodup) (nb : b.Nodup) : kd F (a ++ b.filter (fun y => decide (y ∉ a))).length (a ++ b.filter (fun y => decide (y ∉ a))) = kind F (a ++ b) := by
  unfold kind
  rw [fst_append, fst_id na, fst_id nb]
include hF in
/-- bound_of's test is the law's -/
theorem bound_eq (a b : List Nat) : kind F (b ++ kind F (a ++ b)) = kind F (b ++ a) := by
  rw [kind_right hF]
  unfold kind
  have e : fst (b ++ (a ++ b)) = fst (b ++ a) := by
    rw [fst_append, fst_append, fst_append, List.filter_append, List.filter_filter]
    have z : (fst b).filter (fun x => decide (x ∉ b) && decide (x ∉ a)) = [] := List.filter_eq_nil_iff.mpr fun y hy => by
      have := mem_fst.mp hy
      simp [this]
    rw [z, List.append_nil]
  rw [e]
end
end Ow
namespace Ow
/-! ### what two kinds have in common -/
/-- a kind begins another one -/
def Beg (F : Nat → Nat → Bool) (f y : List Nat) : Prop := Eq' F (f ++ y.filter (fun z => decide (z ∉ f))) y
section
variable {F : Nat → Nat → Bool}
theorem beg_iff (hF : ∀ x y, F x y = F y x) {f y : List Nat} (nf : f.Nodup) (ky : IsK F y) : kind F (f ++ y) = y ↔ Beg F f y := by
  have e : fst (f ++ y) = f ++ y.filter (fun z => decide (z ∉ f)) := by rw [fst_append, fst_id nf, fst_id ky.nd]
  constructor
  · intro h
    have h2 : kind F (f ++ y) = kind F y := h.trans ky.kind.symm
    have := (kind_iff hF).mp h2
    rw [e, fst_id ky.nd] at this
    exact this
  · intro h
    have h2 : kind F (f ++ y) = kind F y := (kind_iff hF).mpr (by rw [e, fst_id ky.nd]; exact h)
    exact h2.trans ky.kind
theorem beg_nil (y : List Nat) : Beg F [] y := by
  unfold Beg
  rw [List.nil_append, List.filter_eq_self.mpr fun z _ => by simp]
  exact Eq'.refl _
theorem beg_sub {f y : List Nat} (h : Beg F f y) : ∀ x ∈ f, x ∈ y := fun x hx => (h.1 x).mp (List.mem_append_left _ hx)
/-- letters of a beginning stand ahead of their friends that are not in it -/
theorem beg_ahead {f y : List Nat} (h : Beg F f y) {q c : Nat} (hq : q ∈ f) (hc : c ∈ y) (nc : c ∉ f) (fr : F q c = true) : Bf y q c := by
  refine (h.2 q c fr).mp (bf_append.mpr (.inr (.inr ⟨hq, List.mem_filter.mpr ⟨hc, by simpa using nc⟩⟩)))
theorem beg_snoc (hF : ∀ x y, F x y = F y x) {f y : List Nat} (ny : y.Nodup) (h : Beg F f y) {c : Nat} (hc : c ∈ y) (nc : c ∉ f) :
    Beg F (f ++ [c]) y ↔ ∀ q, F c q = true → Bf y q c → q ∈ f := by
  constructor
  · intro g q fr b
    refine Classical.byContradiction fun nq => ?_
    have hq : q ∈ y := (bf_mem b).1
    by_cases e : q = c
    · rw [e] at b
      exact bf_irr ny b
    · have := beg_ahead g (q := c) (c := q) (List.mem_append_right _ List.mem_cons_self) hq (fun z => by
        rcases List.mem_append.mp z with z | z
        · exact nq z
        · exact e (by simpa using z)) fr
      exact bf_asymm ny b this
  · intro g
    have sub := beg_sub h
    refine ⟨fun x => ?_, fun x z fr => ?_⟩
    · rw [List.mem_append, List.mem_append, List.mem_filter]
      constructor
      · rintro ((h1 | h1) | h1)
        · exact sub x h1
        · have e : x = c := by simpa using h1
          rw [e]; exact hc
        · exact h1.1
      · intro h1
        by_cases h2 : x ∈ f ++ [c]
        · exact .inl (List.mem_append.mp h2)
        · exact .inr ⟨h1, by simpa using h2⟩
    · have hh := h.2 x z fr
      rw [bf_append, bf_filter] at hh
      rw [bf_append, bf_append, bf_filter]
      have nof : ¬ Bf [c] x z := by
        rintro (⟨_, q⟩ | q)
        · cases q
        · exact q
      constructor
      · rintro ((h1 | h1 | ⟨h1, h2⟩) | ⟨h1, _, _⟩ | ⟨h1, h2⟩)
        · exact hh.mp (.inl h1)
        · exact absurd h1 nof
        · have e : z = c := by simpa using h2
          rw [e] at fr ⊢
          exact beg_ahead h h1 hc nc fr
        · exact h1
        · obtain ⟨hz, h3⟩ := List.mem_filter.mp h2
          have h3' : z ∉ f ∧ z ≠ c := by simpa using h3
          rcases List.mem_append.mp h1 with h4 | h4
          · exact beg_ahead h h4 hz h3'.1 fr
          · have e : x = c := by simpa using h4
            rw [e] at fr ⊢
            exact (bf_total hc hz (fun q => h3'.2 q.symm)).resolve_right fun b => h3'.1 (g z fr b)
      · intro b
        rcases hh.mpr b with h1 | ⟨_, h1, h2⟩ | ⟨h1, h2⟩
        · exact .inl (.inl h1)
        · have h1' : x ∉ f := by simpa using h1
          have h2' : z ∉ f := by simpa using h2
          by_cases e1 : x = c
          · refine .inr (.inr ⟨List.mem_append_right _ (by simp [e1]), List.mem_filter.mpr ⟨(bf_mem b).2, ?_⟩⟩)
            have : z ≠ c := fun q => by
              rw [q, e1] at b
              exact bf_irr ny b
            simp [h2', this]
          · by_cases e2 : z = c
            · rw [e2] at fr b
              exact absurd (g x (by rw [hF]; exact fr) b) h1'
            · refine .inr (.inl ⟨b, ?_, ?_⟩)
              · simp [h1', e1]
              · simp [h2', e2]
        · obtain ⟨hz, h3⟩ := List.mem_filter.mp h2
          by_cases e2 : z = c
          · exact .inl (.inr (.inr ⟨h1, by simp [e2]⟩))
          · have h3' : z ∉ f := by simpa using h3
            exact .inr (.inr ⟨List.mem_append_left _ h1, List.mem_filter.mpr ⟨hz, by simp [h3', e2]⟩⟩)
/-- the friends of c that stand ahead of it -/
def nds (F : Nat → Nat → Bool) (s : List Nat) (c : Nat) : List Nat := (ahd s c).filter (fun q => F c q)
theorem mem_nds {s : List Nat} {c q : Nat} (nd : s.Nodup) (hc : c ∈ s) : q ∈ nds F s c ↔ F c q = true ∧ Bf s q c := by
  unfold nds
  rw [List.mem_filter, mem_ahd nd hc]
  exact And.comm
theorem nds_nodup {s : List Nat} {c : Nat} (nd : s.Nodup) : (nds F s c).Nodup :=
  List.Nodup.sublist List.filter_sublist (List.Nodup.sublist (List.takeWhile_sublist _) nd)
/-- one turn of common_of, as the program does it -/
def turnP (F : Nat → Nat → Bool) (one other f : List Nat) (c : Nat) : List Nat :=
  if c ∈ other then (if ((nds F one c).all fun q => decide (q ∈ nds F other c)) && ((nds F other c).all fun q => decide (q ∈ nds F one c)) && (nds F one c).all (fun q => decide (q ∈ f)) then f ++ [c] else f) else f
/-- one turn as the law does it -/
def turnL (F : Nat → Nat → Bool) (one other f : List Nat) (c : Nat) : List Nat :=
  if c ∈ other ∧ kind F (kind F (f ++ [c]) ++ one) = one then f ++ (if kind F (kind F (f ++ [c]) ++ other) = other then [c] else []) else f
def cmP (F : Nat → Nat → Bool) (one other : List Nat) : List Nat := one.foldl (turnP F one other) []
def cmL (F : Nat → Nat → Bool) (one other : List Nat) : List Nat := one.foldl (turnL F one other) []
theorem turn_same (hF : ∀ x y, F x y = F y x) {one other f : List Nat} {c : Nat} (k1 : IsK F one) (k2 : IsK F other) (nf : f.Nodup) (b1 : Beg F f one) (b2 : Beg F f other) (hc : c ∈ one) (nc : c ∉ f) :
    turnP F one other f c = turnL F one other f c ∧ (turnP F one other f c = f ∨ (turnP F one other f c = f ++ [c] ∧ Beg F (f ++ [c]) one ∧ Beg F (f ++ [c]) other)) := by
  have nfc : (f ++ [c]).Nodup := List.nodup_append.mpr ⟨nf, by simp, fun a ha b hb => by
    have : b = c := by simpa using hb
    rw [this]
    rintro rfl
    exact nc ha⟩
  unfold turnP turnL
  rw [kind_left hF, kind_left hF]
  by_cases h0 : c ∈ other
  · rw [if_pos h0]
    have e1 := (beg_iff hF nfc k1).trans (beg_snoc hF k1.nd b1 hc nc)
    have e2 := (beg_iff hF nfc k2).trans (beg_snoc hF k2.nd b2 h0 nc)
    have g1 := beg_snoc hF k1.nd b1 hc nc
    have g2 := beg_snoc hF k2.nd b2 h0 nc
    by_cases hp : (((nds F one c).all fun q => decide (q ∈ nds F other c)) && ((nds F other c).all fun q => decide (q ∈ nds F one c)) && (nds F one c).all (fun q => decide (q ∈ f))) = true
    · rw [if_pos hp]
      simp only [Bool.and_eq_true, List.all_eq_true, decide_eq_true_eq] at hp
      obtain ⟨⟨h1, h2⟩, h3⟩ := hp
      have a1 : ∀ q, F c q = true → Bf one q c → q ∈ f := fun q fr b => h3 q ((mem_nds k1.nd hc).mpr ⟨fr, b⟩)
      have a2 : ∀ q, F c q = true → Bf other q c → q ∈ f := fun q fr b => h3 q (h2 q ((mem_nds k2.nd h0).mpr ⟨fr, b⟩))
      rw [if_pos ⟨h0, e1.mpr a1⟩, if_pos (e2.mpr a2)]
      exact ⟨rfl, .inr ⟨rfl, g1.mpr a1, g2.mpr a2⟩⟩
    · rw [if_neg hp]
      refine ⟨?_, .inl rfl⟩
      by_cases l1 : c ∈ other ∧ kind F (f ++ [c] ++ one) = one
      · rw [if_pos l1]
        by_cases l2 : kind F (f ++ [c] ++ other) = other
        · exfalso
          apply hp
          have a1 := e1.mp l1.2
          have a2 := e2.mp l2
          simp only [Bool.and_eq_true, List.all_eq_true, decide_eq_true_eq]
          refine ⟨⟨fun q hq => ?_, fun q hq => ?_⟩, fun q hq => ?_⟩
          · obtain ⟨fr, b⟩ := (mem_nds k1.nd hc).mp hq
            exact (mem_nds k2.nd h0).mpr ⟨fr, beg_ahead b2 (a1 q fr b) h0 nc (by rw [hF]; exact fr)⟩
          · obtain ⟨fr, b⟩ := (mem_nds k2.nd h0).mp hq
            exact (mem_nds k1.nd hc).mpr ⟨fr, beg_ahead b1 (a2 q fr b) hc nc (by rw [hF]; exact fr)⟩
          · obtain ⟨fr, b⟩ := (mem_nds k1.nd hc).mp hq
            exact a1 q fr b
        · rw [if_neg l2, List.append_nil]
      · rw [if_neg l1]
  · rw [if_neg h0, if_neg fun z => h0 z.1]
    exact ⟨rfl, .inl rfl⟩
theorem fold_same (hF : ∀ x y, F x y = F y x) {one other : List Nat} (k1 : IsK F one) (k2 : IsK F other) : ∀ (l : List Nat) (f : List Nat), f.Nodup → Beg F f one → Beg F f other → (∀ x ∈ l, x ∈ one ∧ x ∉ f) → l.Nodup →
    l.foldl (turnP F one other) f = l.foldl (turnL F one other) f ∧ (l.foldl (turnP F one other) f).Nodup ∧ ∀ x ∈ l.foldl (turnP F one other) f, x ∈ f ∨ x ∈ l
  | [], f, nf, _, _, _, _ => ⟨rfl, nf, fun x h => .inl h⟩
  | c :: l, f, nf, b1, b2, hl, nl => by
    obtain ⟨hc, nc⟩ := hl c List.mem_cons_self
    obtain ⟨n1, n2⟩ := List.nodup_cons.mp nl
    obtain ⟨e, h⟩ := turn_same hF k1 k2 nf b1 b2 hc nc
    rw [List.foldl_cons, List.foldl_cons, ← e]
    rcases h with h | ⟨h, g1, g2⟩
    · rw [h]
      obtain ⟨r1, r2, r3⟩ := fold_same hF k1 k2 l f nf b1 b2 (fun x hx => hl x (List.mem_cons_of_mem _ hx)) n2
      exact ⟨r1, r2, fun x hx => (r3 x hx).imp_right (List.mem_cons_of_mem _)⟩
    · rw [h]
      have nfc : (f ++ [c]).Nodup := List.nodup_append.mpr ⟨nf, by simp, fun a ha b hb => by
        have : b = c := by simpa using hb
        rw [this]
        rintro rfl
        exact nc ha⟩
      obtain ⟨r1, r2, r3⟩ := fold_same hF k1 k2 l (f ++ [c]) nfc g1 g2 (fun x hx => ⟨(hl x (List.mem_cons_of_mem _ hx)).1, fun z => by
        rcases List.mem_append.mp z with z | z
        · exact (hl x (List.mem_cons_of_mem _ hx)).2 z
        · have q : x = c := by simpa using z
          rw [q] at hx
          exact n1 hx⟩) n2
      refine ⟨r1, r2, fun x hx => ?_⟩
      rcases r3 x hx with z | z
      · rcases List.mem_append.mp z with z | z
        · exact .inl z
        · exact .inr (by simp at z; simp [z])
      · exact .inr (List.mem_cons_of_mem _ z)
/-- the greatest kind that begins two -/
def common (F : Nat → Nat → Bool) (one other : List Nat) : List Nat := kind F (cmL F one other)
theorem common_same (hF : ∀ x y, F x y = F y x) {one other : List Nat} (k1 : IsK F one) (k2 : IsK F other) :
    cmP F one other = cmL F one other ∧ (cmP F one other).Nodup ∧ (∀ x ∈ cmP F one other, x ∈ one) ∧ kd F (cmP F one other).length (cmP F one other) = common F one other := by
  obtain ⟨h1, h2, h3⟩ := fold_same hF k1 k2 one [] List.nodup_nil (beg_nil one) (beg_nil other) (fun x hx => ⟨hx, by simp⟩) k1.nd
  refine ⟨h1, h2, fun x hx => (h3 x hx).resolve_left (by simp), ?_⟩
  show _ = kind F (cmL F one other)
  have e : cmL F one other = cmP F one other := h1.symm
  rw [e]
  exact (kind_of_nodup (F := F) (s := cmP F one other) h2).symm
end
end Ow

end OwMath
section OwLc
set_option linter.all false
set_option maxRecDepth 100000
set_option maxHeartbeats 2000000
/-! A comprehension over a text, told with what it leaves as it was (every object that is not tracked and no frame). -/
namespace Ow
open PySem PySem.Spec PyProof.Rows L2
/-- what stood untracked and is no running frame stands -/
def Left (X : Cx) (H : Hp) (s s' : Shared) : Prop := ∀ b o, s.heap.get? b = some o → H b = none → b ∉ frs X.stack → s'.heap.get? b = some o
theorem iter_text {prog : Program} {w : World} {A : Around} {E : Value → Shared → Prop} {s : Shared} {z : Str} {t : Tok} {Q : Value → Shared → Prop}
    (h : ∀ (o : Obj) (ty : String), (ty = "str_ascii_iterator" ∨ ty = "str_iterator") → (s.heap.push o).IsStrIter s.heap.objs.size ty z t 0 → Q (.ref s.heap.objs.size) { s with heap := s.heap.push o }) :
    wpAny (model prog w) A (pyIter (.str z t)) Q E s := by
  cases ha : z.cps.all (· < 128)
  · exact wpAny_pyIter_wide ha (h _ _ (.inr rfl) ⟨_, Heap.get?_push_size _ rfl, rfl, rfl⟩)
  · exact wpAny_pyIter_ascii ha (h _ _ (.inl rfl) ⟨_, Heap.get?_push_size _ rfl, rfl, rfl⟩)
section
variable {X : Cx} {pins : List (Addr × Obj)} {σ : L2.St} {H : Hp} {s : Shared}
theorem lc_kept {z : Str} {t : Tok} {elt tg iter : Expr} {scope : Scope} {own : List (Str × Nat)} {pos : Pos} {g : TG} {te : TE} {Q : VK}
    (hc : X.calm = true) (hN : X.N.Nodup) (I : L2.Inv X pins σ H s) (ok : BlkOk X.N X.env.scope scope own)
    (hit : ∀ R : Value → Shared → Prop, R (.str z t) s → wpAny (model X.prog X.w) X.A (eval iter X.env) R X.xe s)
    (hg : ∀ (s : Shared) (H : Hp) (C : Addr) (cl : List (Str × Addr)) (fp : List Addr), PG (X.blk s H scope (compEnvC scope cl C X.env) fp) tg g)
    (he : ∀ (s : Shared) (H : Hp) (C : Addr) (cl : List (Str × Addr)) (fp : List Addr), PE (X.blk s H scope (compEnvC scope cl C X.env) fp) elt te)
    (hs : ∀ x, foldedSetIterable iter X.env x = pure x)
    (h : ∀ D, H D = none → ∃ W : Nat → Nat → Hp → Prop, (∃ m, W 0 m (upd H D (.lst []))) ∧ ∀ i m H, W i m H →
      ((Its z).stop i H ∧ Q (.ref D) H) ∨ ((Its z).go i H ∧ ∃ Nx : Hp → Prop, (∀ H', Nx H' → ∃ m', m' < m ∧ W (i + 1) m' H') ∧ ∀ x H', (Its z).yld i H x H' → g x (wipe σ (own.map (·.2))) H' fun σ2 H2 => wipe σ2 (own.map (·.2)) = wipe σ (own.map (·.2)) ∧
        te σ2 H2 fun y H4 => ∃ acc, H4 D = some (.lst acc) ∧ acc.length < sizeLine ∧ Nx (upd H4 D (.lst (acc ++ [y]))))) :
    wpAny (model X.prog X.w) X.A (eval (.ListComp elt [⟨tg, iter, [], 0⟩] scope pos) X.env) (fun v s' => ∃ D H', v = .ref D ∧ L2.Inv X pins σ H' s' ∧ Q (.ref D) H' ∧ Left X H s s') X.xe s := by
  have hfree : ∀ y ∈ scope.names, y.2 = .free → ∃ c, X.env.cells.lookup y.1 = some c := fun y hy e =>
    (ok.free y hy e).elim (fun k => I.ok.has _ (.inl k)) fun k => I.ok.has _ (.inr k)
  rw [eval_ListComp]
  refine wpAny_comprehension_free (use := none) rfl hs (closure_ok hfree) ok.kind (fun y hy e => by rw [ok.uniq y hy, e]) (hit _ (iter_text fun o ty hty hst => ?_))
  -- the iterator at the heap's end, the new list behind it
  have k1 : ∀ b u, s.heap.get? b = some u → (s.heap.push o).get? b = some u := fun b u e => Heap.get?_push_of_some _ e
  have J1 : L2.Inv X pins σ H { s with heap := s.heap.push o } := I.kept (t' := s.toks) k1
  refine wpAny_newObj_type (newEnv_comp ?_) (by show 0 ≤ sizeLine; decide)
  have nD : H (s.heap.push o).objs.size = none := J1.hok.fresh (Nat.le_refl _)
  obtain ⟨W, ⟨m0, w0⟩, turn⟩ := h _ nD
  generalize hD : (s.heap.push o).objs.size = D at nD w0 turn
  have hDs : D = s.heap.objs.size + 1 := by rw [← hD, Heap.size_push]
  have k2 : ∀ b u, (s.heap.push o).get? b = some u → ((s.heap.push o).push { cls := .type "list", data := .seq ([] : List Value).toArray }).get? b = some u := fun b u e => Heap.get?_push_of_some _ e
  have J2 : L2.Inv X pins σ (upd H D (.lst [])) { s with heap := (s.heap.push o).push { cls := .type "list", data := .seq ([] : List Value).toArray } } := by
    refine J1.laid (t' := s.toks) k2 (Nat.le_of_eq hD) ⟨Nat.zero_le _, [], 0, .nil, ?_⟩
    rw [← hD]
    exact Heap.get?_push_size _ rfl
  generalize hs3 : ({ s with heap := (s.heap.push o).push { cls := .type "list", data := .seq ([] : List Value).toArray } } : Shared) = s3 at J2
  have h3 : s3.heap = (s.heap.push o).push { cls := .type "list", data := .seq ([] : List Value).toArray } := by rw [← hs3]
  have k3 : ∀ b u, s.heap.get? b = some u → s3.heap.get? b = some u := fun b u e => by rw [h3]; exact k2 b u (k1 b u e)
  have nIt : upd H D (.lst []) s.heap.objs.size = none := by
    rw [upd_ne (by rw [hDs]; exact Nat.ne_of_lt (Nat.lt_succ_self _))]
    exact I.hok.fresh (Nat.le_refl _)
  have lt3 : s.heap.objs.size < s3.heap.objs.size := by rw [h3, Heap.size_push, Heap.size_push]; omega
  have fpI : ∀ b ∈ [s.heap.objs.size], FpOk X pins (upd H D (.lst [])) b ∧ b < s3.heap.objs.size := fun b hb => by
    rw [List.mem_singleton.mp hb]
    exact ⟨I.fpOk (Nat.le_refl _) nIt, lt3⟩
  have B0 := block_start J2 ok hN fpI
  have pg := hg s3 (upd H D (.lst [])) s3.heap.objs.size (cellsFrom (s3.heap.objs.size + 1) scope.names (cloFrom X.env.cells scope.names [])) [s.heap.objs.size]
  have pe := he s3 (upd H D (.lst [])) s3.heap.objs.size (cellsFrom (s3.heap.objs.size + 1) scope.names (cloFrom X.env.cells scope.names [])) [s.heap.objs.size]
  have goal : codeAny (model X.prog X.w) X.A (.compStart (.ListComp elt [⟨tg, iter, [], 0⟩] scope pos) 0 (.ref s.heap.objs.size) (.ref D) (compEnvC scope (cellsFrom (s3.heap.objs.size + 1) scope.names (cloFrom X.env.cells scope.names [])) s3.heap.objs.size X.env))
      (compPost (model X.prog X.w) X.A X.xe none (fun v s' => ∃ D H', v = .ref D ∧ L2.Inv X pins σ H' s' ∧ Q (.ref D) H' ∧ Left X H s s') (.ref D) s3.heap.objs.size) { s3 with heap := pushCells (s3.heap.push { cls := .type "dict", data := .dict #[] }) scope.names } := by
    generalize hce : compEnvC scope (cellsFrom (s3.heap.objs.size + 1) scope.names (cloFrom X.env.cells scope.names [])) s3.heap.objs.size X.env = ce at B0 pg pe ⊢
    have cL : ce.locals = s3.heap.objs.size := by rw [← hce] <;> rfl
    generalize hs4 : ({ s3 with heap := pushCells (s3.heap.push { cls := .type "dict", data := .dict #[] }) scope.names } : Shared) = s4 at B0 ⊢
    have T := turn_str (P := X.prog) (w := X.w) (K := X.K) (tg := tg) s.heap.objs.size z t ty hty
    have st4 : s4.heap.IsStrIter s.heap.objs.size ty z t 0 := T.keep _ _ _ hst fun b _ u e => by
      rw [← hs4]
      exact pushCells_keeps _ _ _ _ (Heap.get?_push_of_some _ (by rw [h3]; exact k2 b u e))
    have stat : ∀ {σ' : L2.St} {H' : Hp} {s' : Shared}, L2.Inv (X.blk s3 (upd H D (.lst [])) scope ce [s.heap.objs.size]) [] σ' H' s' → H' s.heap.objs.size = none → ∀ b ∈ [s.heap.objs.size], FpOk (X.blk s3 (upd H D (.lst [])) scope ce [s.heap.objs.size]) [] H' b := fun {σ' H' s'} I' hn b hb => by
      have q := I'.ok.exf b hb
      refine ⟨by rw [List.mem_singleton.mp hb]; exact hn, q.1, I'.ok.exfs b hb, .inl hb, fun x c e => q.2 x c e, fun p hp => absurd (show p ∈ ([] : List (Addr × Obj)) ++ [] from hp) (by simp)⟩
    have loop : codeAny (model X.prog X.w) X.A (.compLoop (.ListComp elt [⟨tg, iter, [], 0⟩] scope pos) 0 (.ref s.heap.objs.size) (.ref D) ce)
        (compPost (model X.prog X.w) X.A X.xe none (fun v s' => ∃ D H', v = .ref D ∧ L2.Inv X pins σ H' s' ∧ Q (.ref D) H' ∧ Left X H s s') (.ref D) s3.heap.objs.size) s4 := by
      refine compLoop_any (fun n s' => ∃ i H', L2.Inv (X.blk s3 (upd H D (.lst [])) scope ce [s.heap.objs.size]) [] (wipe σ (own.map (·.2))) H' s' ∧ s'.heap.IsStrIter s.heap.objs.size ty z t i ∧ H' s.heap.objs.size = none ∧ W i n H') ?_ m0 ⟨0, _, B0, st4, nIt, w0⟩
      rintro n s5 ⟨i, H5, I5, st5, n5, w5⟩
      rcases turn i n H5 w5 with ⟨stop, qq⟩ | ⟨go, Nx, hNx, step⟩
      · refine thnF (T.done (X.blk s3 (upd H D (.lst [])) scope ce [s.heap.objs.size]) rfl rfl rfl hc i [] s5 _ H5 (fun _ _ => False) I5 (stat I5 n5) st5 stop) fun r s6 ⟨hr, I6⟩ => ?_
        subst hr
        have I7 : L2.Inv X pins σ H5 s6 := J2.call' (ch := [s.heap.objs.size]) I6.os I6.base I6.hok I6.bare fun b hb => ⟨(fpI b hb).1.2.2.2.1, (fpI b hb).1.2.1, (fpI b hb).1.2.2.2.2.1, (fpI b hb).1.2.2.2.2.2⟩
        have nC : H5 s3.heap.objs.size = none := by
          rw [← cL]
          exact I6.free
        obtain ⟨mm, hn, _⟩ := I6.loc
        have hn : s6.heap.Ns s3.heap.objs.size mm := by rw [← cL]; exact hn
        refine ⟨mm, hn, fun h'' sb => ?_⟩
        obtain ⟨f0, f1, f2, f3, f4, f5⟩ := J2.fpOk (Nat.le_refl _) nC
        refine ⟨D, H5, rfl, I7.turned (t' := s6.toks) (fun b u hb e => (sb.2 b hb).trans e) f0 f1 f3 f4 f5, qq, fun b u e hb hf => ?_⟩
        have hlt : b < s.heap.objs.size := Heap.lt_size e
        have e6 : s6.heap.get? b = some u := I6.base.keep b u (k3 b u e) (by
          show upd H D (.lst []) b = none
          rw [upd_ne (by rw [hDs]; exact Nat.ne_of_lt (Nat.lt_succ_of_lt hlt))]
          exact hb) hf fun q => Nat.ne_of_lt hlt (List.mem_singleton.mp q)
        exact (sb.2 b (Nat.ne_of_lt (Nat.lt_trans hlt lt3))).trans e6
      · refine thnF (T.item (X.blk s3 (upd H D (.lst [])) scope ce [s.heap.objs.size]) rfl rfl rfl hc i [] s5 _ H5 (fun _ _ => False) I5 (stat I5 n5) st5 go) fun r s6 ⟨u, hr, h6⟩ => ?_
        subst hr
        refine thnF h6 fun _ s7 ⟨x, H7, I7, r7, y7, st7, n7⟩ => ?_
        have P7 := I7.pinned (stat I7 (n7 _ List.mem_cons_self)) (T.obj _ _ st7)
        refine thnF (pg.run _ s7 _ H7 x u _ P7 r7 (step x H7 y7)) fun _ s8 ⟨σ8, H8, I8, hw8, q8⟩ => wpAny_tests_nil ?_
        show wpAny _ _ _ _ _ _
        refine thnF (pe.run _ s8 σ8 H8 _ I8 q8) fun zv s10 ⟨yv, H10, I10, r10, acc, hD10, hz10, nx⟩ => ?_
        refine app_ok (X := X.blk s3 (upd H D (.lst [])) scope ce [s.heap.objs.size]) I10 hD10 hz10 r10 fun s11 I11 => ?_
        obtain ⟨m', hm, w'⟩ := hNx _ nx
        obtain ⟨oo, eo, _⟩ := T.obj _ _ st7 _ List.mem_cons_self
        have pin := I11.pin (s.heap.objs.size, oo) (List.mem_append_right _ (List.mem_append_right _ (mem_pinsAt List.mem_cons_self eo)))
        refine ⟨m', hm, i + 1, _, (I11.unpinned (pins := [])).weak (by rw [← hw8, wipe_length]) (fun j v e => ?_), T.keep _ _ _ st7 fun b hb u2 e2 => ?_, pin.2.1, w'⟩
        · rw [← hw8] at e
          exact (wipe_some e).1
        · have eb := List.mem_singleton.mp hb
          rw [eb] at e2 ⊢
          rw [eo] at e2
          cases e2
          exact pin.1
    exact codeAny_compStart_list loop (T.self X.A 0 _ _ _ st4 loop)
  subst hD
  exact goal
end
end Ow

end OwLc
section OwTok
set_option linter.all false
set_option maxRecDepth 100000
set_option maxHeartbeats 2000000
/-! The signs of a text, collected, each with a token of its own below the counter. -/
namespace Ow
open PySem PySem.Spec PyProof.Rows L2
/-- the value v is the one sign c, its token from lo to below n -/
def TokV (lo n : Nat) (v : Value) (c : Nat) : Prop := ∃ u : Nat, v = .str ⟨#[c]⟩ u ∧ lo ≤ u ∧ u < n
theorem TokV.le {lo n m : Nat} (h : n ≤ m) {v : Value} {c : Nat} (x : TokV lo n v c) : TokV lo m v c := by
  obtain ⟨u, e, a, b⟩ := x
  exact ⟨u, e, a, Nat.lt_of_lt_of_le b h⟩
theorem paired_mono {α β : Type} {R S : α → β → Prop} (h : ∀ a b, R a b → S a b) : ∀ {xs : List α} {ys : List β}, Paired R xs ys → Paired S xs ys
  | _, _, .nil => .nil
  | _, _, .cons r t => .cons (h _ _ r) (paired_mono h t)
theorem paired_snoc {α β : Type} {R : α → β → Prop} {a : α} {b : β} (r : R a b) : ∀ {xs : List α} {ys : List β}, Paired R xs ys → Paired R (xs ++ [a]) (ys ++ [b])
  | _, _, .nil => .cons r .nil
  | _, _, .cons q t => .cons q (paired_snoc r t)
section
variable {prog : Program} {w : World} {A : Around} {E : Value → Shared → Prop} {s : Shared}
theorem next_sign {it : Addr} {ty : String} {z : Str} {t : Tok} {i c : Nat} {Q : Option Value → Shared → Prop} (hty : ty = "str_ascii_iterator" ∨ ty = "str_iterator") (hit : s.heap.IsStrIter it ty z t i) (hx : z.cps[i]? = some c)
    (hQ : ∀ h', h'.IsStrIter it ty z t (i + 1) → Heap.SameBut it s.heap h' → Q (some (.str ⟨#[c]⟩ s.toks)) { s with heap := h', toks := s.toks + 1 }) : wpAny (model prog w) A (pyNext (.ref it)) Q E s := by
  rcases hty with e | e
  · subst e; exact wpAny_pyNext_ascii_item hit hx hQ
  · subst e; exact wpAny_pyNext_wide_item hit hx hQ
theorem next_over {it : Addr} {ty : String} {z : Str} {t : Tok} {i : Nat} {Q : Option Value → Shared → Prop} (hh : A.handled = none) (hty : ty = "str_ascii_iterator" ∨ ty = "str_iterator") (hit : s.heap.IsStrIter it ty z t i) (hx : z.cps[i]? = none)
    (hQ : ∀ h', (∀ b o, b ≠ it → s.heap.get? b = some o → h'.get? b = some o) → Q none { s with heap := h' }) : wpAny (model prog w) A (pyNext (.ref it)) Q E s := by
  rcases hty with e | e
  · subst e; exact wpAny_pyNext_ascii_end hh hit hx fun h' he' => hQ h' fun b o hb e => he' b o hb e
  · subst e; exact wpAny_pyNext_wide_end hh hit hx fun h' he' => hQ h' fun b o hb e => he' b o hb e
theorem extend_signs {R : Result → Shared → Prop} {lo : Nat} {z : Str} {t : Tok} {ty : String} {S I : Addr} {res : Value} (hh : A.handled = none) (hty : ty = "str_ascii_iterator" ∨ ty = "str_iterator") (hn : z.cps.size ≤ sizeLine) (hSI : S ≠ I) :
    ∀ (k i : Nat) (s : Shared) (acc : Array Value) (c : Nat), z.cps.size - i = k → i ≤ z.cps.size → s.heap.IsStrIter I ty z t i → s.heap.get? S = some { cls := .type "list", dict := none, data := .seq acc c, slots := #[] } →
    Paired (TokV lo s.toks) acc.toList (z.cps.toList.take i) → lo ≤ s.toks →
    (∀ h' tk acc' c', (∀ b o, b ≠ S → b ≠ I → s.heap.get? b = some o → h'.get? b = some o) → s.toks ≤ tk → h'.get? S = some { cls := .type "list", dict := none, data := .seq acc' c', slots := #[] } →
      Paired (TokV lo tk) acc'.toList z.cps.toList → R (.ok (.ret res)) { s with heap := h', toks := tk }) →
    codeAny (model prog w) A (.builtin "list.extend.loop" ⟨[.ref S, .ref I, res], []⟩) R s := by
  intro k
  induction k with
  | zero =>
    intro i s acc c hk hi hst hS hacc h1 hR
    have ei : i = z.cps.size := by omega
    subst ei
    refine codeAny_builtin F.entry_extend_loop ?_
    rw [Around.under_plainId F.plain_extend_loop _]
    refine wpAny_bind (m := pyNext (.ref I)) (next_over (A := A.in1) hh hty hst (by simp) fun h' kp => wpAny_pure ?_)
    rw [List.take_of_length_le (by simp)] at hacc
    exact hR h' s.toks acc c (fun b o _ hb e => kp b o hb e) (Nat.le_refl _) (kp S _ hSI hS) hacc
  | succ k ih =>
    intro i s acc c hk hi hst hS hacc h1 hR
    have hlt : i < z.cps.size := by omega
    have hx : z.cps[i]? = some z.cps[i] := by simp [hlt]
    refine codeAny_builtin F.entry_extend_loop ?_
    rw [Around.under_plainId F.plain_extend_loop _]
    refine wpAny_bind (m := pyNext (.ref I)) (next_sign (A := A.in1) hty hst hx fun h' hit' hs' => ?_)
    have hS' : h'.get? S = some { cls := .type "list", dict := none, data := .seq acc c, slots := #[] } := (hs'.2 S hSI).trans hS
    have hl : acc.size = i := by
      have q := Paired.length hacc
      simp only [List.length_take, Array.length_toList] at q
      omega
    refine wpAny_bind (m := updateSeq S (·.push (.str ⟨#[z.cps[i]]⟩ s.toks))) ?_
    refine wpAny_updateSeq hS' rfl (wpAny_pure ⟨plainId_quiet F.plain_extend_loop _, ih (i + 1) _ (acc.push (.str ⟨#[z.cps[i]]⟩ s.toks)) _ (by omega) hlt ?_ (Heap.get?_update_self _ hS' rfl) ?_ (by show lo ≤ s.toks + 1; omega) fun h'' tk acc' c' kp hle hS'' hacc' => ?_⟩)
      (by have q : acc.size ≤ sizeLine := by omega
          exact q) (by
          have q : (acc.push (.str ⟨#[z.cps[i]]⟩ s.toks)).size ≤ sizeLine + 1 := by
            rw [Array.size_push]
            omega
          exact q)
    · obtain ⟨o, ho, q⟩ := hit'
      exact ⟨o, (Heap.get?_update_other _ _ hSI).trans ho, q⟩
    · rw [Array.toList_push, List.take_add_one]
      have e2 : z.cps.toList[i]? = some z.cps[i] := by simpa using hx
      rw [e2]
      exact paired_snoc ⟨s.toks, rfl, h1, Nat.lt_succ_self _⟩ (paired_mono (fun _ _ x => x.le (Nat.le_succ _)) hacc)
    · exact hR h'' tk acc' c' (fun b o hb hb2 e => kp b o hb hb2 ((Heap.get?_update_other _ _ (Ne.symm hb)).trans ((hs'.2 b hb2).trans e))) (by have : s.toks + 1 ≤ tk := hle; omega) hS'' hacc'
theorem collect_signs {z : Str} {t : Tok} {Q : List Value → Shared → Prop} (hh : A.handled = none) (hn : z.cps.size ≤ sizeLine)
    (hQ : ∀ h' tk vs, (∀ b o, s.heap.get? b = some o → h'.get? b = some o) → s.toks ≤ tk → Paired (TokV s.toks tk) vs z.cps.toList → Q vs { s with heap := h', toks := tk }) : wpAny (model prog w) A (collect (.str z t)) Q E s := by
  unfold collect
  refine wpAny_bind (wpAny_runValue (codeAny_builtin F.entry_proto_collect ?_))
  rw [Around.under_plainId F.plain_proto_collect _]
  refine wpAny_bind (m := newList []) (wpAny_newObj_type (wpAny_pure ⟨plainId_quiet F.plain_list_iadd _, codeAny_builtin F.entry_list_iadd ?_⟩))
  rw [Around.under_plainId F.plain_list_iadd _]
  show wpAny _ A.in1 (Builtin.List.listExtendWith (.ref s.heap.objs.size) (.str z t) (.ref s.heap.objs.size)) _ _ _
  unfold Builtin.List.listExtendWith
  have t1 : Builtin.List.listSameRef (.ref s.heap.objs.size) (.str z t) = false := rfl
  have t2 : (Value.type "str" == Value.type "list") = false := by decide
  have t3 : (Value.type "str" == Value.type "tuple") = false := by decide
  refine wpAny_bind (wpAny_typeOf (T := "str") (v := .str z t) rfl ?_)
  simp only [t1, t2, t3, Bool.or_false, Bool.false_eq_true, if_false]
  refine wpAny_bind (iter_text fun o ty hty hst => wpAny_bind (wpAny_holding ?_))
  unfold Builtin.List.listLengthHint
  refine wpAny_bind (wpAny_specialOf (T := "str") (v := .str z t) rfl F.str_len ?_)
  wp_delta
  refine wpAny_bind (wpAny_isInstance (T := "str") (v := .str z t) (b := true) rfl (by rw [isSubtype_type]; kernel_rfl) ?_)
  refine wpAny_bind (m := typeOf (Value.str z t)) (wpAny_typeOf (T := "str") (v := .str z t) rfl (wpAny_pure ?_))
  rw [if_neg (by decide)]
  have sz : ∀ oo : Obj, (s.heap.push oo).objs.size = s.heap.objs.size + 1 := fun oo => Heap.size_push _ _
  have hS : ((s.heap.push { cls := .type "list", data := .seq ([] : List Value).toArray }).push o).get? s.heap.objs.size = some { cls := .type "list", data := .seq ([] : List Value).toArray } := Heap.get?_push_of_some _ (Heap.get?_push_size _ rfl)
  have sI : s.heap.objs.size ≠ (s.heap.push { cls := .type "list", data := .seq ([] : List Value).toArray }).objs.size := by
    rw [sz]
    exact Nat.ne_of_lt (Nat.lt_succ_self _)
  refine wpAny_pure ⟨plainId_quiet F.plain_extend_loop _, extend_signs (A := A) (lo := s.toks) hh hty hn sI z.cps.size 0 _ #[] 0 rfl (Nat.zero_le _) hst hS .nil (Nat.le_refl s.toks) fun h' tk acc' c' kp hle hS' hacc => ?_⟩
  refine wpAny_bind (m := load s.heap.objs.size) (wpAny_load hS' (wpAny_pure ?_))
  refine hQ h' tk acc'.toList (fun b ob e => kp b ob (Nat.ne_of_lt (Heap.lt_size e)) ?_ (Heap.get?_push_of_some _ (Heap.get?_push_of_some _ e))) hle hacc
  rw [sz]
  exact Nat.ne_of_lt (Nat.lt_succ_of_lt (Heap.lt_size e))
end
end Ow

end OwTok
section OwSort
set_option linter.all false
set_option maxRecDepth 100000
set_option maxHeartbeats 2000000
/-! sorted(a text). -/
namespace Ow
open PySem PySem.Spec PyProof.Rows L2
def sortN (l : List Nat) : List Nat := l.mergeSort (fun a b => decide (a ≤ b))
theorem sortN_perm (l : List Nat) : (sortN l).Perm l := List.mergeSort_perm _ _
theorem sortN_le (l : List Nat) : (sortN l).Pairwise (· ≤ ·) := by
  have h := List.pairwise_mergeSort (le := fun a b : Nat => decide (a ≤ b)) (fun a b c h1 h2 => by
    simp only [decide_eq_true_eq] at h1 h2 ⊢
    omega) (fun a b => by
    simp only [Bool.or_eq_true, decide_eq_true_eq]
    omega) l
  exact h.imp fun h => by simpa using h
theorem each_paired {α β : Type} {R : α → β → Prop} : ∀ {xs : List α} {ys : List β}, Paired R xs ys → PySem.W.EachIs R xs ys
  | _, _, .nil => .nil
  | _, _, .cons r t => .cons r (each_paired t)
theorem paired_each {α β : Type} {R : α → β → Prop} : ∀ {xs : List α} {ys : List β}, PySem.W.EachIs R xs ys → Paired R xs ys
  | _, _, .nil => .nil
  | _, _, .cons r t => .cons r (paired_each t)
theorem one_le (a b : Nat) : decide ((⟨#[a]⟩ : Str).cps.toList ≤ (⟨#[b]⟩ : Str).cps.toList) = decide (a ≤ b) := by
  refine decide_eq_decide.mpr ?_
  show [a] ≤ [b] ↔ a ≤ b
  rw [List.cons_le_cons_iff]
  constructor
  · rintro (h | ⟨h, _⟩)
    · exact Nat.le_of_lt h
    · exact Nat.le_of_eq h
  · intro h
    rcases Nat.lt_or_eq_of_le h with h | h
    · exact .inl h
    · exact .inr ⟨h, List.le_refl _⟩
section
variable {prog : Program} {w : World} {A : Around} {E : Value → Shared → Prop} {s : Shared}
theorem sorted_signs {z : Str} {t : Tok} {Q : Value → Shared → Prop} (hh : A.handled = none) (hu : A.units + 64 < cLine) (hn : z.cps.size ≤ sizeLine)
    (hQ : ∀ (h1 h' : Heap) (tk e : Nat) (vs : List Value), (∀ b o, s.heap.get? b = some o → h1.get? b = some o) → (∀ b o, h1.get? b = some o → h'.get? b = some o) → s.toks ≤ tk → h'.get? h1.objs.size = some (seqObj "list" vs.toArray e) → Paired (TokV s.toks tk) vs (sortN z.cps.toList) →
      Q (.ref h1.objs.size) { s with heap := h', toks := tk }) :
    wpAny (model prog w) A (call (.builtin "sorted") [.str z t]) Q E s := by
  refine Calls.call_function_entry PyProof.Rows.kind_sorted PyProof.Rows.plain_sorted PyProof.Rows.entry_sorted (PyProof.Rows.args_sorted1 _) ?_
  unfold Builtin.«sorted»
  refine wpAny_bind (m := checkCount "sorted" 1 1 _) (wpAny_pure (wpAny_bind (collect_signs (A := A.in1) hh hn fun h' tk vs kp hle hv => ?_)))
  have hl : vs.length = z.cps.toList.length := Paired.length hv
  have hz : vs.length ≤ sizeLine := by rw [hl, Array.length_toList]; exact hn
  refine wpAny_bind (wpAny_newList ?_ hz)
  have ho : (h'.push (seqObj "list" vs.toArray 0)).get? h'.objs.size = some (seqObj "list" vs.toArray 0) := Heap.get?_push_size _ rfl
  refine wpAny_bind (wpAny_holding ?_)
  show wpAny _ _ _ _ _ { s with heap := h'.push (seqObj "list" vs.toArray 0), toks := tk }
  refine PySem.W.list_sort_data (bs := z.cps.toList) (enc := fun c => .str ⟨#[c]⟩) (R := TokV s.toks tk) (s := { s with heap := h'.push (seqObj "list" vs.toArray 0), toks := tk }) ho (each_paired hv) (each_paired (paired_mono (fun v c ⟨u, e, _⟩ => ⟨[], by rw [e]; exact .str _ _, by simp⟩) hv))
    (PySem.W.AllAlike.of fun b b' => by simp [PySem.W.alike]) (.others fun b => ⟨by simp, by simp⟩) (by rw [Array.length_toList]; exact hn) (fun b _ => ?_) fun out hlo ho2 => ?_
  · show A.units + 1 + 1 + 0 < cLine
    omega
  · have hd : (PySem.W.dataLe false fun c : Nat => .str ⟨#[c]⟩) = fun a b => decide (a ≤ b) := by
      rw [PySem.W.dataLe_str]
      funext a b
      exact one_le a b
    rw [hd] at ho2
    obtain ⟨e2, he2⟩ := PyProof.Rows.sortedHeap_at (vs := vs) (out := out.toArray) ho
    refine wpAny_pure ⟨_, rfl, hQ h' (sortedHeap (h'.push (seqObj "list" vs.toArray 0)) h'.objs.size vs out.toArray) tk e2 out kp (fun b u e => ?_) hle he2 (paired_each ho2)⟩
    have hb : b < h'.objs.size := Heap.lt_size e
    rw [PyProof.Rows.sortedHeap_old (Nat.ne_of_lt hb) (by rw [Heap.size_push]; exact Nat.lt_succ_of_lt hb)]
    exact Heap.get?_push_of_some _ e
end
end Ow

end OwSort
section OwN
set_option linter.all false
set_option maxRecDepth 100000
set_option maxHeartbeats 2000000
/-! Statements told with a lower bound of the token counter. -/
namespace Ow
open PySem PySem.Spec PyProof.Rows L2
abbrev TN := Nat → (Nat → Ends) → L2.St → Hp → Prop
def SPN (X : Cx) (pins : List (Addr × Obj)) (D : Nat → Ends) (f : Flow) (s' : Shared) : Prop := ∃ n : Nat, n ≤ s'.toks ∧ SP X pins (D n) f s'
structure PN (X : Cx) (st : Stmt) (t : TN) : Prop where
  run : ∀ (n : Nat) (pins : List (Addr × Obj)) (s : Shared) (σ : L2.St) (H : Hp) (D : Nat → Ends), n ≤ s.toks → L2.Inv X pins σ H s → t n D σ H → wpAny (model X.prog X.w) X.A (exec st X.env) (SPN X pins D) X.xe s
structure PSN (X : Cx) (sts : List Stmt) (t : TN) : Prop where
  run : ∀ (n : Nat) (pins : List (Addr × Obj)) (s : Shared) (σ : L2.St) (H : Hp) (D : Nat → Ends), n ≤ s.toks → L2.Inv X pins σ H s → t n D σ H → wpAny (model X.prog X.w) X.A (execs sts X.env) (SPN X pins D) X.xe s
/-- with the counter's bound -/
theorem thnT {α : Type} {t : Sem α} {Q Q' : α → Shared → Prop} {M : Model} {A : Around} {E : Value → Shared → Prop} {s : Shared} (h : wpAny M A t Q E s) (hQ : ∀ a s', s.toks ≤ s'.toks → Q a s' → Q' a s') : wpAny M A t Q' E s :=
  wpAny_mono (PySem.wpAny_toks h) (fun a s' q => hQ a s' q.1 q.2) fun _ _ q => q.2
section
variable {X : Cx} {st : Stmt} {rest : List Stmt} {t u : TN} {pos : Pos}
theorem pn_of {t : TS} (h : PS X st t) : PN X st (fun n D σ H => t (D n) σ H) :=
  ⟨fun n pins s σ H D hn I q => thnT (h.run pins s σ H (D n) I q) fun f s' hk z => ⟨n, Nat.le_trans hn hk, z⟩⟩
theorem psn_of {t : TS} {sts : List Stmt} (h : PSs X sts t) : PSN X sts (fun n D σ H => t (D n) σ H) :=
  ⟨fun n pins s σ H D hn I q => thnT (h.run pins s σ H (D n) I q) fun f s' hk z => ⟨n, Nat.le_trans hn hk, z⟩⟩
theorem pss_of_psn {sts : List Stmt} (h : PSN X sts t) : PSs X sts (fun D σ H => t 0 (fun _ => D) σ H) :=
  ⟨fun pins s σ H D I q => thn (h.run 0 pins s σ H (fun _ => D) (Nat.zero_le _) I q) fun f s' ⟨_, _, z⟩ => z⟩
theorem psn_cons (h1 : PN X st t) (h2 : PSN X rest u) : PSN X (st :: rest) (fun n D σ H => t n (fun m => { D m with nx := fun σ' H' => u m D σ' H' }) σ H) := by
  refine ⟨fun n pins s σ H D hn I q => ?_⟩
  refine wpAny_execs_cons (thn (h1.run n pins s σ H _ hn I q) fun f s1 ⟨m, hm, z⟩ => ?_)
  cases f with
  | next =>
    obtain ⟨σ', H', I', q'⟩ := z
    exact h2.run m pins s1 σ' H' D hm I' q'
  | ret v => exact ⟨m, hm, z⟩
  | brk => exact ⟨m, hm, z⟩
  | cont => exact ⟨m, hm, z⟩
theorem psn_nil : PSN X [] (fun n D σ H => (D n).nx σ H) := ⟨fun n pins s σ H D hn I q => wpAny_execs_nil ⟨n, hn, σ, H, I, q⟩⟩
theorem psn_one (h1 : PN X st t) : PSN X [st] t := by
  refine ⟨fun n pins s σ H D hn I q => ?_⟩
  refine wpAny_execs_cons (thn (h1.run n pins s σ H D hn I q) fun f s1 z => ?_)
  cases f with
  | next => exact wpAny_execs_nil z
  | ret v => exact z
  | brk => exact z
  | cont => exact z
theorem pn_if {c : Expr} {a b : List Stmt} {tc : TT} (hc : PT X c tc) (ha : PSN X a t) (hb : PSN X b u) : PN X (.If c a b pos) (fun n D σ H => tc σ H fun k H1 => if k = true then t n D σ H1 else u n D σ H1) := by
  refine ⟨fun n pins s σ H D hn I q => ?_⟩
  refine wpAny_If (thnT (hc.run pins s σ H _ I q) fun d s1 hk ⟨H1, I1, q1⟩ => ?_)
  cases d with
  | true => exact ha.run n pins s1 σ H1 D (Nat.le_trans hn hk) I1 q1
  | false => exact hb.run n pins s1 σ H1 D (Nat.le_trans hn hk) I1 q1
/-- while: W by the counter's bound, a measure, slots, heap -/
def tNWhile (tc : TT) (tb : TN) : TN := fun n D σ H => ∃ W : Nat → Nat → L2.St → Hp → Prop, (∃ m, W n m σ H) ∧ ∀ k m σ H, W k m σ H → tc σ H fun b H1 =>
  if b = true then ∃ Nx : Nat → L2.St → Hp → Prop, (∀ k' σ' H', Nx k' σ' H' → ∃ m', m' < m ∧ W k' m' σ' H') ∧ tb k (fun k' => { D k' with nx := Nx k', ct := Nx k', bk := (D k').nx }) σ H1 else (D k).nx σ H1
theorem pn_while {c : Expr} {body : List Stmt} {tc : TT} {tb : TN} (hp : PassesOwn (model X.prog X.w) X.A X.env X.xe) (hc : PT X c tc) (hb : PSN X body tb) : PN X (.While c body [] pos) (tNWhile tc tb) := by
  refine ⟨fun n pins s σ H D hn I q => ?_⟩
  obtain ⟨W, ⟨m0, w0⟩, turn⟩ := q
  refine wpAny_While (codeAny_whileLoop (fun j s' => ∃ k σ' H', k ≤ s'.toks ∧ L2.Inv X pins σ' H' s' ∧ W k j σ' H') ?_ m0 ⟨n, σ, H, hn, I, w0⟩)
  rintro j s1 ⟨k, σ1, H1, hk1, I1, w1⟩
  refine wpAny_passesOwn hp (thnT (hc.run pins s1 σ1 H1 _ I1 (turn k j σ1 H1 w1)) fun b s2 hk2 ⟨H2, I2, q2⟩ => ?_)
  have hk : k ≤ s2.toks := Nat.le_trans hk1 hk2
  cases b with
  | false =>
    rw [if_neg Bool.false_ne_true]
    exact wpAny_execs_nil ⟨k, hk, σ1, H2, I2, q2⟩
  | true =>
    obtain ⟨Nx, hN, q2⟩ := q2
    rw [if_pos rfl]
    refine wpAny_passesOwn hp (thn (hb.run k pins s2 σ1 H2 _ hk I2 q2) fun f s3 ⟨k', hk', q3⟩ => ?_)
    have again : ∀ {σ3 : L2.St} {H3 : Hp}, L2.Inv X pins σ3 H3 s3 → Nx k' σ3 H3 → ∃ m, m < j ∧ ∃ k σ' H', k ≤ s3.toks ∧ L2.Inv X pins σ' H' s3 ∧ W k m σ' H' := fun {σ3 H3} I3 n3 => by
      obtain ⟨m', hm, w3⟩ := hN k' σ3 H3 n3
      exact ⟨m', hm, k', σ3, H3, hk', I3, w3⟩
    cases f with
    | next =>
      obtain ⟨σ3, H3, I3, n3⟩ := q3
      exact again I3 n3
    | cont =>
      obtain ⟨σ3, H3, I3, n3⟩ := q3
      exact again I3 n3
    | brk => exact ⟨k', hk', q3⟩
    | ret v => exact ⟨k', hk', q3⟩
/-- for -/
def nLoop (g : TG) (tb : TN) (n : Nat) (D : Nat → Ends) (σ : L2.St) (J : It) (H1 : Hp) : Prop := ∃ W : Nat → Nat → Nat → L2.St → Hp → Prop, (∃ m, W n 0 m σ H1) ∧ ∀ k i m σ H, W k i m σ H →
  (J.stop i H ∧ (D k).nx σ H) ∨ (J.go i H ∧ ∃ Nx : Nat → L2.St → Hp → Prop, (∀ k' σ' H', Nx k' σ' H' → ∃ m', m' < m ∧ W k' (i + 1) m' σ' H') ∧ ∀ x H', J.yld i H x H' → g x σ H' fun σ2 H2 => tb k (fun k' => { D k' with nx := Nx k', ct := Nx k', bk := (D k').nx }) σ2 H2)
def tNFor (wi : TI) (g : TG) (tb : TN) : TN := fun n D σ H => wi σ H fun J H1 => nLoop g tb n D σ J H1
theorem pn_for {tg iter : Expr} {body : List Stmt} {wi : TI} {g : TG} {tb : TN} (hp : PassesOwn (model X.prog X.w) X.A X.env X.xe) (hc : X.calm = true) (hi : PI X tg iter wi) (hg : PG X tg g) (hb : PSN X body tb)
    (hs : ∀ x, foldedSetIterable iter X.env x = pure x := by intro _; rfl) : PN X (.For tg iter body [] pos) (tNFor wi g tb) := by
  refine ⟨fun n pins s σ H D hn I q => ?_⟩
  refine wpAny_For (thnT (hi.run pins s σ H _ I q) fun v s1 hk1 h1 => thnT h1 fun itv s2 hk2 h2 => ?_) hs
  obtain ⟨it, fp, tn, J, H2, e, I2, T, st2, f2, W, ⟨m0, w0⟩, turn⟩ := h2
  subst e
  have ok : ∀ {H' : Hp}, (∀ b ∈ fp, H' b = none) → ∀ b ∈ fp, FpOk X pins H' b := fun hn b hb => ⟨hn b hb, (f2 b hb).2⟩
  refine codeAny_forLoop_any (fun j s' => ∃ k i σ' H', k ≤ s'.toks ∧ L2.Inv X pins σ' H' s' ∧ tn i s'.heap ∧ (∀ b ∈ fp, H' b = none) ∧ W k i j σ' H') ?_ m0 ⟨n, 0, σ, H2, Nat.le_trans hn (Nat.le_trans hk1 hk2), I2, st2, fun b hb => (f2 b hb).1, w0⟩
  rintro j s3 ⟨k, i, σ3, H3, hk3, I3, st3, fr3, w3⟩
  rcases turn k i j σ3 H3 w3 with ⟨stop, qn⟩ | ⟨go, Nx, hN, step⟩
  · refine wpAny_passesOwn hp (thnT (T.done X rfl rfl rfl hc i pins s3 σ3 H3 X.xe I3 (ok fr3) st3 stop) fun r s4 hk4 ⟨hr, I4⟩ => ?_)
    subst hr
    exact wpAny_execs_nil ⟨k, Nat.le_trans hk3 hk4, σ3, H3, I4, qn⟩
  · refine wpAny_passesOwn hp (thnT (T.item X rfl rfl rfl hc i pins s3 σ3 H3 X.xe I3 (ok fr3) st3 go) fun r s4 hk4 ⟨u, hr, h4⟩ => ?_)
    subst hr
    refine wpAny_passesOwn hp (thnT h4 fun _ s5 hk5 ⟨x, H5, I5, r5, y5, st5, fr5⟩ => ?_)
    have P5 := I5.pinned (ok fr5) (T.obj _ _ st5)
    refine wpAny_passesOwn hp (thnT (hg.run _ s5 σ3 H5 x u _ P5 r5 (step x H5 y5)) fun _ s6 hk6 ⟨σ6, H6, I6, q6⟩ => ?_)
    refine wpAny_passesOwn hp (thn (hb.run k _ s6 σ6 H6 _ (Nat.le_trans hk3 (Nat.le_trans hk4 (Nat.le_trans hk5 hk6))) I6 q6) fun f s7 ⟨k', hk', q7⟩ => ?_)
    have again : ∀ {σ7 : L2.St} {H7 : Hp}, L2.Inv X (pins ++ pinsAt fp s5.heap) σ7 H7 s7 → Nx k' σ7 H7 → ∃ m, m < j ∧ ∃ k i σ' H', k ≤ s7.toks ∧ L2.Inv X pins σ' H' s7 ∧ tn i s7.heap ∧ (∀ b ∈ fp, H' b = none) ∧ W k i m σ' H' := fun {σ7 H7} I7 n7 => by
      obtain ⟨m', hm, w7⟩ := hN k' σ7 H7 n7
      have pin : ∀ b ∈ fp, ∀ o, s5.heap.get? b = some o → s7.heap.get? b = some o ∧ H7 b = none := fun b hb o e => by
        have z := I7.pin (b, o) (List.mem_append_right _ (List.mem_append_right _ (mem_pinsAt hb e)))
        exact ⟨z.1, z.2.1⟩
      refine ⟨m', hm, k', i + 1, σ7, H7, hk', I7.unpinned, T.keep _ _ _ st5 fun b hb o e => (pin b hb o e).1, fun b hb => ?_, w7⟩
      obtain ⟨o, e, _⟩ := T.obj _ _ st5 b hb
      exact (pin b hb o e).2
    cases f with
    | next => obtain ⟨σ7, H7, I7, n7⟩ := q7; exact again I7 n7
    | cont => obtain ⟨σ7, H7, I7, n7⟩ := q7; exact again I7 n7
    | brk => obtain ⟨σ7, H7, I7, q7⟩ := q7; exact ⟨k', hk', σ7, H7, I7.unpinned, q7⟩
    | ret v => obtain ⟨x7, σ7, H7, I7, r7, q7⟩ := q7; exact ⟨k', hk', x7, σ7, H7, I7.unpinned, r7, q7⟩
/-- x, y = a, b at a state: the pair's items reckoned there -/
theorem par_at {i j : Nat} {x y : Str} {a b : Expr} {px py pt : Pos} {kt k2 pt2} {pins : List (Addr × Obj)} {s : Shared} {σ : L2.St} {H : Hp} {R : V → V → Hp → Shared → Prop} (hc : X.calm = true) (hN : X.N.Nodup) (hi : X.N[i]? = some x) (hj : X.N[j]? = some y) (hij : i ≠ j)
    (hx : X.env.scope.names.lookup x = some .local) (hy : X.env.scope.names.lookup y = some .local) (I : L2.Inv X pins σ H s)
    (ha : wpAny (model X.prog X.w) X.A (eval a X.env) (fun u1 s1 => wpAny (model X.prog X.w) X.A (eval b X.env) (fun u2 s2 => ∃ v w H2, L2.Inv X pins σ H2 s2 ∧ RelV v u1 ∧ RelV w u2 ∧ R v w H2 s2) X.xe s1) X.xe s)
    (hst : starEach [a, b] X.env = [(false, eval a X.env), (false, eval b X.env)])
    (hw : swappedStores [.Tuple [.Name x px, .Name y py] kt pt] (.Tuple [a, b] k2 pt2) X.env = pure (some [x, y]))
    (hs : swapsWithSole [.Tuple [.Name x px, .Name y py] kt pt] (.Tuple [a, b] k2 pt2) pos.line X.env = pure false) :
    wpAny (model X.prog X.w) X.A (exec (.Assign [.Tuple [.Name x px, .Name y py] kt pt] (.Tuple [a, b] k2 pt2) pos) X.env) (fun f s' => f = .next ∧ ∃ v w H2 s2, s2.toks ≤ s'.toks ∧ L2.Inv X pins ((σ.set i (some v)).set j (some w)) H2 s' ∧ R v w H2 s2) X.xe s := by
  rw [exec_Assign_arm]
  refine wpAny_bind (wpAny_standAt ?_)
  rw [hs]
  refine wpAny_bind (wpAny_pure ?_)
  rw [if_neg (by decide)]
  refine wpAny_bind (Tuple_ ?_)
  have hst2 : backTo pt2 (starEach [a, b] X.env) = (false, eval a X.env) :: [(false, eval b X.env)] := by rw [hst] <;> rfl
  first | rw [hst2] | rw [hst]
  refine Calls.spliced_cons (thn ha fun u1 s1 h1 => Calls.spliced_cons (thn h1 fun u2 s2 ⟨v, w', H2, I2, r1, r2, q⟩ => Calls.spliced_nil ?_))
  refine wpAny_newObj_type ?_ (by show 2 ≤ sizeLine; decide)
  have I3 : L2.Inv X pins σ H2 { s2 with heap := s2.heap.push { cls := .type "tuple", data := .seq [u1, u2].toArray } } := I2.kept (t' := s2.toks) fun b o e => Heap.get?_push_of_some _ e
  rw [hw]
  refine wpAny_bind (wpAny_pure ?_)
  show wpAny (model X.prog X.w) X.A (do rule "assign.swapped-stores"; let items ← unpackItems (.ref s2.heap.objs.size) 2 none; assignInOrder [fun v => bindName X.env y v, fun v => bindName X.env x v] items.reverse; pure Flow.next) _ _ _
  refine wpAny_bind (wpAny_rule (wpAny_bind (unpackItems_tuple (items := #[u1, u2]) (I.ok.hd hc) (IsTup.new s2.heap _) fun h' hx' => ?_)))
  have I4 := I3.kept (h' := h') (t' := s2.toks) fun b o e => hx' b o (Nat.ne_of_lt (Heap.lt_size e)) e
  have fin : wpAny (model X.prog X.w) X.A (assignInOrder [fun v => bindName X.env y v, fun v => bindName X.env x v] [u2, u1]) (fun _ s' => ∃ v w H2 s2, s2.toks ≤ s'.toks ∧ L2.Inv X pins ((σ.set i (some v)).set j (some w)) H2 s' ∧ R v w H2 s2) X.xe { s2 with heap := h' } := by
    refine thnT (s := { s2 with heap := h' }) (Q := fun _ s' => L2.Inv X pins ((σ.set j (some w')).set i (some v)) H2 s') ?_ fun _ s' hk I5 => ⟨v, w', H2, s2, hk, by rw [List.set_comm _ _ hij]; exact I5, q⟩
    refine assignInOrder_cons (wpAny_bindName (store_ok I4 hN hj (.inl hy) r2 (fun s5 I5 => ?_) (.inr hy)))
    exact assignInOrder_cons (wpAny_bindName (store_ok I5 hN hi (.inl hx) r1 (fun s6 I6 => assignInOrder_nil I6) (.inr hx)))
  exact wpAny_bind (thn fin fun _ s' q => wpAny_pure ⟨rfl, q⟩)
/-- x, y = e, 'z': behind it a token is out -/
theorem pn_parLit {i j : Nat} {x y z : Str} {a : Expr} {ta : TE} {px py pt cp : Pos} {kt k2 pt2 jc} (hc : X.calm = true) (hN : X.N.Nodup) (hi : X.N[i]? = some x) (hj : X.N[j]? = some y) (hij : i ≠ j)
    (hx : X.env.scope.names.lookup x = some .local) (hy : X.env.scope.names.lookup y = some .local) (ha : PE X a ta)
    (hst : starEach [a, .Constant (.str z) jc cp] X.env = [(false, eval a X.env), (false, eval (.Constant (.str z) jc cp) X.env)])
    (hw : swappedStores [.Tuple [.Name x px, .Name y py] kt pt] (.Tuple [a, .Constant (.str z) jc cp] k2 pt2) X.env = pure (some [x, y]))
    (hs : swapsWithSole [.Tuple [.Name x px, .Name y py] kt pt] (.Tuple [a, .Constant (.str z) jc cp] k2 pt2) pos.line X.env = pure false) :
    PN X (.Assign [.Tuple [.Name x px, .Name y py] kt pt] (.Tuple [a, .Constant (.str z) jc cp] k2 pt2) pos)
      (fun n D σ H => ta σ H fun v H1 => ∀ m, n ≤ m → 1 ≤ m → (D m).nx ((σ.set i (some v)).set j (some (.str z))) H1) := by
  refine ⟨fun n pins s σ H D hn I q => ?_⟩
  refine thn (par_at (R := fun v w H2 s2 => w = .str z ∧ n ≤ s2.toks ∧ 1 ≤ s2.toks ∧ ∀ m, n ≤ m → 1 ≤ m → (D m).nx ((σ.set i (some v)).set j (some (.str z))) H2) hc hN hi hj hij hx hy I (thnT (ha.run pins s σ H _ I q) fun u1 s1 hk ⟨v, H1, I1, r1, q1⟩ => ?_) hst hw hs) ?_
  · exact Calls.Constant_str ⟨v, .str z, H1, I1.tok (s1.toks + 1), r1, ⟨_, rfl⟩, rfl, (show n ≤ s1.toks + 1 by omega), (show 1 ≤ s1.toks + 1 by omega), q1⟩
  · rintro f s' ⟨rfl, v, w', H2, s2, hk, I2, rfl, h1, h2, q2⟩
    exact ⟨s'.toks, Nat.le_refl _, _, H2, I2, q2 _ (Nat.le_trans h1 hk) (Nat.le_trans h2 hk)⟩
end
end Ow

end OwN
section OwText
set_option linter.all false
set_option maxRecDepth 100000
/-! Texts as lists of signs. -/
namespace Ow
open PySem PySem.Spec PyProof.Rows L2
/-- the text of these signs -/
def S (l : List Nat) : Str := ⟨l.toArray⟩
theorem S_list (l : List Nat) : (S l).cps.toList = l := by simp [S]
theorem S_len (l : List Nat) : (S l).length = l.length := by simp [S, Str.length]
theorem S_size (l : List Nat) : (S l).cps.size = l.length := by simp [S]
theorem S_app (a b : List Nat) : S a ++ S b = S (a ++ b) := by
  show (⟨a.toArray ++ b.toArray⟩ : Str) = ⟨(a ++ b).toArray⟩
  simp
theorem S_inj {a b : List Nat} (h : S a = S b) : a = b := by rw [← S_list a, ← S_list b, h]
theorem S_iff {a b : List Nat} : S a = S b ↔ a = b := ⟨S_inj, fun h => by rw [h]⟩
theorem S_of (x : Str) : S x.cps.toList = x := by simp [S]
theorem S_one (c : Nat) : (⟨#[c]⟩ : Str) = S [c] := rfl
theorem S_nil : ("" : Str) = S [] := by decide +kernel
theorem S_get {l : List Nat} {i c : Nat} : (S l).cps[i]? = some c ↔ l[i]? = some c := by simp [S]
/-- the place of the first c -/
theorem ahd_get {c : Nat} : ∀ {l : List Nat}, c ∈ l → l[(ahd l c).length]? = some c ∧ ∀ j, j < (ahd l c).length → l[j]? ≠ some c
  | a :: r, h => by
    unfold ahd
    by_cases e : a = c
    · subst e
      rw [List.takeWhile_cons_of_neg (by simp)]
      exact ⟨rfl, fun j hj => absurd hj (Nat.not_lt_zero j)⟩
    · have ih := ahd_get (c := c) (l := r) ((List.mem_cons.mp h).resolve_left fun z => e z.symm)
      unfold ahd at ih
      rw [List.takeWhile_cons_of_pos (by simpa using e), List.length_cons]
      refine ⟨ih.1, fun j hj => ?_⟩
      cases j with
      | zero => simpa using e
      | succ j => exact ih.2 j (by omega)
theorem ahd_take {c : Nat} {l : List Nat} : l.take (ahd l c).length = ahd l c := by
  unfold ahd
  exact (List.prefix_iff_eq_take.mp (List.takeWhile_prefix _)).symm
theorem occ_sign {l : List Nat} {c : Nat} (h : c ∈ l) : ∃ rest, Builtin.Str.occurrences (S l) ⟨#[c]⟩ 0 (S l).length 1 = (ahd l c).length :: rest := by
  obtain ⟨g1, g2⟩ := ahd_get h
  have hd := StrLaws.occ_head (S l) ⟨#[c]⟩ 1 (Nat.le_refl 1)
  have hf := StrLaws.found_one (S l) c
  rw [S_list, decide_eq_true h] at hf
  cases e : Builtin.Str.occurrences (S l) ⟨#[c]⟩ 0 (S l).length 1 with
  | nil => rw [e] at hf; cases hf
  | cons i r =>
    refine ⟨r, ?_⟩
    rw [e] at hd
    have z : l[i]? = some c ∧ ∀ j, j < i → l[j]? ≠ some c := by
      rcases hd with ⟨h0, _⟩ | ⟨i', r', e', h1, h2⟩
      · cases h0
      · cases e'
        have k : ∀ j, StrLaws.At (S l) ⟨#[c]⟩ (S l).length j ↔ l[j]? = some c := fun j => by
          have q := StrLaws.subAt_one (S l) c j
          rw [S_list] at q
          exact q
        exact ⟨(k i).mp h1, fun j hj q => h2 j hj ((k j).mpr q)⟩
    have ei : i = (ahd l c).length := by
      rcases Nat.lt_trichotomy i (ahd l c).length with q | q | q
      · exact absurd z.1 (g2 i q)
      · exact q
      · exact absurd g1 (z.2 _ q)
    rw [ei]
theorem cut_ahead {l : List Nat} {k : Nat} : cutS (S l) none (some (k : Int)) = S (l.take k) := by
  unfold cutS
  rw [S_list, S_len, HT.sIx_none, HT.sIx_nat]
  show S _ = _
  rw [List.drop_zero, Nat.sub_zero]
  by_cases h : k ≤ l.length
  · rw [Nat.min_eq_left h]
  · rw [Nat.min_eq_right (by omega), List.take_length, List.take_of_length_le (by omega)]
theorem replace_sign (l : List Nat) (c : Nat) : Txt.replace (S l) ⟨#[c]⟩ (S []) = S (del l c) := by
  have h := PyProof.Rows.replace_strikes (S l) c
  rw [S_list] at h
  have e := S_of (Txt.replace (S l) ⟨#[c]⟩ ⟨#[]⟩)
  rw [h] at e
  exact e.symm
end Ow

end OwText
section OwLo1
set_option linter.all false
set_option maxRecDepth 100000
set_option maxHeartbeats 4000000
/-! The for over the sorted signs of a text, whose body may replace the sign (its token told). -/
namespace Ow
open PySem PySem.Spec PyProof.Rows L2
section
variable {X : Cx} {pins : List (Addr × Obj)} {σ : L2.St} {H : Hp} {s : Shared}
/-- a name that is a cell is stored: what the cell holds then -/
theorem store_cell {E : Value → Shared → Prop} {i : Nat} {x : Str} {c : Addr} {v : V} {u : Value} {Q : Unit → Shared → Prop} (I : L2.Inv X pins σ H s) (hN : X.N.Nodup) (hi : X.N[i]? = some x) (hk : X.env.scope.names.lookup x = some .cell) (hf : X.fn x = true) (hc : X.env.cells.lookup x = some c) (r : RelV v u)
    (h : ∀ h', L2.Inv X pins (σ.set i (some v)) H { s with heap := h' } → h'.IsCell c (some u) → Heap.SameBut c s.heap h' → Q () { s with heap := h' }) : wpAny (model X.prog X.w) X.A (storeName X.env x u) Q E s := by
  obtain ⟨w0, z⟩ := I.cell x c hc
  refine wpAny_storeName_cell I.ok.kind hk hc z fun h' hc' hs => h h' ?_ hc' hs
  have far : ∀ b o, X.s_0.heap.get? b = some o → b ≠ c := fun b o e => Nat.ne_of_lt (Nat.lt_of_lt_of_le (Heap.lt_size e) (I.ok.cab x c hf hc))
  have len : i < σ.length := by rw [I.len]; exact (List.getElem?_eq_some_iff.mp hi).1
  obtain ⟨oc, hoc, hod⟩ := id z
  have nH : H c = none := I.freeC x c hc
  refine { ok := I.ok, os := I.os, bare := I.bare, base := ?_, loc := ?_, cell := ?_, free := I.free, freeC := I.freeC, pin := ?_, hok := ?_, len := by simpa using I.len }
  · exact { keep := fun b o e n hb hx => (hs.2 b (far b o e)).trans (I.base.keep b o e n hb hx), slot := fun b o e n hb hx => (I.base.slot b o e n hb hx).imp fun sl q => (hs.2 b (far b o e)).trans q, free := I.base.free,
            there := fun b o e hx => (I.base.there b o e hx).imp fun o' q => (hs.2 b (far b o e)).trans q, tups := I.base.tups, frzs := I.base.frzs, tbls := I.base.tbls }
  · obtain ⟨m, hn, hl⟩ := I.loc
    refine ⟨m, hn.sameBut hs (Ne.symm (I.cne x c hc)), fun j y v' e1 e2 e3 => ?_⟩
    by_cases hj : j = i
    · rw [hj] at e1 e2
      rw [hi] at e1
      rw [List.getElem?_set_self len] at e2
      cases e1
      cases e2
      exact ⟨u, r, .inr ⟨.inl hk, c, hc, hc'⟩⟩
    · rw [List.getElem?_set_ne (Ne.symm hj)] at e2
      obtain ⟨u', r', q⟩ := hl j y v' e1 e2 e3
      refine ⟨u', r', q.imp_right fun ⟨k, c2, e, z2⟩ => ⟨k, c2, e, z2.sameBut hs fun q2 => ?_⟩⟩
      rw [q2] at e
      have := I.ok.inj _ _ _ e hc
      rw [this] at e1
      exact hj (nodup_ix hN e1 hi)
  · intro y c2 e
    by_cases q : c2 = c
    · exact ⟨_, by rw [q]; exact hc'⟩
    · obtain ⟨w2, z2⟩ := I.cell y c2 e
      exact ⟨w2, z2.sameBut hs q⟩
  · intro p hp
    obtain ⟨e, n, ne, nf, d⟩ := I.pin p hp
    refine ⟨(hs.2 p.1 fun q => ?_).trans e, n, ne, nf, d⟩
    rw [q, hoc] at e
    exact d w0 (by rw [← Option.some.inj e]; exact hod)
  · intro b o e
    refine (I.hok b o e).stay (fun a v ha q => (hs.2 a fun q2 => ?_).trans q) (fun _ q => q) fun _ _ q => q
    rcases ha with ha | ha
    · rw [q2.symm.trans ha, e] at nH
      cases nH
    · rw [← q2, ha] at nH
      cases nH
/-- the cell's address, not a running frame -/
theorem cell_off {x : Str} {c : Addr} (I : L2.Inv X pins σ H s) (hf : X.fn x = true) (hc : X.env.cells.lookup x = some c) : c ∉ frs X.stack := fun z => by
  rcases List.mem_cons.mp (I.stkSub c z) with e | e
  · exact I.cne x c hc e
  · obtain ⟨_, o2, ho2, _⟩ := I.ok.funs.mem e
    exact absurd (Nat.lt_of_lt_of_le (Heap.lt_size ho2) (I.ok.cab x c hf hc)) (Nat.lt_irrefl _)
/-- rest[:rest.index(sign)] -/
theorem ahead_eval {E : Value → Shared → Prop} {i j : Nat} {xr xs : Str} {l : List Nat} {c : Nat} {p1 p2 p3 p4 p5 p6 p7 : Pos} {Q : Value → Shared → Prop} (I : L2.Inv X pins σ H s) (hi : X.N[i]? = some xr) (vi : Vis X.env.scope xr) (hj : X.N[j]? = some xs) (vj : Vis X.env.scope xs)
    (hr : σ[i]? = some (some (.str (S l)))) (hs : σ[j]? = some (some (.str (S [c])))) (hc : c ∈ l) (hl : l.length ≤ sizeLine)
    (hQ : ∀ h' k u, (∀ b o, s.heap.get? b = some o → h'.get? b = some o) → Q (.str (S (ahd l c)) u) { s with heap := h', toks := k })
    (d1 : (xr == ("__debug__" : Str)) = false) (d2 : (xr == ("__classdict__" : Str)) = false) (d3 : (xs == ("__debug__" : Str)) = false) (d4 : (xs == ("__classdict__" : Str)) = false)
    (hbase : attributeBase (.Name xr p2) "index" X.env (eval (.Name xr p2) X.env) = eval (.Name xr p2) X.env) (hst : starEach [.Name xs p4] X.env = [(false, eval (.Name xs p4) X.env)]) (hline : (p3.endLine == p5.line) = true) :
    wpAny (model X.prog X.w) X.A (eval (.Subscript (.Name xr p1) (.Slice none (some (.Call (.Attribute (.Name xr p2) "index" p3) [.Name xs p4] [] p5)) none p6) p7) X.env) Q E s := by
  refine wpAny_Subscript_str_slice (raw_name hi vi I hr (fun v r => ?_) d1 d2)
  obtain ⟨t, rfl⟩ := r
  rw [evalPart_none]
  refine wpAny_pure ?_
  rw [evalPart_some]
  refine Call_method1 hbase hst hline (raw_name hi vi I hr (fun v2 r2 => ?_) d1 d2)
  obtain ⟨t2, rfl⟩ := r2
  refine ⟨"str", _, F.plainAttrs_str, F.slot_str_index, F.type_str_index, typeIs_str _ _ _, (fun _ e => nomatch e), Calls.callWith_builtin rfl (Calls.evalArgs_plain (Calls.spliced_cons (raw_name hj vj I hs (fun v3 r3 => ?_) d3 d4)))⟩
  obtain ⟨t3, rfl⟩ := r3
  refine Calls.spliced_nil ?_
  obtain ⟨rest, ho⟩ := occ_sign hc
  refine PySem.SC.index (y := S [c]) ho ⟨S l, t, none, some (((ahd l c).length : Nat) , s.toks), rfl, rfl, rfl, ?_⟩
  have e : PySem.StrLaws.sliceText (S l) none (some (((ahd l c).length : Nat) : Int)) = S (ahd l c) := by
    rw [sliceText_cut, cut_ahead, ahd_take]
  have hk : ∀ b o, s.heap.get? b = some o → (s.heap.push { cls := .type "slice", data := .fields #[.none, .int (((ahd l c).length : Nat) : Int) s.toks, .none] }).get? b = some o := fun b o e => Heap.get?_push_of_some _ e
  have hz : (S (ahd l c)).length ≤ sizeLine := by
    rw [S_len]
    exact Nat.le_trans (List.takeWhile_sublist _).length_le hl
  unfold PySem.StrLaws.sliceText at e
  show Made.post (if ((1 : Int) == 1 && (Builtin.Str.strSliceIndices none (some (((ahd l c).length : Nat) : Int)) 1 (S l).length).length == (S l).length) = true then Made.val (.str (S l) t)
    else Made.str ⟨((Builtin.Str.strSliceIndices none (some (((ahd l c).length : Nat) : Int)) 1 (S l).length).filterMap ((S l).cps[·]?)).toArray⟩) Q _
  by_cases q : ((1 : Int) == 1 && (Builtin.Str.strSliceIndices none (some (((ahd l c).length : Nat) : Int)) 1 (S l).length).length == (S l).length) = true
  · rw [if_pos q] at e ⊢
    have hq := hQ _ (s.toks + 1) t hk
    rw [← e] at hq
    exact hq
  · rw [if_neg q] at e ⊢
    rw [e]
    exact ⟨hz, hQ _ _ _ hk⟩
end
end Ow

end OwLo1
section OwLo2
set_option linter.all false
set_option maxRecDepth 100000
set_option maxHeartbeats 4000000
/-! The test and the pair of least_order's turn. -/
namespace Ow
open PySem PySem.Spec PyProof.Rows L2
theorem same_upd {H : Hp} {p : Addr} {o : HO} (h : H p = none) : Same H (upd H p o) := fun b u e => by
  rw [upd_ne (ne_of_none e h)]
  exact e
theorem same_put {H H' : Hp} {D : Addr} {o : HO} (n : H D = none) (e : Same H H') : Same H (upd H' D o) := fun b u q => by
  rw [upd_ne (ne_of_none q n)]
  exact e b u q
section
variable {X : Cx} {pins : List (Addr × Obj)} {σ : L2.St} {H : Hp} {s : Shared}
/-- what a name gives here -/
theorem name_at {i : Nat} {x : Str} {v : V} (hN : X.N[i]? = some x) (hv : Vis X.env.scope x) (I : L2.Inv X pins σ H s) (hσ : σ[i]? = some (some v)) (d1 : (x == ("__debug__" : Str)) = false) (d2 : (x == ("__classdict__" : Str)) = false) :
    ∃ u, RelV v u ∧ ∀ (pos : Pos) (R E : Value → Shared → Prop), R u s → wpAny (model X.prog X.w) X.A (eval (.Name x pos) X.env) R E s := by
  obtain ⟨m, hn, hl⟩ := I.loc
  obtain ⟨u, r, lk⟩ := hl i x v hN hσ hv
  refine ⟨u, r, fun pos R E h => wpAny_Name ?_ d1⟩
  rcases lk with ⟨k, e⟩ | ⟨k | k, c, e, z⟩
  · exact wpAny_loadName_local I.ok.kind k hn e h
  · exact wpAny_loadName_cell I.ok.kind k e z h
  · exact wpAny_loadName_free I.ok.kind k e z h d2
/-- all([elt for x in text]): a list of truth values is made, all are asked -/
theorem all_at {i : Nat} {xa xo : Str} {l : List Nat} {p : Nat → Bool} {elt : Expr} {te : TE} {scope : Scope} {io : Nat} {p1 p2 p3 p4 p5 : Pos} (hc : X.calm = true) (hN : X.N.Nodup) (I : L2.Inv X pins σ H s)
    (hi : X.N[i]? = some xa) (vi : Vis X.env.scope xa) (ha : σ[i]? = some (some (.str (S l)))) (hl : l.length < sizeLine) (ok : BlkOk X.N X.env.scope scope [(xo, io)])
    (gA : Gl X "all") (mA : X.mg "all" = none)
    (hg : ∀ (s : Shared) (H : Hp) (C : Addr) (cl : List (Str × Addr)) (fp : List Addr), PG (X.blk s H scope (compEnvC scope cl C X.env) fp) (.Name xo p2) (gName io))
    (he : ∀ (s : Shared) (H : Hp) (C : Addr) (cl : List (Str × Addr)) (fp : List Addr), PE (X.blk s H scope (compEnvC scope cl C X.env) fp) elt te)
    (hs : ∀ x, foldedSetIterable (.Name xa p3) X.env x = pure x)
    (hw : ∀ x : V, wipe ((wipe σ [io]).set io (some x)) [io] = wipe σ [io])
    (ht : ∀ (y : Nat) (H' : Hp) (Q : VK), y ∈ l → Same H H' → Q (.bl (p y)) H' → te ((wipe σ [io]).set io (some (.str (S [y])))) H' Q)
    (d1 : (xa == ("__debug__" : Str)) = false) (d2 : (xa == ("__classdict__" : Str)) = false)
    (hst : starEach [.ListComp elt [⟨.Name xo p2, .Name xa p3, [], 0⟩] scope p4] X.env = (false, eval (.ListComp elt [⟨.Name xo p2, .Name xa p3, [], 0⟩] scope p4) X.env) :: starEach [] X.env)
    (hpl : (backTo p5 (starEach [] X.env)).any (·.1) = false)
    (hw2 : ∀ whole, isTrue (.Call (.Name "all" p1) [.ListComp elt [⟨.Name xo p2, .Name xa p3, [], 0⟩] scope p4] [] p5) X.env whole = (do let v ← whole; standAt (Expr.Call (.Name "all" p1) [.ListComp elt [⟨.Name xo p2, .Name xa p3, [], 0⟩] scope p4] [] p5).pos; holding [v] (truthy v))) :
    wpAny (model X.prog X.w) X.A (isTrue (.Call (.Name "all" p1) [.ListComp elt [⟨.Name xo p2, .Name xa p3, [], 0⟩] scope p4] [] p5) X.env (eval (.Call (.Name "all" p1) [.ListComp elt [⟨.Name xo p2, .Name xa p3, [], 0⟩] scope p4] [] p5) X.env))
      (fun b s' => b = l.all p ∧ ∃ H', L2.Inv X pins σ H' s' ∧ Same H H' ∧ Left X H s s') X.xe s := by
  refine isTrue_plain ?_ (hw2 _)
  refine wpAny_Call_Name_kw (ld_blt (u := .builtin "all") I gA mA (by decide +kernel) ?_)
  refine PyProof.Rows.callWith_builtin1 ?_ hst hpl
  rw [hst]
  obtain ⟨u, ⟨t, rfl⟩, hu⟩ := name_at hi vi I ha d1 d2
  refine Calls.spliced_cons (thn (lc_kept (own := [(xo, io)]) (z := S l) (t := t) (Q := fun v H' => ∃ D, v = .ref D ∧ H' D = some (.lst (l.map fun y => .bl (p y))) ∧ Same H H') hc hN I ok (fun R h => hu p3 R X.xe h) hg he hs fun D nD => ?_) fun v s1 h1 => Calls.spliced_nil ?_)
  · refine ⟨fun i m H' => m = l.length - i ∧ i ≤ l.length ∧ H' D = some (.lst ((l.take i).map fun y => .bl (p y))) ∧ Same H H', ⟨l.length, by simp, Nat.zero_le _, upd_same, same_upd nD⟩, ?_⟩
    rintro i m H' ⟨rfl, hi', hD, hS⟩
    by_cases hlt : i < l.length
    · refine .inr ⟨by show i < (S l).cps.size; rw [S_size]; exact hlt, fun H2 => H2 D = some (.lst ((l.take (i + 1)).map fun y => .bl (p y))) ∧ Same H H2, fun H2 h2 => ⟨l.length - (i + 1), by omega, rfl, hlt, h2⟩, ?_⟩
      rintro x H2 ⟨rfl, c, hcx, rfl⟩
      have hcl : l[i]? = some c := S_get.mp hcx
      refine ⟨hw _, ht c H2 _ (List.mem_of_getElem? hcl) hS ⟨_, hD, ?_, ?_, same_put nD hS⟩⟩
      · rw [List.length_map, List.length_take]
        omega
      · rw [upd_same, List.take_add_one, hcl]
        simp
    · have e : i = l.length := by omega
      subst e
      rw [List.take_length] at hD
      exact .inl ⟨by show (S l).cps.size ≤ _; rw [S_size]; exact Nat.le_refl _, D, rfl, hD, hS⟩
  · obtain ⟨D, H1, rfl, I1, ⟨D', e, hD, hS⟩, lf⟩ := h1
    cases e
    obtain ⟨its, rv, hL, _⟩ := I1.list (SqL.of hD)
    have rv' : Vals ((l.map p).map V.bl) its := by rw [List.map_map]; exact rv
    have hb := rv'.bls
    refine call_all_walk (iter_any hL.isList fun s2 e2 st hne => ?_)
    subst e2
    refine ⟨_, _, _, _, _, _, _, rfl, Walks.list (A := X.A.in1) (I.ok.hd hc) _ D hne its.toArray, st, truth_bools hb, fun h' tk hk => ?_⟩
    have kp : ∀ b o, s1.heap.get? b = some o → h'.get? b = some o := fun b o e => hk b o (fun hm => by
      rcases List.mem_cons.mp hm with q | q
      · exact Nat.lt_irrefl _ (q ▸ Heap.lt_size e)
      · cases q) (Heap.get?_push_of_some _ e)
    refine wpAny_truthy_bool ⟨?_, H1, I1.kept kp, hS, fun b o e n f => kp b o (lf b o e n f)⟩
    have q := all_range (l.map p)
    have e1 : its.toArray.size = (l.map p).length := by rw [hb, List.size_toArray, List.length_map]
    rw [e1, q, List.all_map]
    rfl
end
end Ow

end OwLo2
section OwLo3
set_option linter.all false
set_option maxRecDepth 100000
set_option maxHeartbeats 4000000
namespace Ow
open PySem PySem.Spec PyProof.Rows L2
section
variable {X : Cx} {pins : List (Addr × Obj)} {σ : L2.St} {H : Hp} {s : Shared}
/-- found, rest = found + sign, rest.replace(sign, '') where sign is a cell whose text has a token below the counter -/
theorem pair_at {i j : Nat} {xf xr xs : Str} {c : Addr} {k : Nat} {t : Nat} {lf lr : List Nat} {p1 p2 p3 p4 p5 p6 p7 p8 p9 p10 p11 p12 : Pos} {k1 k2 jc : Nat} (hc : X.calm = true) (hN : X.N.Nodup) (I : L2.Inv X pins σ H s)
    (hi : X.N[i]? = some xf) (hj : X.N[j]? = some xr) (hij : i ≠ j) (lf' : X.env.scope.names.lookup xf = some .local) (lr' : X.env.scope.names.lookup xr = some .local) (ls : X.env.scope.names.lookup xs = some .cell)
    (sf : σ[i]? = some (some (.str (S lf)))) (sr : σ[j]? = some (some (.str (S lr)))) (hcell : X.env.cells.lookup xs = some c) (hv : s.heap.IsCell c (some (.str (S [k]) t))) (t0 : 1 ≤ t) (t1 : t < s.toks)
    (hl1 : lf.length + 1 ≤ sizeLine) (hl2 : lr.length ≤ 1000)
    (df1 : (xf == ("__debug__" : Str)) = false) (df2 : (xf == ("__classdict__" : Str)) = false) (dr1 : (xr == ("__debug__" : Str)) = false) (dr2 : (xr == ("__classdict__" : Str)) = false) (ds1 : (xs == ("__debug__" : Str)) = false)
    (hbase : attributeBase (.Name xr p6) "replace" X.env (eval (.Name xr p6) X.env) = eval (.Name xr p6) X.env) (hst1 : starEach [.Name xs p7, .Constant (.str "") jc p8] X.env = [(false, eval (.Name xs p7) X.env), (false, eval (.Constant (.str "") jc p8) X.env)]) (hline : (p9.endLine == p10.line) = true)
    (hst : starEach [.BinOp (.Name xf p3) .Add (.Name xs p4) p5, .Call (.Attribute (.Name xr p6) "replace" p9) [.Name xs p7, .Constant (.str "") jc p8] [] p10] X.env = [(false, eval (.BinOp (.Name xf p3) .Add (.Name xs p4) p5) X.env), (false, eval (.Call (.Attribute (.Name xr p6) "replace" p9) [.Name xs p7, .Constant (.str "") jc p8] [] p10) X.env)])
    (hw : swappedStores [.Tuple [.Name xf p1, .Name xr p2] k1 p11] (.Tuple [.BinOp (.Name xf p3) .Add (.Name xs p4) p5, .Call (.Attribute (.Name xr p6) "replace" p9) [.Name xs p7, .Constant (.str "") jc p8] [] p10] k2 p12) X.env = pure (some [xf, xr])) {pos : Pos}
    (hs : swapsWithSole [.Tuple [.Name xf p1, .Name xr p2] k1 p11] (.Tuple [.BinOp (.Name xf p3) .Add (.Name xs p4) p5, .Call (.Attribute (.Name xr p6) "replace" p9) [.Name xs p7, .Constant (.str "") jc p8] [] p10] k2 p12) pos.line X.env = pure false) :
    wpAny (model X.prog X.w) X.A (exec (.Assign [.Tuple [.Name xf p1, .Name xr p2] k1 p11] (.Tuple [.BinOp (.Name xf p3) .Add (.Name xs p4) p5, .Call (.Attribute (.Name xr p6) "replace" p9) [.Name xs p7, .Constant (.str "") jc p8] [] p10] k2 p12) pos) X.env)
      (fun f s' => f = .next ∧ L2.Inv X pins ((σ.set i (some (.str (S (lf ++ [k]))))).set j (some (.str (S (del lr k))))) H s') X.xe s := by
  have sign : ∀ (s2 : Shared) (p : Pos) (R E : Value → Shared → Prop), s2.heap = s.heap → R (.str (S [k]) t) s2 → wpAny (model X.prog X.w) X.A (eval (.Name xs p) X.env) R E s2 := fun s2 p R E e h =>
    wpAny_Name (wpAny_loadName_cell I.ok.kind ls hcell (by rw [e]; exact hv) h) ds1
  refine thn (par_at (R := fun v w H2 s2 => v = .str (S (lf ++ [k])) ∧ w = .str (S (del lr k)) ∧ H2 = H) hc hN hi hj hij lf' lr' I ?_ hst hw hs) ?_
  · obtain ⟨u, ⟨tf, rfl⟩, hu⟩ := name_at hi (.inl lf') I sf df1 df2
    refine thnT (Q := fun u s1 => (∃ t', u = .str (S (lf ++ [k])) t') ∧ ∃ tk, s1 = { s with toks := tk }) (wpAny_BinOp (hu _ _ _ (sign s _ _ _ rfl (PyProof.Rows.add_str (fun t' tk => ⟨⟨t', by rw [S_app]⟩, tk, rfl⟩) (by rw [S_len, S_len]; exact hl1))))) ?_
    rintro u1 s1 hk ⟨⟨t', rfl⟩, tk, rfl⟩
    have hk : s.toks ≤ tk := hk
    have I2 : L2.Inv X pins σ H { s with toks := tk } := I.tok tk
    obtain ⟨u2, ⟨tr, rfl⟩, hu2⟩ := name_at hj (.inl lr') I2 sr dr1 dr2
    refine PySem.Call_method2 hbase hst1 hline (hu2 _ _ _ ?_)
    refine ⟨"str", _, F.plainAttrs_str, F.slot_str_replace, F.type_str_replace, typeIs_str _ _ _, (fun _ e => nomatch e), Calls.callWith_builtin rfl (Calls.evalArgs_plain (Calls.spliced_cons (sign _ _ _ _ rfl (Calls.spliced_cons (Calls.Constant_str (Calls.spliced_nil ?_))))))⟩
    rw [S_nil]
    refine PySem.SC.replace (x := S lr) (y := S [k]) (z := S []) (Nat.ne_of_gt t0) ?_ ?_ ?_ ?_ fun t2 k2 => ?_
    · exact Nat.ne_of_gt (Nat.lt_of_lt_of_le (Nat.lt_of_le_of_lt (Nat.zero_le _) t1) hk)
    · exact Nat.ne_of_lt (Nat.lt_of_lt_of_le t1 hk)
    · exact beq_eq_false_iff_ne.mpr fun e => by cases S_inj e
    · rw [S_len, S_len]
      simp only [List.length_nil, Nat.mul_zero]
      omega
    · have e := replace_sign lr k
      refine ⟨.str (S (lf ++ [k])), .str (S (del lr k)), H, I.tok k2, ⟨t', rfl⟩, ⟨t2, ?_⟩, rfl, rfl, rfl⟩
      rw [← e]
      rfl
  · rintro f s' ⟨rfl, v, w', H2, s2, hk, I2, rfl, rfl, rfl⟩
    exact ⟨rfl, I2⟩
end
end Ow

end OwLo3
section OwTop
set_option linter.all false
set_option maxRecDepth 100000
/-! The program's top by places. -/
namespace Ow
open PySem PySem.Spec PyProof.Rows L2
def top (i : Nat) : Stmt := PySem.Challenge.pw_oncewords_k12_whole_lots_of_kinds.main.body.getD i (.Pass ⟨0, 0, 0, 0⟩)
abbrev sNoBound : Stmt := top 5
abbrev sWhole : Stmt := top 9
abbrev sWithin : Stmt := top 10
abbrev sTupleOf : Stmt := top 11
abbrev sNeedCo : Stmt := top 12
abbrev sIsSet : Stmt := top 13
abbrev sFriends : Stmt := top 14
abbrev sLo : Stmt := top 15
abbrev sIsKind : Stmt := top 16
abbrev sNeedKind : Stmt := top 17
abbrev sNeedKinds : Stmt := top 18
abbrev sJoined : Stmt := top 19
abbrev sCommonOf : Stmt := top 21
abbrev sCommonAll : Stmt := top 22
abbrev sBoundOf : Stmt := top 23
abbrev sBoundAll : Stmt := top 24
abbrev sTogether : Stmt := top 25
abbrev sGreatest : Stmt := top 26
abbrev sTaken : Stmt := top 28
abbrev sPairs : Stmt := top 29
abbrev sCompany : Stmt := top 30
abbrev sFirsts : Stmt := top 31
abbrev sFriend : Stmt := top 32
abbrev sKind : Stmt := top 33
abbrev sWord : Stmt := top 34
abbrev sDrawnKind : Stmt := top 35
abbrev sDrawnKinds : Stmt := top 36
abbrev sWholeK : Stmt := top 37
abbrev sBegins : Stmt := top 38
abbrev sCommonL : Stmt := top 39
abbrev sAlike : Stmt := top 40
abbrev sLaw : Stmt := top 41
example : (match sLaw with | .FunctionDef n _ _ _ _ _ _ _ _ _ => n | _ => ("" : Str)) = ("law" : Str) := by decide +kernel
example : (match sLo with | .FunctionDef n _ _ _ _ _ _ _ _ _ => n | _ => ("" : Str)) = ("least_order" : Str) := by decide +kernel
example : (match sTaken with | .FunctionDef n _ _ _ _ _ _ _ _ _ => n | _ => ("" : Str)) = ("_law_taken" : Str) := by decide +kernel
example : (match sCommonOf with | .FunctionDef n _ _ _ _ _ _ _ _ _ => n | _ => ("" : Str)) = ("common_of" : Str) := by decide +kernel
theorem scLo : FnScope ["told", "order", "rest", "found", "sign", "ahead", "other"] ["told", "order"] (defScope sLo) := ⟨rfl, rfl, rfl, by decide +kernel, rfl, by decide +kernel, by decide +kernel⟩
end Ow

end OwTop
section OwLo4
set_option linter.all false
set_option maxRecDepth 100000
set_option maxHeartbeats 8000000
namespace Ow
open PySem PySem.Spec PyProof.Rows L2
/-- friends told: of each letter its friends -/
def Told (F : Nat → Nat → Bool) (L : List Nat) (kvs : List (Key × V)) : Prop := ∀ x ∈ L, ∃ fl : List Nat, valV kvs (Sum.inr (S [x])) = some (.str (S fl)) ∧ ∀ y, y ∈ fl ↔ F x y = true
def ToldAt (H : Hp) (d : Addr) (F : Nat → Nat → Bool) (L : List Nat) : Prop := ∃ kvs, H d = some (.dK kvs) ∧ Told F L kvs
section
variable {P : Program} {w : World} {K : PySem.W.Frag} {mg : Str → Option Value} {base : Heap} {f_ : Addr} {cdv : Value} {A : Around} {outer : List Env} {s0 : Shared} {H0 : Hp} {E : XK}
abbrev loX (P : Program) (w : World) (K : PySem.W.Frag) (mg : Str → Option Value) (base : Heap) (f : Addr) (cdv : Value) (A : Around) (outer : List Env) (s0 : Shared) (H0 : Hp) (E : XK) : Cx :=
  (cxOf CX0 P w K mg base ["told", "order", "rest", "found", "sign", "ahead", "other"] "least_order" (defScope sLo) f cdv A outer s0 H0 E).nox
theorem toks_vals {lo n : Nat} : ∀ {vs : List Value} {ys : List Nat}, Paired (TokV lo n) vs ys → Vals (ys.map fun y => V.str (S [y])) vs
  | _, _, .nil => .nil
  | _, _, .cons ⟨u, e, _⟩ t => .cons ⟨u, e⟩ (toks_vals t)
theorem paired_get {α β : Type} {R : α → β → Prop} : ∀ {xs : List α} {ys : List β} {i : Nat} {y : β}, Paired R xs ys → ys[i]? = some y → ∃ x, xs[i]? = some x ∧ R x y
  | _, _, _, _, .nil, e => by simp at e
  | _, _, 0, _, .cons r _, e => ⟨_, rfl, by simp at e; rw [← e]; exact r⟩
  | _, _, i + 1, _, .cons _ t, e => by
    obtain ⟨x, h1, h2⟩ := paired_get (i := i) t (by simpa using e)
    exact ⟨x, by simpa using h1, h2⟩
def tSigns (F : Nat → Nat → Bool) : TN := fun n D σ H => 1 ≤ n ∧ ∃ (d : Addr) (vo v4 v5 v6 : Option V) (rest found : List Nat), σ = [some (.ref d), vo, some (.str (S rest)), some (.str (S found)), v4, v5, v6] ∧ rest.Nodup ∧ rest ≠ [] ∧ rest.length ≤ 1000 ∧ found.length ≤ 1000 ∧ ToldAt H d F rest ∧
  ∀ H' v4' v5' m, Same H H' → n ≤ m → (D m).nx [some (.ref d), vo, some (.str (S (del rest (mf F rest)))), some (.str (S (found ++ [mf F rest]))), v4', v5', v6] H'
theorem pn_signs {X : Cx} (hX : X = loX P w K mg base f_ cdv A outer s0 H0 E) {F : Nat → Nat → Bool} (hu : X.A.units + 64 < cLine) (mS : mg "sorted" = none) (mA : mg "all" = none)
    {p1 p2 p3 p4 p5 q1 q2 q3 q4 q5 q6 q7 q8 q9 r1 r2 r3 r4 r5 r6 r7 r8 r9 t1 t2 t3 t4 t5 t6 t7 t8 t9 t10 t11 t12 t13 t14 t15 t16 : Pos} {k1 k2 jc : Nat} {scope : Scope}
    (hsw : swappedStores [.Tuple [.Name "found" t1, .Name "rest" t2] k1 t11] (.Tuple [.BinOp (.Name "found" t3) .Add (.Name "sign" t4) t5, .Call (.Attribute (.Name "rest" t6) "replace" t9) [.Name "sign" t7, .Constant (.str "") jc t8] [] t10] k2 t12) X.env = pure (some [("found" : Str), "rest"]))
    (hline1 : (q3.endLine == q5.line) = true) (hline2 : (t9.endLine == t10.line) = true) (ok : BlkOk X.N X.env.scope scope [("other", 6)])
    (hg : ∀ (s : Shared) (H : Hp) (C : Addr) (cl : List (Str × Addr)) (fp : List Addr), PG (X.blk s H scope (compEnvC scope cl C X.env) fp) (.Name "other" r2) (gName 6))
    (he : ∀ (s : Shared) (H : Hp) (C : Addr) (cl : List (Str × Addr)) (fp : List Addr), PE (X.blk s H scope (compEnvC scope cl C X.env) fp) (.Compare (.Name "other" r6) [.NotIn] [.Subscript (.Name "told" r7) (.Name "sign" r8) r9] t15)
      (tOp (fun x y H Q => ∃ (c : Nat) (z : Str), x = .str ⟨#[c]⟩ ∧ y = .str z ∧ Q (.bl (!decide (c ∈ z.cps.toList))) H) (tVar 6) (tDGet (tVar 0) (tVar 4)))) :
    PN X (.For (.Name "sign" p1) (.Call (.Name "sorted" p2) [.Name "rest" p3] [] p4)
      [.Assign [.Name "ahead" q8] (.Subscript (.Name "rest" q1) (.Slice none (some (.Call (.Attribute (.Name "rest" q2) "index" q3) [.Name "sign" q4] [] q5)) none q6) q7) q9,
       .If (.Call (.Name "all" r1) [.ListComp (.Compare (.Name "other" r6) [.NotIn] [.Subscript (.Name "told" r7) (.Name "sign" r8) r9] t15) [⟨.Name "other" r2, .Name "ahead" r3, [], 0⟩] scope r4] [] r5)
         [.Assign [.Tuple [.Name "found" t1, .Name "rest" t2] k1 t11] (.Tuple [.BinOp (.Name "found" t3) .Add (.Name "sign" t4) t5, .Call (.Attribute (.Name "rest" t6) "replace" t9) [.Name "sign" t7, .Constant (.str "") jc t8] [] t10] k2 t12) t13, .Break t14] [] t16] [] p5) (tSigns F) := by
  subst hX
  refine ⟨fun n pins s σ H D hn I q => ?_⟩
  obtain ⟨h1, d, vo, v4, v5, v6, rest, found, rfl, nr, ne, lr, lf, ⟨kvs, hd, hT⟩, done⟩ := q
  have I0 := I
  obtain ⟨c, hc⟩ := I.ok.has "sign" (.inl rfl)
  have sz : rest.length ≤ sizeLine := Nat.le_trans lr (by decide)
  refine wpAny_For ?_ (by intro _; rfl)
  refine wpAny_Call_Name_kw (ld_blt (u := .builtin "sorted") I rfl mS (by decide +kernel) ?_)
  refine PyProof.Rows.callWith_builtin1 ?_ rfl rfl
  obtain ⟨u, ⟨t, rfl⟩, hu1⟩ := name_at (i := 2) (x := "rest") rfl (.inl rfl) I rfl (by decide) (by decide)
  refine Calls.spliced_cons (hu1 _ _ _ (Calls.spliced_nil ?_))
  refine sorted_signs (I.ok.hd rfl) hu (by rw [S_size]; exact sz) fun ha hb tk ep vs kp1 kp2 htk hgl hvs => ?_
  rw [S_list] at hvs
  have hlen : vs.length = (sortN rest).length := Paired.length hvs
  have hsz : ((sortN rest).map fun y => V.str (S [y])).length ≤ sizeLine := by
    rw [List.length_map, (sortN_perm rest).length_eq]
    exact sz
  have I1 : L2.Inv (loX P w K mg base f_ cdv A outer s0 H0 E) pins _ H { s with heap := ha } := I.kept (t' := s.toks) kp1
  have nP : H ha.objs.size = none := I1.hok.fresh (Nat.le_refl _)
  have I2 := I1.laid (a := ha.objs.size) (o := .frz (seqObj "list" vs.toArray ep) (.lst ((sortN rest).map fun y => V.str (S [y])))) (t' := tk) kp2 (Nat.le_refl _) ⟨hgl, hsz, vs, ep, toks_vals hvs, hgl⟩
  generalize ha.objs.size = p at I2 nP hgl
  have S1 : Same H (upd H p (.frz (seqObj "list" vs.toArray ep) (.lst ((sortN rest).map fun y => V.str (S [y]))))) := same_upd nP
  have hp1 : (upd H p (.frz (seqObj "list" vs.toArray ep) (.lst ((sortN rest).map fun y => V.str (S [y]))))) p = some (.frz (seqObj "list" vs.toArray ep) (.lst ((sortN rest).map fun y => V.str (S [y])))) := upd_same
  generalize upd H p (.frz (seqObj "list" vs.toArray ep) (.lst ((sortN rest).map fun y => V.str (S [y])))) = H1 at I2 S1 hp1
  refine wpAny_pyIter_list (items := vs.toArray) ⟨_, hgl, rfl, ep, rfl⟩ ?_
  have I3 := I2.kept (t' := tk) (h' := hb.push { cls := .type "list_iterator", data := .fields #[.ref p, .int 0 0] }) fun b o e => Heap.get?_push_of_some _ e
  have nIt : H1 hb.objs.size = none := I2.hok.fresh (Nat.le_refl _)
  have fpI := I2.fpOk (Nat.le_refl _) nIt
  have st0 : (hb.push { cls := .type "list_iterator", data := .fields #[.ref p, .int 0 0] }).IsListIter hb.objs.size p 0 := ⟨_, Heap.get?_push_size _ rfl, rfl, rfl⟩
  show codeAny _ _ (.forLoop _ (.ref hb.objs.size) _ _ _) _ _
  generalize hb.objs.size = it at nIt fpI st0
  refine codeAny_forLoop_any (fun j s' => ∃ i H' v4 v5, j = (sortN rest).length - i ∧ i ≤ (sortN rest).length ∧ L2.Inv (loX P w K mg base f_ cdv A outer s0 H0 E) pins [some (.ref d), vo, some (.str (S rest)), some (.str (S found)), v4, v5, v6] H' s' ∧ Same H1 H' ∧ s'.heap.IsListIter it p i ∧ H' it = none ∧ tk ≤ s'.toks ∧
    ∀ a y, a < i → (sortN rest)[a]? = some y → fre F rest y = false) ?_ (sortN rest).length ⟨0, H1, v4, v5, rfl, Nat.zero_le _, I3, Same.refl _, st0, nIt, Nat.le_refl _, fun a y ha => absurd ha (Nat.not_lt_zero a)⟩
  rintro j s3 ⟨i, H3, v4, v5, rfl, hi, I3, S3, st3, n3, tk3, none3⟩
  have hl3 : s3.heap.IsList p vs.toArray := by
    obtain ⟨z1, _⟩ := I3.hok p _ (S3 _ _ hp1)
    exact ⟨_, z1, rfl, ep, rfl⟩
  have hfp : FpOk (loX P w K mg base f_ cdv A outer s0 H0 E) pins H3 it := ⟨n3, fpI.2⟩
  have hd3 : H3 d = some (.dK kvs) := S3 _ _ (S1 _ _ hd)
  by_cases hlt : i < (sortN rest).length
  · obtain ⟨y, hy⟩ : ∃ y, (sortN rest)[i]? = some y := ⟨_, List.getElem?_eq_getElem hlt⟩
    have my : y ∈ rest := (sortN_perm rest).mem_iff.mp (List.mem_of_getElem? hy)
    obtain ⟨_, hv, tu, rfl, t0, t1⟩ := paired_get hvs hy
    refine wpAny_passesOwn PassesOwn.never (wpAny_pyNext_list_item st3 hl3 (x := .str ⟨#[y]⟩ tu) (by simpa using hv) fun h4 st4 sb4 => ?_)
    obtain ⟨f0, f1, f2, f3, f4, f5⟩ := id hfp
    have I4 : L2.Inv (loX P w K mg base f_ cdv A outer s0 H0 E) pins _ H3 { s3 with heap := h4 } := I3.turned (t' := s3.toks) (fun b o hb e => (sb4.2 b hb).trans e) f0 f1 f3 f4 f5
    obtain ⟨oi, e4, c4, d4⟩ := id st4
    refine wpAny_passesOwn PassesOwn.never (go_of (s := { s3 with heap := h4 }) e4 c4 d4 (by decide) ?_)
    have I5 := I4.pinned (fp := [it]) (fun b hb => by rw [List.mem_singleton.mp hb]; exact hfp) (fun b hb => ⟨oi, by rw [List.mem_singleton.mp hb]; exact e4, fun v z => by rw [d4] at z; cases z⟩)
    refine wpAny_passesOwn PassesOwn.never (wpAny_assign_Name (store_cell (i := 4) (v := .str (S [y])) I5 scLo.nd rfl rfl rfl hc ⟨tu, rfl⟩ fun h6 I6 c6 sb6 => ?_))
    refine wpAny_passesOwn PassesOwn.never ?_
    -- ahead = rest[:rest.index(sign)]
    refine wpAny_execs_cons (thnT (Q := fun f s8 => f = .next ∧ L2.Inv (loX P w K mg base f_ cdv A outer s0 H0 E) (pins ++ pinsAt [it] h4) [some (.ref d), vo, some (.str (S rest)), some (.str (S found)), some (.str (S [y])), some (.str (S (ahd rest y))), v6] H3 s8 ∧ s8.heap.IsCell c (some (.str (S [y]) tu)))
      (wpAny_Assign_Name (ahead_eval (i := 2) (j := 4) (c := y) (l := rest) I6 rfl (.inl rfl) rfl (.inr (.inl rfl)) rfl rfl my sz (fun h7 k7 u7 kp7 => ?_) (by decide) (by decide) (by decide) (by decide) rfl rfl hline1) rfl) ?_)
    · have I7 : L2.Inv (loX P w K mg base f_ cdv A outer s0 H0 E) (pins ++ pinsAt [it] h4) _ H3 { s3 with heap := h7, toks := k7 } := I6.kept (t' := k7) kp7
      have c7 : h7.IsCell c (some (.str (S [y]) tu)) := by
        obtain ⟨o, ho, hd'⟩ := c6
        exact ⟨o, kp7 _ _ ho, hd'⟩
      refine store_ok2 (i := 5) (v := .str (S (ahd rest y))) I7 scLo.nd rfl (.inl rfl) ⟨u7, rfl⟩ (fun s8 I8 ⟨a, sb8, ha⟩ => ⟨rfl, I8, c7.sameBut sb8 ?_⟩) (.inr rfl)
      rcases ha with z | z
      · rw [z]
        exact I7.cne _ _ hc
      · intro q
        rw [← q] at z
        exact absurd (I7.ok.inj _ _ _ z hc) (by decide)
    rintro f8 s8 hk8 ⟨rfl, I8, c8⟩
    have hk8 : s3.toks ≤ s8.toks := hk8
    -- if all(..)
    obtain ⟨fl, hfl, mfl⟩ := hT y my
    refine wpAny_execs_cons (wpAny_If (thnT (all_at (i := 5) (xa := "ahead") (xo := "other") (io := 6) (l := ahd rest y) (p := fun z => !F y z) (te := (tOp (fun x y H Q => ∃ (c : Nat) (z : Str), x = .str ⟨#[c]⟩ ∧ y = .str z ∧ Q (.bl (!decide (c ∈ z.cps.toList))) H) (tVar 6) (tDGet (tVar 0) (tVar 4))))
      rfl scLo.nd I8 rfl (.inl rfl) rfl (Nat.lt_of_le_of_lt (Nat.le_trans (List.takeWhile_sublist _).length_le lr) (by decide)) ok rfl mA hg he (by intro _; rfl) (by intro _; rfl)
      (fun z H' Q hz hS q => ?_) (by decide) (by decide) rfl rfl (by intro _; rfl)) ?_))
    · refine ⟨.str (S [z]), rfl, .ref d, rfl, .str (S [y]), rfl, d, .str (S fl), rfl, ?_, z, S fl, rfl, rfl, ?_⟩
      · rw [← hfl]
        exact DGet.k (k := Sum.inr (S [y])) (hS _ _ hd3)
      · rw [S_list, show decide (z ∈ fl) = F y z from by
          cases e : F y z with
          | true => exact decide_eq_true ((mfl z).mpr e)
          | false => exact decide_eq_false fun m => by rw [(mfl z).mp m] at e; cases e]
        exact q
    rintro b s9 hk9 ⟨hb, H9, I9, S9, lf9⟩
    have hb : b = fre F rest y := hb
    obtain ⟨oc, hoc, hcd⟩ := id c8
    have c9 : s9.heap.IsCell c (some (.str (S [y]) tu)) := ⟨oc, lf9 c oc hoc (I8.freeC _ c hc) (cell_off I8 rfl hc), hcd⟩
    cases b with
    | true =>
      have m : mf F rest = y := mf_eq ⟨my, hb.symm, fun z hz fz => by
        obtain ⟨a, ha⟩ := List.mem_iff_getElem?.mp ((sortN_perm rest).mem_iff.mpr hz)
        rcases Nat.lt_trichotomy a i with q | q | q
        · rw [none3 a z q ha] at fz
          cases fz
        · rw [q, hy] at ha
          exact Nat.le_of_eq (Option.some.inj ha)
        · have sl := sortN_le rest
          rw [List.pairwise_iff_getElem] at sl
          obtain ⟨la, ea⟩ := List.getElem?_eq_some_iff.mp ha
          obtain ⟨li, ei⟩ := List.getElem?_eq_some_iff.mp hy
          have := sl i a li la q
          rw [ea, ei] at this
          exact this⟩
      refine wpAny_execs_cons (thnT (pair_at (i := 3) (j := 2) (xf := "found") (xr := "rest") (xs := "sign") (k := y) (t := tu) (lf := found) (lr := rest) rfl scLo.nd I9 rfl rfl (by decide) rfl rfl rfl rfl rfl hc c9 (Nat.le_trans h1 (Nat.le_trans hn t0)) (Nat.lt_of_lt_of_le t1 (Nat.le_trans tk3 (Nat.le_trans hk8 hk9)))
        (Nat.le_trans (Nat.succ_le_succ lf) (by decide)) lr (by decide) (by decide) (by decide) (by decide) (by decide) rfl rfl hline2 rfl hsw rfl) ?_)
      rintro f10 s10 hk10 ⟨rfl, I10⟩
      refine wpAny_execs_cons (wpAny_Break ?_)
      refine ⟨n, Nat.le_trans hn (Nat.le_trans htk (Nat.le_trans tk3 (Nat.le_trans hk8 (Nat.le_trans hk9 hk10)))), _, H9, I10.unpinned, ?_⟩
      rw [← m]
      exact done H9 (some (.str (S [mf F rest]))) (some (.str (S (ahd rest (mf F rest))))) n ((S1.trans S3).trans S9) (Nat.le_refl _)
    | false =>
      refine wpAny_execs_nil (wpAny_execs_nil ?_)
      have pin := I9.pin (it, oi) (List.mem_append_right _ (List.mem_append_right _ (mem_pinsAt List.mem_cons_self e4)))
      refine ⟨(sortN rest).length - (i + 1), by omega, i + 1, H9, some (.str (S [y])), some (.str (S (ahd rest y))), rfl, hlt, I9.unpinned, S3.trans S9, ⟨oi, pin.1, c4, d4⟩, pin.2.1, Nat.le_trans tk3 (Nat.le_trans hk8 hk9), fun a z ha hz => ?_⟩
      rcases Nat.lt_or_ge a i with q | q
      · exact none3 a z q hz
      · have e : a = i := by omega
        rw [e, hy] at hz
        rw [← Option.some.inj hz]
        exact hb.symm
  · exfalso
    have e : i = (sortN rest).length := by omega
    have ms := mf_is (F := F) ne
    obtain ⟨a, ha⟩ := List.mem_iff_getElem?.mp ((sortN_perm rest).mem_iff.mpr ms.mem)
    have := none3 a _ (by rw [e]; exact (List.getElem?_eq_some_iff.mp ha).1) ha
    rw [ms.fr] at this
    cases this
end
end Ow

end OwLo4
section OwLo5
set_option linter.all false
set_option maxRecDepth 100000
set_option maxHeartbeats 8000000
namespace Ow
open PySem PySem.Spec PyProof.Rows L2
/-- least_order(told, order): the least row of its letters -/
def spLo : Sp := fun vs H Q _ => ∃ (d : Addr) (l : List Nat) (F : Nat → Nat → Bool), vs = [.ref d, .str (S l)] ∧ ToldAt H d F l ∧ l.Nodup ∧ l.length ≤ 900 ∧ ∀ H', Same H H' → Q (.str (S (kd F l.length l))) H'
abbrev loScope : Scope := { kind := .function, names := [(".0", .local), ("other", .local), ("sign", .free), ("told", .free)], isGenerator := false, isCoroutine := false, more := [] }
theorem str_eq_iff (l : List Nat) : (V.str (S l) = V.str "") ↔ l = [] := by
  rw [S_nil]
  constructor
  · intro h
    injection h with h
    exact S_inj h
  · rintro rfl
    rfl
section
variable {P : Program} {w : World} {K : PySem.W.Frag} {mg : Str → Option Value} {base : Heap}
theorem ok_lo {f : Addr} {fd : FuncData} (F : Fun K "least_order" "least_order" sLo f fd) (mS : mg "sorted" = none) (mA : mg "all" = none) : FnOk P w K mg base CX0 1 f fd ["told", "order"] spLo := by
  refine F.ok scLo (fun vs H Q E h => ?_) (fun cdv A outer s H vs Q E hr h => ?_)
  · obtain ⟨d, l, FF, rfl, _⟩ := h
    rfl
  · obtain ⟨d, l, FF, rfl, ⟨kvs, hd, hT⟩, nd, hl, k⟩ := h
    have hu : (loX P w K mg base f cdv A outer s H E).A.units + 64 < cLine := hr.units
    refine ⟨_, pss_of_psn (psn_cons (pn_parLit (i := 2) (j := 3) rfl scLo.nd rfl rfl (by decide) rfl rfl (pv 1) rfl rfl rfl)
      (psn_cons (pn_while PassesOwn.never (pt_cmpR op_ne (pv 2) pe_str (nomark _))
        (psn_one (pn_signs (F := FF) (scope := loScope) (X := loX P w K mg base f cdv A outer s H E) rfl hu mS mA rfl rfl rfl (blkOk_by (N := ["told", "order", "rest", "found", "sign", "ahead", "other"]) (sc := defScope sLo) (by decide +kernel)) (fun _ _ _ _ _ => pg_name (i := 6) scLo.nd rfl (Or.inl rfl))
          (fun _ _ _ _ _ => pe_cmpR op_notIn_sign (pv 6) (pe_dget (hu_of hr) (pv 0) (pv 4) (fun _ _ => rfl)) rfl))))
      (psn_one (pn_of (ps_ret (pv 3)))))), ?_⟩
    refine ⟨_, rfl, fun m _ hm => ?_⟩
    refine ⟨fun kk mm σ H' => 1 ≤ kk ∧ ∃ (v4 v5 : Option V) (rest found : List Nat), σ = [some (.ref d), some (.str (S l)), some (.str (S rest)), some (.str (S found)), v4, v5, none] ∧ mm = rest.length ∧ rest.Nodup ∧ found.length + rest.length = l.length ∧ (∀ x ∈ rest, x ∈ l) ∧ found ++ kd FF rest.length rest = kd FF l.length l ∧ Same H H',
      ⟨l.length, hm, none, none, l, [], rfl, rfl, nd, by simp, fun x h => h, rfl, Same.refl _⟩, ?_⟩
    rintro kk mm σ H' ⟨hkk, v4, v5, rest, found, rfl, rfl, nr, hlen, sub, heq, hS⟩
    refine ⟨_, rfl, rfl, _, rfl, ?_⟩
    by_cases e : rest = []
    · have q : decide (V.str (S rest) = V.str "") = true := decide_eq_true ((str_eq_iff rest).mpr e)
      rw [q]
      refine iteF ⟨_, rfl, ?_⟩
      subst e
      have z : found = kd FF l.length l := by simpa [kd] using heq
      rw [z]
      exact k H' hS
    · have q : decide (V.str (S rest) = V.str "") = false := decide_eq_false fun z => e ((str_eq_iff rest).mp z)
      rw [q]
      refine iteT ?_
      have ms := mf_is (F := FF) e
      have hdl := del_len nr ms.mem
      refine ⟨fun k' σ' H2 => 1 ≤ k' ∧ ∃ (v4 v5 : Option V), σ' = [some (.ref d), some (.str (S l)), some (.str (S (del rest (mf FF rest)))), some (.str (S (found ++ [mf FF rest]))), v4, v5, none] ∧ Same H' H2, ?_, ?_⟩
      · rintro k' σ' H2 ⟨hk', v4', v5', rfl, hS2⟩
        refine ⟨(del rest (mf FF rest)).length, by omega, hk', v4', v5', _, _, rfl, rfl, del_nodup _ nr, ?_, fun x hx => sub x (mem_del.mp hx).1, ?_, hS.trans hS2⟩
        · rw [List.length_append, List.length_singleton]
          omega
        · rw [← heq, ← hdl, List.append_assoc]
          rfl
      · refine ⟨hkk, d, some (.str (S l)), v4, v5, none, rest, found, rfl, nr, e, by omega, by omega, ⟨kvs, hS _ _ hd, fun x hx => hT x (sub x hx)⟩, fun H2 v4' v5' m' hS2 hm' => ?_⟩
        exact ⟨Nat.le_trans hkk hm', v4', v5', rfl, hS2⟩
end
end Ow

end OwLo5
section OwCal
set_option linter.all false
set_option maxRecDepth 100000
set_option maxHeartbeats 8000000
namespace Ow
open PySem PySem.Spec PyProof.Rows L2
/-- a def as its callers take it: by its name -/
structure Cal (P : Program) (w : World) (K : PySem.W.Frag) (mg : Str → Option Value) (base : Heap) (k : Nat) (x : Str) (ps : List Str) (sp : Sp) : Prop where
  it : ∃ f fd, FnOk P w K mg base CX0 k f fd ps sp ∧ mg x = some (.ref f) ∧ PySem.W.keepIn K (.ref f) = true ∧ Binds K fd ps []
theorem pe_cl {X : Cx} {k : Nat} {ps : List Str} {sp : Sp} {x : Str} {p pos : Pos} {e : Expr} {es : List Expr} {t : TA} (C : Cal X.prog X.w X.K X.mg X.base k x ps sp) (hr : Room k X.A) (hg : Gl X x) (ha : PA X (e :: es) t) (hdb : (x == ("__debug__" : Str)) = false := by decide)
    (he : starEach (e :: es) X.env = (false, eval e X.env) :: starEach es X.env := by rfl) (hpl : (backTo pos (starEach es X.env)).any (·.1) = false := by rfl) : PE X (.Call (.Name x p) (e :: es) [] pos) (tCall sp [] E0 t) := by
  obtain ⟨f, fd, G, hm, hk, hb⟩ := C.it
  exact pe_call G hr hg hm hk hb .nil pass0 ha hdb he hpl
/-- a built-in class by its name -/
theorem pe_ty {X : Cx} {x : Str} (T : String) {p : Pos} (hg : Gl X x) (hm : X.mg x = none) (hv : bootBuiltins x = some (.type T)) (hn : x ≠ "__name__" := by decide) (hd : (x == ("__debug__" : Str)) = false := by decide) : PE X (.Name x p) (tC (.ty T)) := pe_bltn (v := .ty T) (u := .type T) hg hm hv rfl hn hd
section
variable {P : Program} {w : World} {K : PySem.W.Frag} {mg : Str → Option Value} {base : Heap}
theorem scWhole : FnScope ["value"] ["value"] (defScope sWhole) := ⟨rfl, rfl, rfl, by decide +kernel, rfl, by decide +kernel, by decide +kernel⟩
theorem scWithin : FnScope ["value", "low", "high"] ["value", "low", "high"] (defScope sWithin) := ⟨rfl, rfl, rfl, by decide +kernel, rfl, by decide +kernel, by decide +kernel⟩
theorem scTupleOf : FnScope ["value", "low", "high"] ["value", "low", "high"] (defScope sTupleOf) := ⟨rfl, rfl, rfl, by decide +kernel, rfl, by decide +kernel, by decide +kernel⟩
def spWhole : Sp := fun vs H Q _ => ∃ i : Int, vs = [.int i] ∧ Q (.bl true) H
def spWithin : Sp := fun vs H Q _ => ∃ i a b : Int, vs = [.int i, .int a, .int b] ∧ Q (.bl (decide (a ≤ i ∧ i ≤ b))) H
def spTupleOf : Sp := fun vs H Q _ => ∃ (p : Addr) (xs : List V) (a b : Int), vs = [.ref p, .int a, .int b] ∧ H p = some (.tup xs) ∧ Q (.bl (decide (a ≤ (xs.length : Int) ∧ (xs.length : Int) ≤ b))) H
theorem ok_whole {f : Addr} {fd : FuncData} (F : Fun K "whole" "whole" sWhole f fd) (mI : mg "isinstance" = none) (mN : mg "int" = none) (mB : mg "bool" = none) : FnOk P w K mg base CX0 1 f fd ["value"] spWhole := by
  refine F.ok scWhole (fun vs H Q E h => ?_) (fun cdv A outer s H vs Q E hr h => ?_)
  · obtain ⟨i, rfl, _⟩ := h
    rfl
  · obtain ⟨i, rfl, k⟩ := h
    refine ⟨_, pss_one (ps_ret (pe_and (pe_callB call_isi rfl mI (by decide +kernel) (pa_cons (pv 0) (pa_cons (pe_bltn (v := .ty "int") (u := .type "int") rfl mN (by decide +kernel) rfl) pa_nil)))
      (pe_one (pe_not (pe_callB call_isi rfl mI (by decide +kernel) (pa_cons (pv 0) (pa_cons (pe_bltn (v := .ty "bool") (u := .type "bool") rfl mB (by decide +kernel) rfl) pa_nil))))))), ?_⟩
    refine ⟨_, rfl, _, _, _, _, _, rfl, .ty "int", .base (.int i), kit_ty (r := true) (by decide +kernel), _, rfl, ?_⟩
    refine iteT ?_
    refine ⟨_, rfl, _, _, _, _, _, rfl, .ty "bool", .base (.int i), kit_ty (r := false) (by decide +kernel), _, rfl, ?_⟩
    exact k
theorem ok_within {f : Addr} {fd : FuncData} (F : Fun K "within" "within" sWithin f fd) (C : Cal P w K mg base 1 "whole" ["value"] spWhole) : FnOk P w K mg base CX0 2 f fd ["value", "low", "high"] spWithin := by
  refine F.ok scWithin (fun vs H Q E h => ?_) (fun cdv A outer s H vs Q E hr h => ?_)
  · obtain ⟨i, a, b, rfl, _⟩ := h
    rfl
  · obtain ⟨i, a, b, rfl, k⟩ := h
    refine ⟨_, pss_one (ps_ret (pe_and (pe_cl C hr rfl (pa_cons (pv 0) pa_nil)) (pe_one (pe_chain op_le op_le (pv 1) (pv 0) (pv 2))))), ?_⟩
    refine ⟨_, rfl, i, rfl, _, rfl, ?_⟩
    refine iteT ?_
    refine ⟨_, rfl, _, rfl, _, _, rfl, rfl, _, rfl, ?_⟩
    by_cases h1 : a ≤ i
    · rw [decide_eq_true h1]
      refine iteT ⟨_, rfl, _, _, rfl, rfl, ?_⟩
      simpa [h1] using k
    · rw [decide_eq_false h1]
      refine iteF ?_
      simpa [h1] using k
theorem ok_tupleOf {f : Addr} {fd : FuncData} (F : Fun K "tuple_of" "tuple_of" sTupleOf f fd) (mI : mg "isinstance" = none) (mT : mg "tuple" = none) (mL : mg "len" = none) : FnOk P w K mg base CX0 1 f fd ["value", "low", "high"] spTupleOf := by
  refine F.ok scTupleOf (fun vs H Q E h => ?_) (fun cdv A outer s H vs Q E hr h => ?_)
  · obtain ⟨p, xs, a, b, rfl, _⟩ := h
    rfl
  · obtain ⟨p, xs, a, b, rfl, hp, k⟩ := h
    refine ⟨_, pss_one (ps_ret (pe_and (pe_callB call_isi rfl mI (by decide +kernel) (pa_cons (pv 0) (pa_cons (pe_bltn (v := .ty "tuple") (u := .type "tuple") rfl mT (by decide +kernel) rfl) pa_nil))) (pe_one (pe_chain op_le op_le (pv 1) (pe_callB call_len_seq (by rfl) mL PySem.boot_len (pa_cons (pv 0) pa_nil)) (pv 2))))), ?_⟩
    refine ⟨_, rfl, _, _, _, _, _, rfl, .ty "tuple", .base (.tup hp), kit_ty (r := true) (by decide +kernel), _, rfl, ?_⟩
    refine iteT ?_
    refine ⟨_, rfl, _, rfl, p, _, rfl, .inr (SqT.of hp), _, _, rfl, rfl, _, rfl, ?_⟩
    by_cases h1 : a ≤ (xs.length : Int)
    · rw [decide_eq_true h1]
      refine iteT ⟨_, rfl, _, _, rfl, rfl, ?_⟩
      simpa [h1] using k
    · rw [decide_eq_false h1]
      refine iteF ?_
      simpa [h1] using k
end
end Ow

end OwCal
section OwLoop
set_option linter.all false
set_option maxRecDepth 100000
set_option maxHeartbeats 4000000
/-! Loops told by place, over any walked thing that stands still. -/
namespace Ow
open PySem PySem.Spec PyProof.Rows L2
structure Over (J : It) (n : Nat) (R : Nat → V → Hp → Prop) (H0 : Hp) : Prop where
  go : ∀ i H, Same H0 H → i < n → J.go i H
  stop : ∀ H, Same H0 H → J.stop n H
  yld : ∀ i H x H', Same H0 H → i < n → J.yld i H x H' → Same H H' ∧ R i x H'
theorem tup_ix {H : Hp} {a : Addr} {xs : List V} (e : H a = some (.tup xs)) : H a = some (.tup xs) := e
theorem over_str (l : List Nat) (H0 : Hp) : Over (Its (S l)) l.length (fun i x _ => ∃ c, l[i]? = some c ∧ x = .str (S [c])) H0 where
  go := fun i H _ h => by show i < (S l).cps.size; rw [S_size]; exact h
  stop := fun H _ => by show (S l).cps.size ≤ l.length; rw [S_size]; exact Nat.le_refl _
  yld := fun i H x H' _ h y => by
    obtain ⟨rfl, c, hc, rfl⟩ := y
    exact ⟨Same.refl _, c, S_get.mp hc, rfl⟩
theorem over_tup {K : PySem.W.Frag} {a : Addr} {xs : List V} {H0 : Hp} (h : H0 a = some (.tup xs)) : Over (Itt K a) xs.length (fun i x _ => xs[i]? = some x) H0 where
  go := fun i H e hi => ⟨xs, xs[i], SqT.of (e _ _ h), by simp [hi]⟩
  stop := fun H e => ⟨xs, SqT.of (e _ _ h), Nat.le_refl _⟩
  yld := fun i H x H' e hi y => by
    obtain ⟨rfl, y⟩ := y
    exact ⟨Same.refl _, y xs (SqT.of (e _ _ h))⟩
theorem over_list {K : PySem.W.Frag} {a : Addr} {xs : List V} {H0 : Hp} (h : H0 a = some (.lst xs)) : Over (Itl K a) xs.length (fun i x _ => xs[i]? = some x) H0 where
  go := fun i H e hi => ⟨xs, xs[i], SqL.of (e _ _ h), by simp [hi]⟩
  stop := fun H e => ⟨xs, SqL.of (e _ _ h), Nat.le_refl _⟩
  yld := fun i H x H' e hi y => by
    obtain ⟨rfl, y⟩ := y
    exact ⟨Same.refl _, y xs (SqL.of (e _ _ h))⟩
theorem over_range {lo : Int} {n : Nat} {H0 : Hp} : Over (Itr lo n) n (fun i x _ => x = .int (lo + i)) H0 where
  go := fun i H e hi => hi
  stop := fun H e => Nat.le_refl _
  yld := fun i H x H' e hi y => by
    obtain ⟨rfl, y⟩ := y
    exact ⟨Same.refl _, y⟩
theorem for_gen {J : It} {n : Nat} {R : Nat → V → Hp → Prop} {H0 : Hp} {g : TG} {tb : TS} {D : Ends} {σ : L2.St} {H : Hp} (O : Over J n R H0) (Pv : Nat → L2.St → Hp → Prop) (h0 : Pv 0 σ H) (hq : ∀ i σ H, Pv i σ H → Same H0 H)
    (hs : ∀ i x σ H H', i < n → Pv i σ H → Same H H' → R i x H' → g x σ H' fun σ2 H2 => tb { D with nx := Pv (i + 1), ct := Pv (i + 1), bk := D.nx } σ2 H2) (hd : ∀ σ H, Pv n σ H → D.nx σ H) :
    ∃ W : Nat → Nat → L2.St → Hp → Prop, (∃ m, W 0 m σ H) ∧ ∀ i m σ H, W i m σ H →
      (J.stop i H ∧ D.nx σ H) ∨ (J.go i H ∧ ∃ N : L2.St → Hp → Prop, (∀ σ' H', N σ' H' → ∃ m', m' < m ∧ W (i + 1) m' σ' H') ∧ ∀ x H', J.yld i H x H' → g x σ H' fun σ2 H2 => tb { D with nx := N, ct := N, bk := D.nx } σ2 H2) := by
  refine ⟨fun i m σ H => m = n - i ∧ i ≤ n ∧ Pv i σ H, ⟨n, by simp, Nat.zero_le _, h0⟩, ?_⟩
  rintro i m σ H ⟨rfl, hi, p⟩
  have q := hq i σ H p
  by_cases hlt : i < n
  · refine .inr ⟨O.go i H q hlt, Pv (i + 1), fun σ' H' p' => ⟨n - (i + 1), by omega, rfl, hlt, p'⟩, fun x H' y => ?_⟩
    obtain ⟨s, r⟩ := O.yld i H x H' q hlt y
    exact hs i x σ H H' hlt p s r
  · have e : i = n := by omega
    subst e
    exact .inl ⟨O.stop H q, hd σ H p⟩
/-- made so far -/
def made (f : Nat → Option V) (i : Nat) : List V := (List.range i).filterMap f
theorem made_succ (f : Nat → Option V) (i : Nat) : made f (i + 1) = made f i ++ (f i).toList := by
  unfold made
  rw [List.range_succ, List.filterMap_append]
  congr 1
theorem made_len (f : Nat → Option V) : ∀ i, (made f i).length ≤ i
  | 0 => by simp [made]
  | i + 1 => by
    rw [made_succ, List.length_append]
    have := made_len f i
    cases f i <;> simp <;> omega
theorem made_get {α : Type} (l : List α) (F : α → Option V) : made (fun i => l[i]?.bind F) l.length = l.filterMap F := by
  have h : ∀ k, k ≤ l.length → made (fun i => l[i]?.bind F) k = (l.take k).filterMap F := by
    intro k
    induction k with
    | zero => intro _; simp [made]
    | succ k ih =>
      intro hk
      have e : l[k]? = some l[k] := List.getElem?_eq_getElem hk
      rw [made_succ, ih (by omega), List.take_add_one, e, List.filterMap_append]
      congr 1
  rw [h _ (Nat.le_refl _), List.take_length]
theorem lc_gen {J : It} {n : Nat} {R : Nat → V → Hp → Prop} {H1 : Hp} {g : TG} {tt : TT} {te : TE} {vs : List Nat} {σ : L2.St} {D : Addr} {Qd : Hp → Prop} (O : Over J n R H1) (f : Nat → Option V) (hD : H1 D = none) (hn : n ≤ sizeLine)
    (hs : ∀ i x H' (Nx : Option V → Hp → Prop), i < n → Same H1 H' → R i x H' → (∀ H4, Same H' H4 → Nx (f i) H4) → g x (wipe σ vs) H' fun σ2 H2 => wipe σ2 vs = wipe σ vs ∧ tt σ2 H2 fun b H3 =>
      if b = true then te σ2 H3 fun y H4 => Nx (some y) H4 else Nx none H3) (hd : ∀ H, Same H1 H → H D = some (.lst (made f n)) → Qd H) :
    ∃ W : Nat → Nat → Hp → Prop, (∃ m, W 0 m (upd H1 D (.lst []))) ∧ ∀ i m H, W i m H →
      (J.stop i H ∧ Qd H) ∨ (J.go i H ∧ ∃ Nx : Hp → Prop, (∀ H', Nx H' → ∃ m', m' < m ∧ W (i + 1) m' H') ∧ ∀ x H', J.yld i H x H' → g x (wipe σ vs) H' fun σ2 H2 => wipe σ2 vs = wipe σ vs ∧ tt σ2 H2 fun b H3 =>
        if b = true then te σ2 H3 fun y H4 => ∃ acc, H4 D = some (.lst acc) ∧ acc.length < sizeLine ∧ Nx (upd H4 D (.lst (acc ++ [y]))) else Nx H3) := by
  refine ⟨fun i m H => m = n - i ∧ i ≤ n ∧ Same H1 H ∧ H D = some (.lst (made f i)), ⟨n, by simp, Nat.zero_le _, same_upd hD, by rw [upd_same]; rfl⟩, ?_⟩
  rintro i m H ⟨rfl, hi, q, hd'⟩
  by_cases hlt : i < n
  · refine .inr ⟨O.go i H q hlt, fun H => Same H1 H ∧ H D = some (.lst (made f (i + 1))), fun H' p' => ⟨n - (i + 1), by omega, rfl, hlt, p'⟩, fun x H' y => ?_⟩
    obtain ⟨s, r⟩ := O.yld i H x H' q hlt y
    refine hs i x H' (fun o H4 => match o with | some y => ∃ acc, H4 D = some (.lst acc) ∧ acc.length < sizeLine ∧ (Same H1 (upd H4 D (.lst (acc ++ [y]))) ∧ (upd H4 D (.lst (acc ++ [y]))) D = some (.lst (made f (i + 1)))) | none => Same H1 H4 ∧ H4 D = some (.lst (made f (i + 1)))) hlt (q.trans s) r fun H4 s4 => ?_
    have e4 : H4 D = some (.lst (made f i)) := s4 _ _ (s _ _ hd')
    cases hf : f i with
    | some y => exact ⟨_, e4, Nat.lt_of_le_of_lt (made_len f i) (Nat.lt_of_lt_of_le hlt hn), same_put hD ((q.trans s).trans s4), by rw [upd_same, made_succ, hf]; rfl⟩
    | none => exact ⟨(q.trans s).trans s4, by rw [e4, made_succ, hf]; simp⟩
  · have e : i = n := by omega
    subst e
    exact .inl ⟨O.stop H q, hd H q hd'⟩
theorem made_map (f : Nat → V) (n : Nat) : made (fun i => some (f i)) n = (List.range n).map f := by
  unfold made
  rw [← List.filterMap_eq_map]
  rfl
/-- no test: an item a turn -/
theorem lc_all {J : It} {n : Nat} {R : Nat → V → Hp → Prop} {H1 : Hp} {g : TG} {te : TE} {vs : List Nat} {σ : L2.St} {D : Addr} {Qd : Hp → Prop} (O : Over J n R H1) (f : Nat → V) (hD : H1 D = none) (hn : n ≤ sizeLine)
    (hs : ∀ i x H' (Nx : V → Hp → Prop), i < n → Same H1 H' → R i x H' → (∀ H4, Same H' H4 → Nx (f i) H4) → g x (wipe σ vs) H' fun σ2 H2 => wipe σ2 vs = wipe σ vs ∧ te σ2 H2 fun y H4 => Nx y H4) (hd : ∀ H, Same H1 H → H D = some (.lst ((List.range n).map f)) → Qd H) :
    ∃ W : Nat → Nat → Hp → Prop, (∃ m, W 0 m (upd H1 D (.lst []))) ∧ ∀ i m H, W i m H →
      (J.stop i H ∧ Qd H) ∨ (J.go i H ∧ ∃ Nx : Hp → Prop, (∀ H', Nx H' → ∃ m', m' < m ∧ W (i + 1) m' H') ∧ ∀ x H', J.yld i H x H' → g x (wipe σ vs) H' fun σ2 H2 => wipe σ2 vs = wipe σ vs ∧ tYes σ2 H2 fun b H3 =>
        if b = true then te σ2 H3 fun y H4 => ∃ acc, H4 D = some (.lst acc) ∧ acc.length < sizeLine ∧ Nx (upd H4 D (.lst (acc ++ [y]))) else Nx H3) := by
  refine lc_gen O (fun i => some (f i)) hD hn (fun i x H' Nx hi sH r kN => ?_) fun H s h => hd H s (by rw [h, made_map])
  exact hs i x H' (fun y H4 => Nx (some y) H4) hi sH r kN
end Ow

end OwLoop
section OwDc
set_option linter.all false
set_option maxRecDepth 100000
set_option maxHeartbeats 4000000
/-! name = {k: v for ..} on one line. -/
namespace Ow
open PySem PySem.Spec PyProof.Rows L2
section
variable {X : Cx}
theorem put_dc {i : Nat} {y : Str} {py : Pos} {kx vx tg iter : Expr} {scope : Scope} {own : List (Str × Nat)} {pos spos : Pos} {wi : TI} {g : TG} {tk tv : TE} (hc : X.calm = true) (hN : X.N.Nodup) (hy : X.N[i]? = some y) (hyl : X.env.scope.names.lookup y = some .local)
    (hsw : swapsWith (.DictComp kx vx [⟨tg, iter, [], 0⟩] scope pos) (some (.Name y py)) spos.line X.env = pure true) (hi : PI X tg iter wi) (ok : BlkOk X.N X.env.scope scope own)
    (hg : ∀ (s : Shared) (H : Hp) (C : Addr) (cl : List (Str × Addr)) (fp : List Addr), PG (X.blk s H scope (compEnvC scope cl C X.env) fp) tg g)
    (hk : ∀ (s : Shared) (H : Hp) (C : Addr) (cl : List (Str × Addr)) (fp : List Addr), PE (X.blk s H scope (compEnvC scope cl C X.env) fp) kx tk)
    (he : ∀ (s : Shared) (H : Hp) (C : Addr) (cl : List (Str × Addr)) (fp : List Addr), PE (X.blk s H scope (compEnvC scope cl C X.env) fp) vx tv) (hs : ∀ x, foldedSetIterable iter X.env x = pure x := by intro _; rfl) :
    PS X (.Assign [.Name y py] (.DictComp kx vx [⟨tg, iter, [], 0⟩] scope pos) spos) (tAsg (tDc wi g tYes tk tv (own.map (·.2))) (gName i)) := by
  refine ⟨fun pins s σ H D I h => ?_⟩
  rw [exec_Assign_Name_used _ _ _ _ hsw]
  refine wpAny_bind (wpAny_standAt (wpAny_bind ?_))
  show wpAny _ X.A (do let _ ← comprehension (.DictComp kx vx [⟨tg, iter, [], 0⟩] scope pos) scope X.env (firstIterPos [⟨tg, iter, [], 0⟩] pos) newDict false (eval iter X.env) (some (assign (.Name y py) X.env))) _ _ s
  have h2 : tDc wi g tYes tk tv (own.map (·.2)) σ H (fun x H1 => gName i x σ H1 D.nx) := h
  refine wpAny_bind (thn (dc_core (Qf := fun _ s' => SP X pins D .next s') hc hN I hi ok hg (fun _ _ _ _ _ => pts_nil) hk he hs h2 fun L C s' m H' I' q hn f => ?_) fun _ s' hq => wpAny_pure (wpAny_pure hq))
  show wpAny _ _ (assign (.Name y py) X.env (.ref L)) _ _ _
  refine wpAny_assign_Name (store_ok2 (v := V.ref L) I' hN hy (.inl hyl) rfl (fun s2 I2 ⟨a, sb, ha⟩ => ?_) (.inr hyl))
  obtain ⟨f0, f1, f2, f3, f4, f5⟩ := f
  have far : C ≠ a := by
    rcases ha with z | z
    · rw [z]; exact f1
    · exact fun e => f4 y a z e.symm
  exact ⟨m, hn.sameBut sb far, fun h3 sb3 => ⟨_, H', I2.turned (t' := s2.toks) (fun b o hb e => (sb3.2 b hb).trans e) f0 f1 f3 f4 f5, q⟩⟩
theorem dc_swaps {kx vx : Expr} {gs : List Comprehension} {scope : Scope} {pos py : Pos} {y : Str} {l : Nat} {env : Env} (hk : env.scope.kind = .function) (hy : env.scope.names.lookup y = some .local) (hl : (py.line == pos.line) = true)
    (ha : (scope.names.any fun (n, k) => n == y && (k == .local || k == .cell)) = false) : swapsWith (.DictComp kx vx gs scope pos) (some (.Name y py)) l env = pure true := by
  have ky : env.kindOf y = some .local := hy
  have hb : env.blockKind = .function := by unfold Env.blockKind; rw [hk]; rfl
  unfold swapsWith
  simp only [hb, ky, ha, Expr.pos, hl]
  rfl
end
/-- a turn a pair, over any walked thing -/
theorem dc_all {J : It} {n : Nat} {R : Nat → V → Hp → Prop} {H1 : Hp} {g : TG} {tk tv : TE} {vs : List Nat} {σ : L2.St} {D : Addr} {Qd : Hp → Prop} (O : Over J n R H1) (Pv : Nat → List (Key × V) → Prop) (hD : H1 D = none) (h0 : Pv 0 []) (hn : ∀ i kvs, Pv i kvs → kvs.length < sizeLine)
    (hs : ∀ i x H' kvs (Nx : V → V → Hp → Prop), i < n → Same H1 H' → R i x H' → Pv i kvs → (∀ k v H4, Same H' H4 → Pv (i + 1) (putK kvs k v) → Nx (kV k) v H4) → g x (wipe σ vs) H' fun σ2 H2 => wipe σ2 vs = wipe σ vs ∧ tk σ2 H2 fun y H4 => tv σ2 H4 fun z H5 => Nx y z H5) (hd : ∀ H kvs, Same H1 H → H D = some (.dK kvs) → Pv n kvs → Qd H) :
    ∃ W : Nat → Nat → Hp → Prop, (∃ m, W 0 m (upd H1 D (.dK []))) ∧ ∀ i m H, W i m H →
      (J.stop i H ∧ Qd H) ∨ (J.go i H ∧ ∃ Nx : Hp → Prop, (∀ H', Nx H' → ∃ m', m' < m ∧ W (i + 1) m' H') ∧ ∀ x H', J.yld i H x H' → g x (wipe σ vs) H' fun σ2 H2 => wipe σ2 vs = wipe σ vs ∧ tYes σ2 H2 fun b H3 =>
        if b = true then tk σ2 H3 fun y H4 => tv σ2 H4 fun z H5 => ∃ kvs k, y = kV k ∧ H5 D = some (.dK kvs) ∧ kvs.length < sizeLine ∧ Nx (upd H5 D (.dK (putK kvs k z))) else Nx H3) := by
  refine ⟨fun i m H => m = n - i ∧ i ≤ n ∧ Same H1 H ∧ ∃ kvs, H D = some (.dK kvs) ∧ Pv i kvs, ⟨n, by simp, Nat.zero_le _, same_upd hD, [], upd_same, h0⟩, ?_⟩
  rintro i m H ⟨rfl, hi, q, kvs, hd', p⟩
  by_cases hlt : i < n
  · refine .inr ⟨O.go i H q hlt, fun H => Same H1 H ∧ ∃ kvs, H D = some (.dK kvs) ∧ Pv (i + 1) kvs, fun H' p' => ⟨n - (i + 1), by omega, rfl, hlt, p'⟩, fun x H' y => ?_⟩
    obtain ⟨s, r⟩ := O.yld i H x H' q hlt y
    refine hs i x H' kvs (fun y z H5 => ∃ kvs k, y = kV k ∧ H5 D = some (.dK kvs) ∧ kvs.length < sizeLine ∧ (Same H1 (upd H5 D (.dK (putK kvs k z))) ∧ ∃ kvs', (upd H5 D (.dK (putK kvs k z))) D = some (.dK kvs') ∧ Pv (i + 1) kvs')) hlt (q.trans s) r p fun k v H4 s4 p4 => ?_
    exact ⟨kvs, k, rfl, s4 _ _ (s _ _ hd'), hn i kvs p, same_put hD ((q.trans s).trans s4), _, upd_same, p4⟩
  · have e : i = n := by omega
    subst e
    exact .inl ⟨O.stop H q, hd H kvs q hd' p⟩
end Ow

end OwDc
section OwCo
set_option linter.all false
set_option maxRecDepth 100000
set_option maxHeartbeats 8000000
namespace Ow
open PySem PySem.Spec PyProof.Rows L2
def PairsAt (H : Hp) (pt : Addr) (ps : List (Nat × Nat)) : Prop := ∃ ls : List Addr, H pt = some (.tup (ls.map V.ref)) ∧ ls.length = ps.length ∧ ∀ (i : Nat) (t : Addr) (p : Nat × Nat), ls[i]? = some t → ps[i]? = some p → H t = some (.tup [.int (p.1 : Nat), .int (p.2 : Nat)])
def CoAt (H : Hp) (a : Addr) (n : Nat) (ps : List (Nat × Nat)) : Prop := ∃ pt, H a = some (.tup [.int (n : Nat), .ref pt]) ∧ PairsAt H pt ps
structure Good (n : Nat) (ps : List (Nat × Nat)) : Prop where
  one : 1 ≤ n
  most : n ≤ 7
  few : ps.length ≤ 21
  ok : ∀ p ∈ ps, p.1 < p.2 ∧ p.2 < n
  asc : ps.Pairwise fun p q => p.1 < q.1 ∨ (p.1 = q.1 ∧ p.2 < q.2)
theorem PairsAt.same {H H' : Hp} {pt : Addr} {ps : List (Nat × Nat)} (e : Same H H') (h : PairsAt H pt ps) : PairsAt H' pt ps := by
  obtain ⟨ls, h1, h2, h3⟩ := h
  exact ⟨ls, e _ _ h1, h2, fun i t p a b => e _ _ (h3 i t p a b)⟩
theorem CoAt.same {H H' : Hp} {a : Addr} {n : Nat} {ps : List (Nat × Nat)} (e : Same H H') (h : CoAt H a n ps) : CoAt H' a n ps := by
  obtain ⟨pt, h1, h2⟩ := h
  exact ⟨pt, e _ _ h1, h2.same e⟩
theorem ToldAt.same {H H' : Hp} {d : Addr} {F : Nat → Nat → Bool} {L : List Nat} (e : Same H H') (h : ToldAt H d F L) : ToldAt H' d F L := by
  obtain ⟨kvs, h1, h2⟩ := h
  exact ⟨kvs, e _ _ h1, h2⟩
def letters (n : Nat) : List Nat := (List.range n).map (97 + ·)
theorem mem_letters {n c : Nat} : c ∈ letters n ↔ 97 ≤ c ∧ c < 97 + n := by
  unfold letters
  rw [List.mem_map]
  constructor
  · rintro ⟨i, hi, rfl⟩
    have := List.mem_range.mp hi
    omega
  · intro h
    exact ⟨c - 97, List.mem_range.mpr (by omega), by omega⟩
theorem letters_len (n : Nat) : (letters n).length = n := by simp [letters]
theorem letters_get {n i : Nat} (h : i < n) : (letters n)[i]? = some (97 + i) := by simp [letters, h]
theorem letters_take {n k : Nat} (h : k ≤ n) : (letters n).take k = letters k := by
  unfold letters
  rw [← List.map_take, List.take_range, Nat.min_eq_left h]
def FF (ps : List (Nat × Nat)) (x y : Nat) : Bool := ps.any fun p => (x == 97 + p.1 && y == 97 + p.2) || (y == 97 + p.1 && x == 97 + p.2)
theorem FF_comm (ps : List (Nat × Nat)) (x y : Nat) : FF ps x y = FF ps y x := by
  unfold FF
  congr 1
  funext p
  rw [Bool.or_comm]
theorem abc : ("abcdefg" : Str) = S (letters 7) := by decide +kernel
theorem abc_cut {n : Nat} (h : n ≤ 7) : cutS ("abcdefg" : Str) none (some (n : Int)) = S (letters n) := by rw [abc, cut_ahead, letters_take h]
theorem abc_at {i : Nat} (h : i < 7) : atI ("abcdefg" : Str).cps.toList ((i : Nat) : Int) = some (97 + i) := by
  rw [abc, S_list]
  exact atI_nat (letters_get h)
theorem abc_len : ("abcdefg" : Str).length ≤ sizeLine := by decide +kernel
theorem small {l : List Nat} {k : Nat} (h : l.length ≤ k) (hk : k ≤ sizeLine) : (S l).length ≤ sizeLine := by
  rw [S_len]
  exact Nat.le_trans h hk
theorem map_true (n : Nat) : (List.range n).map (fun _ => V.bl true) = (List.replicate n true).map V.bl := by
  rw [List.map_const', List.map_replicate, List.length_range]
theorem all_true (n : Nat) : (List.replicate n true).all id = true := by simp
section
variable {P : Program} {w : World} {K : PySem.W.Frag} {mg : Str → Option Value} {base : Heap}
theorem scIsSet : FnScope ["company", "value", "sign", "at"] ["company", "value"] (defScope sIsSet) := ⟨rfl, rfl, rfl, by decide +kernel, rfl, by decide +kernel, by decide +kernel⟩
def spIsSet : Sp := fun vs H Q _ => ∃ (a : Addr) (n : Nat) (ps : List (Nat × Nat)) (l : List Nat), vs = [.ref a, .str (S l)] ∧ CoAt H a n ps ∧ n ≤ 7 ∧ l.length ≤ n ∧ (∀ c ∈ l, c ∈ letters n) ∧ l.Pairwise (· < ·) ∧ ∀ H', Same H H' → Q (.bl true) H'
theorem ok_isSet {f : Addr} {fd : FuncData} (F : Fun K "is_set" "is_set" sIsSet f fd) {ta : Tok} (mI : mg "isinstance" = none) (mS : mg "str" = none) (mL : mg "len" = none) (mA : mg "all" = none) (mR : mg "range" = none) (mZ : mg "ALPHABET" = some (.str "abcdefg" ta)) : FnOk P w K mg base CX0 1 f fd ["company", "value"] spIsSet := by
  refine F.ok scIsSet (fun vs H Q E h => ?_) (fun cdv A outer s H vs Q E hr h => ?_)
  · obtain ⟨a, n, ps, l, rfl, _⟩ := h
    rfl
  · obtain ⟨a, n, ps, l, rfl, hC, hn, hl, hm, hp, k⟩ := h
    refine ⟨_, pss_cons (ps_if (PW.pt (pw_or (pt_not (pt_val (pe_callB call_isi rfl mI (by decide +kernel) (pa_cons (pv 1) (pa_cons (pe_ty "str" rfl mS (by decide +kernel)) pa_nil)))))
        (pw_or1 (pt_cmpR op_gt (pe_callB call_len_str rfl mL PySem.boot_len (pa_cons (pv 1) pa_nil)) (pe_ix ix_tup (pv 0) pe_int (fun _ _ => rfl)) (nomark _))))) (pss_one (ps_ret pe_bl)) pss_nil)
      (pss_cons (ps_if (pt_not (pt_val (pe_callB (cr_all rfl) rfl mA (by decide +kernel) (pa_cons (pe_lc (own := [("sign", 2)]) (g := gName 2) (tt := tYes) rfl scIsSet.nd (pi_str (pv 1)) (blkOk_by (N := ["company", "value", "sign", "at"]) (sc := defScope sIsSet) (by decide +kernel)) (fun _ _ _ _ _ => pg_name (i := 2) scIsSet.nd rfl (Or.inl rfl)) (fun _ _ _ _ _ => pts_nil)
          (fun _ _ _ _ _ => pe_cmpR op_in_sign (pv 2) (pe_slice sl_str (pe_glob (v := .str "abcdefg") rfl mZ ⟨_, rfl⟩) po_none (po_some (pe_ix (r := rIxT K) ix_tup (pv 0) pe_int (fun _ _ => rfl)))) rfl)) pa_nil)))) (pss_one (ps_ret pe_bl)) pss_nil)
      (pss_one (ps_ret (pe_callB (cr_all rfl) rfl mA (by decide +kernel) (pa_cons (pe_lc (own := [("at", 3)]) (g := gName 3) (tt := tYes) rfl scIsSet.nd (pi_range1 rfl mR (pa_cons (pe_op op_sub (pe_callB call_len_str rfl mL PySem.boot_len (pa_cons (pv 1) pa_nil)) pe_int) pa_nil)) (blkOk_by (N := ["company", "value", "sign", "at"]) (sc := defScope sIsSet) (by decide +kernel)) (fun _ _ _ _ _ => pg_name (i := 3) scIsSet.nd rfl (Or.inl rfl)) (fun _ _ _ _ _ => pts_nil)
          (fun _ _ _ _ _ => pe_cmpR op_lt_str (pe_ix ix_str (pv 1) (pv 3) (fun _ _ => rfl)) (pe_ix ix_str (pv 1) (pe_op op_add (pv 3) pe_int) (fun _ _ => rfl)) (nomark _))) pa_nil))))), ?_⟩
    obtain ⟨pt, ha, hP⟩ := id hC
    refine ⟨_, rfl, _, _, _, _, _, rfl, .ty "str", .base (.str _), kit_ty (r := true) (by decide +kernel), _, rfl, ?_⟩
    refine iteF ?_
    refine ⟨_, rfl, _, rfl, small hl (Nat.le_trans hn (by decide)), _, rfl, _, _, _, _, rfl, rfl, SqT.of ha, atI_nat (j := 0) rfl, _, _, rfl, rfl, _, rfl, ?_⟩
    rw [decide_eq_false (by rw [S_len]; omega)]
    refine iteF ?_
    refine ⟨_, rfl, _, rfl, fun D nD => lc_all (over_str l H) (fun _ => .bl true) nD (Nat.le_trans hl (Nat.le_trans hn (by decide))) ?_ ?_⟩
    · rintro i x H' Nx hi sH ⟨c, hc, rfl⟩ kN
      refine ⟨rfl, ?_⟩
      refine ⟨_, rfl, _, rfl, _, _, _, _, rfl, rfl, SqT.of (sH _ _ ha), atI_nat (j := 0) rfl, ?_⟩
      refine ⟨_, rfl, _, rfl, abc_len, _, _, rfl, rfl, ?_⟩
      rw [abc_cut hn, S_list, decide_eq_true (hm c (List.mem_of_getElem? hc))]
      exact kN _ (Same.refl _)
    · intro H2 s2 hD
      rw [map_true] at hD
      refine ⟨_, _, rfl, SqL.of hD, _, rfl, ?_⟩
      rw [all_true]
      refine iteF ?_
      have en : (((S l).length : Int) - 1).toNat = l.length - 1 := by rw [S_len]; omega
      refine ⟨_, rfl, _, rfl, small hl (Nat.le_trans hn (by decide)), _, _, rfl, rfl, _, rfl, by rw [S_len]; omega, by rw [S_len]; omega, fun D2 nD2 => ?_⟩
      rw [en]
      refine lc_all over_range (fun _ => .bl true) nD2 (Nat.le_trans (Nat.sub_le _ _) (Nat.le_trans hl (Nat.le_trans hn (by decide)))) ?_ ?_
      · rintro i x H' Nx hi sH rfl kN
        have h1 : l[i]? = some l[i] := List.getElem?_eq_getElem (by omega)
        have h2 : l[i + 1]? = some l[i + 1] := List.getElem?_eq_getElem (by omega)
        refine ⟨rfl, ?_⟩
        refine ⟨_, rfl, _, rfl, _, _, _, rfl, rfl, small hl (Nat.le_trans hn (by decide)), (by rw [S_list, Int.zero_add]; exact atI_nat h1), _, rfl, _, rfl, _, _, rfl, rfl, _, _, _, rfl, rfl, small hl (Nat.le_trans hn (by decide)), (by rw [S_list, Int.zero_add]; exact atI_nat h2), ?_⟩
        refine ⟨_, _, rfl, rfl, ?_⟩
        have hlt : l[i] < l[i + 1] := List.pairwise_iff_getElem.mp hp i (i + 1) _ _ (Nat.lt_succ_self i)
        rw [decide_eq_true (by show [l[i]] < [l[i + 1]]; exact List.cons_lt_cons_iff.mpr (.inl hlt))]
        exact kN _ (Same.refl _)
      · intro H3 s3 hD3
        rw [map_true] at hD3
        refine ⟨_, _, rfl, SqL.of hD3, ?_⟩
        rw [all_true]
        exact k _ (s2.trans s3)
theorem scFriends : FnScope ["company", "found", "one", "other", "sign"] ["company"] (defScope sFriends) := ⟨rfl, rfl, rfl, by decide +kernel, rfl, by decide +kernel, by decide +kernel⟩
def spFriends : Sp := fun vs H Q _ => ∃ (a : Addr) (n : Nat) (ps : List (Nat × Nat)), vs = [.ref a] ∧ CoAt H a n ps ∧ Good n ps ∧ ∀ H' d, Same H H' → H d = none → ToldAt H' d (FF ps) (letters n) → Q (.ref d) H'
/-- told so far -/
def TelAt (H : Hp) (d : Addr) (ps : List (Nat × Nat)) (n m : Nat) : Prop := ∃ kvs, H d = some (.dK kvs) ∧ kvs.length ≤ n ∧ ∀ x ∈ letters n, ∃ fl : List Nat, valV kvs (Sum.inr (S [x])) = some (.str (S fl)) ∧ fl.length ≤ m ∧ ∀ y, y ∈ fl ↔ FF ps x y = true
theorem dget_of {H : Hp} {a : Addr} {kvs : List (Key × V)} {k : Key} {v : V} (e : H a = some (.dK kvs)) (h : valV kvs k = some v) : DGet H a (kV k) (some v) := h ▸ DGet.k e
theorem putK_le (kvs : List (Key × V)) (k : Key) (v : V) : (putK kvs k v).length ≤ kvs.length + 1 := by
  unfold putK
  split <;> simp
theorem putK_same {kvs : List (Key × V)} {k : Key} (v : V) (h : (valV kvs k).isSome = true) : (putK kvs k v).length = kvs.length := by
  unfold putK
  rw [valV_any, if_pos h, List.length_map]
theorem one_ne {x y : Nat} (h : x ≠ y) : ¬ (Sum.inr (S [x]) : Key) = Sum.inr (S [y]) := fun e => h (by
  injection e with e
  have := S_inj e
  simpa using this)
theorem FF_snoc (ps : List (Nat × Nat)) (p : Nat × Nat) (x y : Nat) : FF (ps ++ [p]) x y = true ↔ FF ps x y = true ∨ (x = 97 + p.1 ∧ y = 97 + p.2) ∨ (y = 97 + p.1 ∧ x = 97 + p.2) := by
  unfold FF
  simp [List.any_append]
/-- one friend more -/
theorem tel_one {kvs : List (Key × V)} {n m u v : Nat} {G : Nat → Nat → Prop} (hl : kvs.length ≤ n) (hu : u ∈ letters n) (h : ∀ x ∈ letters n, ∃ fl : List Nat, valV kvs (Sum.inr (S [x])) = some (.str (S fl)) ∧ fl.length ≤ m ∧ ∀ y, y ∈ fl ↔ G x y) :
    ∃ fl : List Nat, valV kvs (Sum.inr (S [u])) = some (.str (S fl)) ∧ fl.length ≤ m ∧ (putK kvs (Sum.inr (S [u])) (.str (S (fl ++ [v])))).length ≤ n ∧
      ∀ x ∈ letters n, ∃ gl : List Nat, valV (putK kvs (Sum.inr (S [u])) (.str (S (fl ++ [v])))) (Sum.inr (S [x])) = some (.str (S gl)) ∧ gl.length ≤ m + 1 ∧ ∀ y, y ∈ gl ↔ G x y ∨ (x = u ∧ y = v) := by
  obtain ⟨fl, h1, h2, h3⟩ := h u hu
  refine ⟨fl, h1, h2, by rw [putK_same _ (by rw [h1]; rfl)]; exact hl, fun x hx => ?_⟩
  by_cases e : x = u
  · subst e
    refine ⟨fl ++ [v], by rw [valV_put, if_pos rfl], by simp; exact h2, fun y => ?_⟩
    rw [List.mem_append, List.mem_singleton, h3 y]
    simp
  · obtain ⟨gl, g1, g2, g3⟩ := h x hx
    refine ⟨gl, by rw [valV_put, if_neg (one_ne e)]; exact g1, Nat.le_succ_of_le g2, fun y => ?_⟩
    rw [g3 y]
    simp [e]
theorem ok_friends {f : Addr} {fd : FuncData} (F : Fun K "friends_of_all" "friends_of_all" sFriends f fd) {ta : Tok} (mZ : mg "ALPHABET" = some (.str "abcdefg" ta)) : FnOk P w K mg base CX0 1 f fd ["company"] spFriends := by
  refine F.ok scFriends (fun vs H Q E h => ?_) (fun cdv A outer s H vs Q E hr h => ?_)
  · obtain ⟨a, n, ps, rfl, _⟩ := h
    rfl
  · obtain ⟨a, n, ps, rfl, hC, hG, k⟩ := h
    have hu := hu_of hr
    have nd := scFriends.nd
    refine ⟨_, pss_cons (put_dc (i := 1) (own := [("sign", 4)]) (g := gName 4) rfl nd rfl rfl (dc_swaps rfl rfl rfl (by decide +kernel)) (pi_str (pe_slice sl_str (pe_glob (v := .str "abcdefg") rfl mZ ⟨_, rfl⟩) po_none (po_some (pe_ix ix_tup (pv 0) pe_int (fun _ _ => rfl))))) (blkOk_by (N := ["company", "found", "one", "other", "sign"]) (sc := defScope sFriends) (by decide +kernel)) (fun _ _ _ _ _ => pg_name (i := 4) nd rfl (Or.inl rfl)) (fun _ _ _ _ _ => pv 4) (fun _ _ _ _ _ => pe_str))
      (pss_cons (ps_for PassesOwn.never rfl (pi_tup (pe_ix ix_tup (pv 0) pe_int (fun _ _ => rfl))) (pg_tup rfl (pgs_cons (pg_name (i := 2) nd rfl (.inl rfl)) (pgs_cons (pg_name (i := 3) nd rfl (.inl rfl)) pgs_nil)))
        (pss_cons (ps_dput hu (pv 1) (pe_ix ix_str (pe_glob (v := .str "abcdefg") rfl mZ ⟨_, rfl⟩) (pv 2) (fun _ _ => rfl)) (pe_op op_add_str (pe_dget hu (pv 1) (pe_ix ix_str (pe_glob (v := .str "abcdefg") rfl mZ ⟨_, rfl⟩) (pv 2) (fun _ _ => rfl)) (fun _ _ => rfl)) (pe_ix ix_str (pe_glob (v := .str "abcdefg") rfl mZ ⟨_, rfl⟩) (pv 3) (fun _ _ => rfl))) rfl)
        (pss_one (ps_dput hu (pv 1) (pe_ix ix_str (pe_glob (v := .str "abcdefg") rfl mZ ⟨_, rfl⟩) (pv 3) (fun _ _ => rfl)) (pe_op op_add_str (pe_dget hu (pv 1) (pe_ix ix_str (pe_glob (v := .str "abcdefg") rfl mZ ⟨_, rfl⟩) (pv 3) (fun _ _ => rfl)) (fun _ _ => rfl)) (pe_ix ix_str (pe_glob (v := .str "abcdefg") rfl mZ ⟨_, rfl⟩) (pv 2) (fun _ _ => rfl))) rfl))))
      (pss_one (ps_ret (pv 1)))), ?_⟩
    obtain ⟨pt, ha, ls, hpt, hll, hit⟩ := id hC
    refine ⟨_, rfl, _, _, _, _, rfl, rfl, SqT.of ha, atI_nat (j := 0) rfl, ?_⟩
    refine ⟨_, rfl, _, rfl, abc_len, S (letters n), by rw [abc_cut hG.most], fun D nD => ?_⟩
    refine dc_all (over_str (letters n) H) (fun i kvs => i ≤ n ∧ kvs.length ≤ i ∧ ∀ x ∈ (letters n).take i, valV kvs (Sum.inr (S [x])) = some (.str (S []))) nD ⟨Nat.zero_le _, Nat.le_refl _, fun x hx => by simp at hx⟩ (fun i kvs h => Nat.lt_of_le_of_lt (Nat.le_trans h.2.1 (Nat.le_trans h.1 hG.most)) (by decide)) ?_ ?_
    · rintro i x H' kvs Nx hi sH ⟨c, hc, rfl⟩ ⟨p1, p2, p3⟩ kN
      refine ⟨rfl, _, rfl, ?_⟩
      rw [letters_len] at hi
      refine kN (Sum.inr (S [c])) _ _ (Same.refl _) ⟨hi, Nat.le_trans (putK_le _ _ _) (Nat.succ_le_succ p2), fun x hx => ?_⟩
      rw [valV_put]
      by_cases e : x = c
      · rw [e, if_pos rfl]
        exact congrArg (fun z => some (V.str z)) S_nil
      · rw [if_neg (one_ne e)]
        refine p3 x ?_
        rw [List.take_add_one, hc] at hx
        simpa [e] using hx
    · intro H1 kvs s1 hD hP
      obtain ⟨p1, p2, p3⟩ := hP
      rw [letters_len] at p1 p2
      have t0 : TelAt H1 D (ps.take 0) n 0 := ⟨kvs, hD, p2, fun x hx => ⟨[], p3 x (by rw [List.take_length]; exact hx), Nat.le_refl _, fun y => by simp [FF]⟩⟩
      refine ⟨_, rfl, _, _, _, _, rfl, rfl, SqT.of (s1 _ _ ha), atI_nat (j := 1) rfl, pt, rfl, ⟨_, SqT.of (s1 _ _ hpt)⟩, ?_⟩
      refine for_gen (over_tup hpt) (fun i σ H2 => ∃ v2 v3, σ = [some (.ref a), some (.ref D), v2, v3, none] ∧ Same H H2 ∧ TelAt H2 D (ps.take i) n (2 * i)) ⟨none, none, rfl, s1, t0⟩ (fun i σ H2 ⟨_, _, _, h, _⟩ => h) ?_ ?_
      · rintro i x σ H2 H3 hi ⟨v2, v3, rfl, s2, kvs2, d2, l2, T2⟩ s3 hx
        rw [List.length_map] at hi
        have ip : i < ps.length := by omega
        have ht : ls[i]? = some ls[i] := List.getElem?_eq_getElem hi
        have hp : ps[i]? = some ps[i] := List.getElem?_eq_getElem ip
        rw [List.getElem?_map, ht] at hx
        cases hx
        have hT := hit i _ _ ht hp
        obtain ⟨o1, o2⟩ := hG.ok _ (List.getElem_mem ip)
        have h7 := hG.most
        have few := hG.few
        generalize ps[i] = p at hp hT o1 o2
        have u1 : 97 + p.1 ∈ letters n := mem_letters.mpr (by omega)
        have u2 : 97 + p.2 ∈ letters n := mem_letters.mpr (by omega)
        obtain ⟨fl1, e1, z1, l3, T3⟩ := tel_one (v := 97 + p.2) l2 u1 T2
        obtain ⟨fl2, e2, z2, l4, T4⟩ := tel_one (v := 97 + p.1) l3 u2 T3
        have a1 := abc_at (i := p.1) (by omega)
        have a2 := abc_at (i := p.2) (by omega)
        have sm : ∀ (fl : List Nat) (q : Nat), fl.length ≤ 2 * i + 1 → (S fl).length + (⟨#[q]⟩ : Str).length ≤ sizeLine := fun fl q h => by
          rw [S_len]
          refine Nat.le_trans (Nat.add_le_add (Nat.le_trans h (by omega : _ ≤ 100)) (Nat.le_refl 1)) (by decide)
        refine ⟨_, _, rfl, SqT.of (s3 _ _ (s2 _ _ hT)), rfl, ?_⟩
        refine ⟨_, _, rfl, ?_⟩
        refine ⟨_, _, rfl, ?_⟩
        refine ⟨rfl, ?_⟩
        refine ⟨_, rfl, _, rfl, _, _, _, rfl, rfl, abc_len, a1, _, _, rfl, dget_of (k := Sum.inr (S [97 + p.1])) (s3 _ _ d2) e1, ?_⟩
        refine ⟨_, rfl, _, _, _, rfl, rfl, abc_len, a2, _, _, rfl, rfl, sm fl1 _ (by omega), ?_⟩
        refine ⟨_, rfl, _, rfl, _, _, _, rfl, rfl, abc_len, a1, _, _, rfl, DPut.k (k := Sum.inr (S [97 + p.1])) (s3 _ _ d2) (Nat.lt_of_le_of_lt (Nat.le_trans l2 h7) (by decide)), ?_⟩
        rw [S_one, S_app]
        refine ⟨_, rfl, _, rfl, _, _, _, rfl, rfl, abc_len, a2, _, _, rfl, dget_of (k := Sum.inr (S [97 + p.2])) upd_same e2, ?_⟩
        refine ⟨_, rfl, _, _, _, rfl, rfl, abc_len, a1, _, _, rfl, rfl, sm fl2 _ (by omega), ?_⟩
        refine ⟨_, rfl, _, rfl, _, _, _, rfl, rfl, abc_len, a2, _, _, rfl, DPut.k (k := Sum.inr (S [97 + p.2])) upd_same (Nat.lt_of_le_of_lt (Nat.le_trans l3 h7) (by decide)), ?_⟩
        rw [S_one, S_app]
        refine ⟨_, _, rfl, same_put nD (same_put nD (s2.trans s3)), _, upd_same, l4, fun x hx => ?_⟩
        obtain ⟨gl, g1, g2, g3⟩ := T4 x hx
        refine ⟨gl, g1, by omega, fun y => ?_⟩
        rw [g3 y, List.take_add_one, hp, Option.toList_some, FF_snoc]
        constructor
        · rintro ((h | h) | ⟨h, h'⟩)
          · exact .inl h
          · exact .inr (.inl h)
          · exact .inr (.inr ⟨h', h⟩)
        · rintro (h | h | ⟨h, h'⟩)
          · exact .inl (.inl h)
          · exact .inl (.inr h)
          · exact .inr ⟨h', h⟩
      · rintro σ H2 ⟨v2, v3, rfl, s2, kvs2, d2, l2, T2⟩
        refine ⟨_, rfl, k _ _ s2 nD ⟨kvs2, d2, fun x hx => ?_⟩⟩
        obtain ⟨fl, g1, g2, g3⟩ := T2 x hx
        rw [List.length_map, hll, List.take_length] at g3
        exact ⟨fl, g1, g3⟩
end
end Ow

end OwCo
section OwEnum
set_option linter.all false
set_option maxRecDepth 100000
set_option maxHeartbeats 4000000
/-! enumerate over a tuple. -/
namespace Ow
open PySem PySem.Spec PyProof.Rows L2
open AutoSeq1 (wpAny_loadPart')
theorem enum_new_tup (l : Addr) (items : Array Value) (n : Nat) (dct : Option Addr) (sl : Array (Option Value)) :
    Meets (Builtin.«enumerate.__new__» ⟨[.type "enumerate", .ref l], []⟩) (fun _ R s => s.heap.get? l = some { cls := .type "tuple", dict := dct, data := .seq items n, slots := sl } ∧
      R (.ok (.ret (.ref (s.heap.push { cls := .type "tuple_iterator", data := .fields #[.ref l, .int 0 0] }).objs.size)))
        { s with heap := (s.heap.push { cls := .type "tuple_iterator", data := .fields #[.ref l, .int 0 0] }).push { cls := .type "enumerate", data := .fields #[.none, .bool false, .ref s.heap.objs.size, rawInt 0, .none, .none] } }) :=
  .of_wp fun prog w A R s h => by
    obtain ⟨hp, g, d, tk, os⟩ := s; obtain ⟨hl, h⟩ := h
    have hsub := sub_enumerate
    have hL : Heap.IsTuple (Shared.heap ⟨hp, g, d, tk, os⟩) l items := ⟨_, hl, rfl, n, rfl⟩
    wp_walk using wpAny_loadPart' hl
    refine wpAny_stack_any fun st => wpAny_pure ?_
    split
    · rename_i c _ _ _ _ _
      cases (c == Value.type "enumerate")
      · wp_walk using wpAny_loadPart' hl, wpAny_pyIter_tuple hL
        exact ⟨_, rfl, h⟩
      · wp_walk using wpAny_loadPart' hl, wpAny_pyIter_tuple hL
        exact ⟨_, rfl, h⟩
    · wp_walk using wpAny_loadPart' hl, wpAny_pyIter_tuple hL
      exact ⟨_, rfl, h⟩
section
variable {prog : Program} {w : World} {A : Around} {E : Value → Shared → Prop} {s : Shared}
theorem enum_tup {l : Addr} {items : Array Value} {Q : Value → Shared → Prop} (hL : s.heap.IsTuple l items)
    (h : ∀ h', IsEnum h' (s.heap.objs.size + 1) s.heap.objs.size 0 .none → h'.IsTupleIter s.heap.objs.size l 0 → h'.objs.size = s.heap.objs.size + 2 →
      (∀ b o, s.heap.get? b = some o → h'.get? b = some o) → Q (.ref (s.heap.objs.size + 1)) { s with heap := h' }) :
    wpAny (model prog w) A (call (.type "enumerate") [.ref l]) Q E s := by
  obtain ⟨⟨c, dct, dt, sl⟩, hl, hc, n, hd⟩ := hL
  replace hc : c = .type "tuple" := hc
  replace hd : dt = .seq items n := hd
  subst hc hd
  refine callType_new F.called_enumerate (by decide) (F.typeCall_enumerate_1 _) (F.newCall_enumerate_1 _) (fun obj => F.args_object_init_2 obj _) F.entry_enumerate_new
    (enum_new_tup l items n dct sl) ⟨hl, ?_⟩
  generalize ho1 : ({ cls := .type "tuple_iterator", data := .fields #[.ref l, .int 0 0] } : Obj) = o1
  generalize ho2 : ({ cls := .type "enumerate", data := .fields #[.none, .bool false, .ref s.heap.objs.size, rawInt 0, .none, .none] } : Obj) = o2
  have hz : (s.heap.push o1).objs.size = s.heap.objs.size + 1 := Heap.size_push ..
  have he : ((s.heap.push o1).push o2).get? (s.heap.objs.size + 1) = some o2 := by
    rw [← hz]
    exact Heap.get?_push_size _ (by rw [← ho2]; rfl)
  have he2 : IsEnum ((s.heap.push o1).push o2) (s.heap.objs.size + 1) s.heap.objs.size 0 .none := by rw [← ho2] at he ⊢; exact he
  show _ ∧ _
  rw [hz]
  refine ⟨⟨_, he2, rfl⟩, h _ he2 ⟨o1, Heap.get?_push_of_some _ (Heap.get?_push_size _ (by rw [← ho1]; rfl)), by rw [← ho1], by rw [← ho1]; rfl⟩ (by rw [Heap.size_push, hz]) fun b o x => Heap.get?_push_of_some _ (Heap.get?_push_of_some _ x)⟩
end
/-- a tuple's items, each in a new pair with its place -/
def Iet (K : PySem.W.Frag) (a : Addr) : It :=
  ⟨fun i H => ∃ (xs : List V) (x : V), SqT K H a xs ∧ xs[i]? = some x, fun i H v H' => ∃ T x, v = .ref T ∧ H T = none ∧ H' = upd H T (.tup [.int (i : Nat), x]) ∧ ∀ xs, SqT K H a xs → xs[i]? = some x, fun i H => ∃ xs : List V, SqT K H a xs ∧ i = xs.length⟩
theorem turn_et {P : Program} {w : World} {K : PySem.W.Frag} {elts : List Expr} {kk : Nat} {tpos : Pos} (a e it : Addr) :
    Turn P w K (.Tuple elts kk tpos) (Iet K a) [e, it] e (fun i h => (∃ old, IsEnum h e it ((i : Nat) : Int) old) ∧ h.IsTupleIter it a i ∧ e ≠ it ∧ a ≠ it) where
  mem := by simp
  obj := fun i h st b hb => by
    obtain ⟨⟨old, he⟩, ⟨o, ho, hc, hd⟩, _⟩ := st
    have e' : b = e ∨ b = it := by simpa using hb
    rcases e' with z | z
    · rw [z]; exact ⟨_, he, fun v q => nomatch q⟩
    · rw [z]; exact ⟨o, ho, fun v q => by rw [hd] at q; cases q⟩
  keep := fun i h h' st k => let ⟨⟨old, he⟩, hi, hne, hna⟩ := st; ⟨⟨old, k e (by simp) _ he⟩, hi.at fun o q => k it (by simp) o q, hne, hna⟩
  item := by
    intro X hP hw hK hc i pins s σ H E I hf st hg
    subst hP hw hK
    obtain ⟨⟨old, he⟩, hit, hne, hna⟩ := st
    obtain ⟨xs, x, hq, hx⟩ := hg
    obtain ⟨its, rv, p, hz⟩ := I.tuple hq
    have p : s.heap.IsTuple a its.toArray := p
    obtain ⟨u, hu, ru⟩ := rv.get hx
    have hel : e < s.heap.objs.size := Heap.lt_size he
    have hil : it < s.heap.objs.size := by obtain ⟨_, q, _⟩ := hit; exact Heap.lt_size q
    have hlt : i < its.toArray.size := by
      rw [List.size_toArray]
      exact (List.getElem?_eq_some_iff.mp hu).1
    have hea : e ≠ a := fun z => by
      obtain ⟨o, ho, hc, _⟩ := p
      rw [z] at he
      have he' : s.heap.get? a = some _ := he
      rw [ho] at he'
      cases he'
      exact absurd hc (by simp)
    refine wpAny_pyNext_enum_itemD (Draws.tuple (A := X.A.in1) (I.ok.hd hc) it a hna its.toArray) he ⟨hit, p⟩ hlt hne (by simp [hne, hea]) fun y h' tk hy ho st' hT hsz hk => ?_
    have ey : y = u := Option.some.inj (hy.symm.trans (by simpa using hu))
    subst ey
    refine ⟨_, rfl, wpAny_letOwnedTupleGo_enum (s := { s with heap := h', toks := tk + 1 }) ho fun h'' he' sb => ?_⟩
    have hT2 : h''.get? s.heap.objs.size = some { cls := .type "tuple", data := .seq #[.int i tk, y] } := (sb.2 _ (Nat.ne_of_gt hel)).trans hT
    have new : ObjOk X.prog X.w (upd H s.heap.objs.size (.tup [.int (i : Nat), x])) h'' s.heap.objs.size (.tup [.int (i : Nat), x]) :=
      ⟨by show 2 ≤ sizeLine; decide, [.int i tk, y], .cons ⟨_, rfl⟩ (.cons ru .nil), ⟨_, hT2, rfl, _, rfl⟩⟩
    have I1 : L2.Inv X pins σ (upd H s.heap.objs.size (.tup [.int (i : Nat), x])) { s with heap := h'', toks := tk + 1 } :=
      I.turnedNew (ch := [e, it]) (fun b ob hb q => (sb.2 b (fun z => hb (by simp [z]))).trans (hk b ob (fun z => hb (by simp [z])) (fun z => hb (by simp [z])) q)) hf (Nat.le_refl _) new
    refine ⟨.ref s.heap.objs.size, _, I1, rfl, ⟨_, x, rfl, I.hok.fresh (Nat.le_refl _), rfl, fun ys hq2 => by rw [I.tuple_inj hq2 hq]; exact hx⟩, ⟨⟨y, ?_⟩, st'.1.at fun o q => (sb.2 it (Ne.symm hne)).trans q, hne, hna⟩, fun b hb => ?_⟩
    · have e1 : ((i + 1 : Nat) : Int) = (i : Int) + 1 := by omega
      rw [e1]; exact he'
    · have hb' : b < s.heap.objs.size := by
        have e' : b = e ∨ b = it := by simpa using hb
        rcases e' with z | z
        · rw [z]; exact hel
        · rw [z]; exact hil
      rw [upd_ne (Nat.ne_of_lt hb')]
      exact (hf b hb).1
  done := by
    intro X hP hw hK hc i pins s σ H E I hf st hg
    subst hP hw hK
    obtain ⟨⟨old, he⟩, hit, hne, hna⟩ := st
    obtain ⟨xs, hq, hx⟩ := hg
    obtain ⟨its, rv, p, hz⟩ := I.tuple hq
    obtain ⟨f0, f1, f2, f3, f4, f5⟩ := hf it (by simp)
    have hl := rv.length
    have ei : i = its.toArray.size := by rw [List.size_toArray]; omega
    subst ei
    exact wpAny_pyNext_enum_endD (Draws.tuple (A := X.A.in1) (I.ok.hd hc) it a hna its.toArray) he ⟨hit, p⟩ fun h' eb => ⟨rfl, I.turned (t' := s.toks) (fun b o hb q => eb b o hb q) f0 f1 f3 f4 f5⟩
  self := fun A i s Q E st h => let ⟨⟨_, he⟩, _⟩ := st; wpAny_pyIter_enum he h
def iEt (K : PySem.W.Frag) (ta : TA) : TI := fun σ H R => ta σ H fun vs H1 => ∃ a xs, vs = [.ref a] ∧ SqT K H1 a xs ∧ R (Iet K a) H1
theorem pi_et {X : Cx} {e : Expr} {ta : TA} {p pos tpos : Pos} {elts : List Expr} {kk : Nat} (hg : Gl X "enumerate") (hm : X.mg "enumerate" = none) (ha : PA X [e] ta) (hs : starEach [e] X.env = [(false, eval e X.env)] := by rfl) :
    PI X (.Tuple elts kk tpos) (.Call (.Name "enumerate" p) [e] [] pos) (iEt X.K ta) := by
  refine ⟨fun pins s σ H R I h => ?_⟩
  refine Call_ (ld_blt I hg hm boot_enumerate (PyProof.Rows.callWith_type1 (thn (ha.run pos pins s σ H _ I h) fun us s1 ⟨vs, H1, I1, r1, q1⟩ => ?_) hs rfl))
  obtain ⟨a, xs, ex, hq, q⟩ := q1
  subst ex
  cases r1 with
  | cons r rr =>
    cases rr
    cases r
    obtain ⟨its, rv, p', hz⟩ := I1.tuple hq
    have pt : s1.heap.IsTuple a its.toArray := p'
    have hla : a < s1.heap.objs.size := by
      obtain ⟨o, ho, _⟩ := pt
      exact Heap.lt_size ho
    refine enum_tup pt fun h' he hit hsz hk => wpAny_pyIter_enum he ?_
    have I2 : L2.Inv X pins σ H1 { s1 with heap := h' } := I1.kept (t' := s1.toks) hk
    refine ⟨s1.heap.objs.size + 1, [s1.heap.objs.size + 1, s1.heap.objs.size], _, _, H1, rfl, I2, turn_et a (s1.heap.objs.size + 1) s1.heap.objs.size, ⟨⟨.none, he⟩, hit, Nat.succ_ne_self _, Nat.ne_of_lt hla⟩, fun b hb => ?_, q⟩
    have e' : b = s1.heap.objs.size + 1 ∨ b = s1.heap.objs.size := by simpa using hb
    have hle : s1.heap.objs.size ≤ b := by
      rcases e' with z | z
      · rw [z]; exact Nat.le_add_right _ _
      · rw [z]; exact Nat.le_refl _
    exact I1.fpOk hle (I1.hok.fresh hle)
theorem over_et {K : PySem.W.Frag} {a : Addr} {xs : List V} {H0 : Hp} (h : H0 a = some (.tup xs)) : Over (Iet K a) xs.length (fun i v H' => ∃ T x, v = .ref T ∧ H' T = some (.tup [.int (i : Nat), x]) ∧ xs[i]? = some x) H0 where
  go := fun i H e hi => ⟨xs, xs[i], SqT.of (e _ _ h), by simp [hi]⟩
  stop := fun H e => ⟨xs, SqT.of (e _ _ h), rfl⟩
  yld := fun i H x H' e hi y => by
    obtain ⟨T, y', rfl, nT, rfl, k⟩ := y
    exact ⟨same_upd nT, T, y', rfl, upd_same, k xs (SqT.of (e _ _ h))⟩
end Ow

end OwEnum
section OwSortR
set_option linter.all false
set_option maxRecDepth 100000
set_option maxHeartbeats 4000000
/-! sorted(a text) by its value; the join of signs. -/
namespace Ow
open PySem PySem.Spec PyProof.Rows L2
theorem cr_signs {X : Cx} (hc : X.calm = true) (hu : X.A.units + 64 < cLine) : CallR X (.builtin "sorted") (fun vs H Q => ∃ l : List Nat, vs = [.str (S l)] ∧ l.length ≤ sizeLine ∧ ∀ p, H p = none → Q (.ref p) (upd H p (.lst ((sortN l).map fun c => .str (S [c]))))) := by
  intro pins s σ H vs us Q I r h
  obtain ⟨l, rfl, hl, q⟩ := h
  cases r with
  | cons r rr =>
    cases rr
    obtain ⟨t, rfl⟩ := r
    refine sorted_signs (I.ok.hd hc) hu (by rw [S_size]; exact hl) fun ha hb tk ep vs kp1 kp2 htk hgl hvs => ?_
    rw [S_list] at hvs
    have I1 : L2.Inv X pins σ H { s with heap := ha } := I.kept (t' := s.toks) kp1
    have nP : H ha.objs.size = none := I1.hok.fresh (Nat.le_refl _)
    have hsz : ((sortN l).map fun y => V.str (S [y])).length ≤ sizeLine := by
      rw [List.length_map, (sortN_perm l).length_eq]
      exact hl
    exact ⟨.ref ha.objs.size, _, I1.laid (a := ha.objs.size) (o := .lst ((sortN l).map fun y => V.str (S [y]))) (t' := tk) kp2 (Nat.le_refl _) ⟨hsz, vs, ep, toks_vals hvs, hgl⟩, rfl, q _ nP⟩
theorem glued_signs : ∀ l : List Nat, Txt.join (S []) (l.map fun c => S [c]) = S l
  | [] => rfl
  | [c] => rfl
  | c :: d :: r => by
    have ih := glued_signs (d :: r)
    rw [TL.join_eq] at ih ⊢
    show S [c] ++ S [] ++ Str.join (S []) ((d :: r).map fun c => S [c]) = S (c :: d :: r)
    rw [ih, S_app, S_app]
    rfl
theorem glued_size (l : List Nat) (s : Str) (hs : s.length = 0) : ((l.map fun c => S [c]).map (·.length)).sum + (l.map fun c => S [c]).length * s.length = l.length := by
  rw [hs, Nat.mul_zero, Nat.add_zero, List.map_map]
  have : (l.map ((fun x : Str => x.length) ∘ fun c => S [c])) = l.map (fun _ => 1) := by
    congr 1
  rw [this, List.map_const', List.sum_replicate_nat, Nat.mul_one]
theorem signs_map (l : List Nat) : (l.map fun c => S [c]).map V.str = l.map fun c => V.str (S [c]) := by rw [List.map_map]; rfl
/-- a text that stands for a kind of the company -/
structure KO (n : Nat) (ps : List (Nat × Nat)) (l : List Nat) : Prop where
  isK : IsK (FF ps) l
  mem : ∀ c ∈ l, c ∈ letters n
theorem len_of {n : Nat} {l : List Nat} (nd : l.Nodup) (h : ∀ c ∈ l, c ∈ letters n) : l.length ≤ n := by
  have nl : (letters n).Nodup := by
    unfold letters
    exact List.nodup_range.map _ fun a b hab e => hab (by omega)
  have hp : ((letters n).filter fun c => decide (c ∈ l)).Perm l := (List.perm_ext_iff_of_nodup (nl.filter _) nd).mpr fun c => by
    rw [List.mem_filter]
    exact ⟨fun q => of_decide_eq_true q.2, fun q => ⟨h c q, decide_eq_true q⟩⟩
  have := hp.length_eq
  have h2 : ((letters n).filter fun c => decide (c ∈ l)).length ≤ (letters n).length := List.length_filter_le _ _
  rw [letters_len] at h2
  omega
theorem KO.len {n : Nat} {ps : List (Nat × Nat)} {l : List Nat} (h : KO n ps l) : l.length ≤ n := len_of h.isK.nd h.mem
theorem sortN_lt {l : List Nat} (nd : l.Nodup) : (sortN l).Pairwise (· < ·) := by
  have h1 := sortN_le l
  have h2 : (sortN l).Nodup := (sortN_perm l).nodup_iff.mpr nd
  exact (h1.and h2).imp fun ⟨a, b⟩ => Nat.lt_of_le_of_ne a b
section
variable {P : Program} {w : World} {K : PySem.W.Frag} {mg : Str → Option Value} {base : Heap}
theorem scIsKind : FnScope ["company", "value"] ["company", "value"] (defScope sIsKind) := ⟨rfl, rfl, rfl, by decide +kernel, rfl, by decide +kernel, by decide +kernel⟩
def spIsKind : Sp := fun vs H Q _ => ∃ (a : Addr) (n : Nat) (ps : List (Nat × Nat)) (l : List Nat), vs = [.ref a, .str (S l)] ∧ CoAt H a n ps ∧ Good n ps ∧ KO n ps l ∧ ∀ H', Same H H' → Q (.bl true) H'
theorem ok_isKind {f : Addr} {fd : FuncData} (F : Fun K "is_kind" "is_kind" sIsKind f fd) (mI : mg "isinstance" = none) (mS : mg "str" = none) (mL : mg "len" = none) (mO : mg "sorted" = none)
    (cS : Cal P w K mg base 1 "is_set" ["company", "value"] spIsSet) (cF : Cal P w K mg base 1 "friends_of_all" ["company"] spFriends) (cL : Cal P w K mg base 1 "least_order" ["told", "order"] spLo) : FnOk P w K mg base CX0 2 f fd ["company", "value"] spIsKind := by
  refine F.ok scIsKind (fun vs H Q E h => ?_) (fun cdv A outer s H vs Q E hr h => ?_)
  · obtain ⟨a, n, ps, l, rfl, _⟩ := h
    rfl
  · obtain ⟨a, n, ps, l, rfl, hC, hG, hK, k⟩ := h
    refine ⟨_, pss_cons (ps_if (PW.pt (pw_or (pt_not (pt_val (pe_callB call_isi rfl mI (by decide +kernel) (pa_cons (pv 1) (pa_cons (pe_ty "str" rfl mS (by decide +kernel)) pa_nil)))))
        (pw_or (pt_cmpR op_gt (pe_callB call_len_str rfl mL PySem.boot_len (pa_cons (pv 1) pa_nil)) (pe_ix ix_tup (pv 0) pe_int (fun _ _ => rfl)) (nomark _))
        (pw_or1 (pt_not (pt_val (pe_cl cS hr rfl (pa_cons (pv 0) (pa_cons (pe_join pe_str (pe_callB (cr_signs rfl hr.units) rfl mO (by decide +kernel) (pa_cons (pv 1) pa_nil))) pa_nil))))))))) (pss_one (ps_ret pe_bl)) pss_nil)
      (pss_one (ps_ret (pe_cmpR op_eq (pe_cl cL hr rfl (pa_cons (pe_cl cF hr rfl (pa_cons (pv 0) pa_nil)) (pa_cons (pv 1) pa_nil))) (pv 1) (nomark _)))), ?_⟩
    obtain ⟨pt, ha, hP⟩ := id hC
    have hln := hK.len
    have h7 := hG.most
    have hz : l.length ≤ sizeLine := Nat.le_trans (Nat.le_trans hln h7) (by decide)
    refine ⟨_, rfl, _, _, _, _, _, rfl, .ty "str", .base (.str _), kit_ty (r := true) (by decide +kernel), _, rfl, ?_⟩
    refine iteF ?_
    refine ⟨_, rfl, _, rfl, small hln (Nat.le_trans h7 (by decide)), _, rfl, _, _, _, _, rfl, rfl, SqT.of ha, atI_nat (j := 0) rfl, _, _, rfl, rfl, _, rfl, ?_⟩
    rw [decide_eq_false (by rw [S_len]; omega)]
    refine iteF ?_
    refine ⟨_, rfl, ⟨_, rfl⟩, _, rfl, l, rfl, hz, fun p np => ?_⟩
    have hp : (sortN l).Perm l := sortN_perm l
    refine ⟨"", p, (sortN l).map fun c => S [c], rfl, rfl, .inl (SqL.of (by rw [upd_same, signs_map])), ?_, ?_⟩
    · rw [glued_size _ _ rfl, hp.length_eq]
      exact Nat.le_trans (Nat.le_trans hln h7) (by decide)
    rw [S_nil, glued_signs]
    refine ⟨a, n, ps, sortN l, rfl, hC.same (same_upd np), h7, by rw [hp.length_eq]; exact hln, fun c hc => hK.mem c (hp.mem_iff.mp hc), sortN_lt hK.isK.nd, fun H2 s2 => ⟨_, rfl, ?_⟩⟩
    refine iteF ?_
    have s3 : Same H H2 := (same_upd np).trans s2
    refine ⟨_, rfl, a, n, ps, rfl, hC.same s3, hG, fun H3 d s4 nd hT => ⟨_, rfl, d, l, FF ps, rfl, ?_, hK.isK.nd, Nat.le_trans (Nat.le_trans hln h7) (by decide), fun H4 s5 => ⟨_, rfl, rfl, ?_⟩⟩⟩
    · obtain ⟨kvs, e1, e2⟩ := hT
      exact ⟨kvs, e1, fun x hx => e2 x (hK.mem x hx)⟩
    · rw [hK.isK.eq, decide_eq_true rfl]
      exact k H4 ((s3.trans s4).trans s5)
end
end Ow

end OwSortR
section OwNeed
set_option linter.all false
set_option maxRecDepth 100000
set_option maxHeartbeats 8000000
namespace Ow
open PySem PySem.Spec PyProof.Rows L2
def KindsAt (H : Hp) (a : Addr) (n : Nat) (ps : List (Nat × Nat)) (ks : List (List Nat)) : Prop := H a = some (.tup (ks.map fun k => .str (S k))) ∧ ks.length ≤ 12 ∧ ∀ k ∈ ks, KO n ps k
theorem KindsAt.same {H H' : Hp} {a : Addr} {n : Nat} {ps : List (Nat × Nat)} {ks : List (List Nat)} (e : Same H H') (h : KindsAt H a n ps ks) : KindsAt H' a n ps ks := ⟨e _ _ h.1, h.2⟩
theorem nT {A B p : Prop} [Decidable p] (h : p) (hb : B) : if (!decide p) = true then A else B := by
  rw [decide_eq_true h]
  exact iteF hb
theorem dT {A B p : Prop} [Decidable p] (h : p) (ha : A) : if decide p = true then A else B := by
  rw [decide_eq_true h]
  exact iteT ha
theorem dF {A B p : Prop} [Decidable p] (h : ¬ p) (hb : B) : if decide p = true then A else B := by
  rw [decide_eq_false h]
  exact iteF hb
theorem ifF {A B : Prop} {b : Bool} (e : b = false) (h : B) : if b = true then A else B := by
  subst e
  exact iteF h
theorem ifT {A B : Prop} {b : Bool} (e : b = true) (h : A) : if b = true then A else B := by
  subst e
  exact iteT h
section
variable {P : Program} {w : World} {K : PySem.W.Frag} {mg : Str → Option Value} {base : Heap}
theorem scNeedKind : FnScope ["company", "kind"] ["company", "kind"] (defScope sNeedKind) := ⟨rfl, rfl, rfl, by decide +kernel, rfl, by decide +kernel, by decide +kernel⟩
theorem scNeedKinds : FnScope ["company", "kinds", "index", "kind"] ["company", "kinds"] (defScope sNeedKinds) := ⟨rfl, rfl, rfl, by decide +kernel, rfl, by decide +kernel, by decide +kernel⟩
theorem scNeedCo : FnScope ["company", "index", "pair", "letter"] ["company"] (defScope sNeedCo) := ⟨rfl, rfl, rfl, by decide +kernel, rfl, by decide +kernel, by decide +kernel⟩
def spNeedKind : Sp := fun vs H Q _ => ∃ (a : Addr) (n : Nat) (ps : List (Nat × Nat)) (l : List Nat), vs = [.ref a, .str (S l)] ∧ CoAt H a n ps ∧ Good n ps ∧ KO n ps l ∧ ∀ H', Same H H' → Q .non H'
def spNeedKinds : Sp := fun vs H Q _ => ∃ (a b : Addr) (n : Nat) (ps : List (Nat × Nat)) (ks : List (List Nat)), vs = [.ref a, .ref b] ∧ CoAt H a n ps ∧ Good n ps ∧ KindsAt H b n ps ks ∧ ∀ H', Same H H' → Q .non H'
def spNeedCo : Sp := fun vs H Q _ => ∃ (a : Addr) (n : Nat) (ps : List (Nat × Nat)), vs = [.ref a] ∧ CoAt H a n ps ∧ Good n ps ∧ ∀ H', Same H H' → Q .non H'
theorem ok_needKind {f : Addr} {fd : FuncData} (F : Fun K "need_kind" "need_kind" sNeedKind f fd) (cK : Cal P w K mg base 2 "is_kind" ["company", "value"] spIsKind) : FnOk P w K mg base CX0 3 f fd ["company", "kind"] spNeedKind := by
  refine F.ok scNeedKind (fun vs H Q E h => ?_) (fun cdv A outer s H vs Q E hr h => ?_)
  · obtain ⟨a, n, ps, l, rfl, _⟩ := h
    rfl
  · obtain ⟨a, n, ps, l, rfl, hC, hG, hK, k⟩ := h
    refine ⟨_, pss_one (ps_if (pt_not (pt_val (pe_cl cK hr rfl (pa_cons (pv 0) (pa_cons (pv 1) pa_nil))))) (pss_one ps_never) pss_nil), ?_⟩
    refine ⟨_, rfl, _, rfl, a, n, ps, l, rfl, hC, hG, hK, fun H2 s2 => ⟨_, rfl, ?_⟩⟩
    refine iteF ?_
    exact k H2 s2
theorem ok_needKinds {f : Addr} {fd : FuncData} (F : Fun K "need_kinds" "need_kinds" sNeedKinds f fd) (mE : mg "enumerate" = none) (cT : Cal P w K mg base 1 "tuple_of" ["value", "low", "high"] spTupleOf) (cK : Cal P w K mg base 2 "is_kind" ["company", "value"] spIsKind) : FnOk P w K mg base CX0 3 f fd ["company", "kinds"] spNeedKinds := by
  refine F.ok scNeedKinds (fun vs H Q E h => ?_) (fun cdv A outer s H vs Q E hr h => ?_)
  · obtain ⟨a, b, n, ps, ks, rfl, _⟩ := h
    rfl
  · obtain ⟨a, b, n, ps, ks, rfl, hC, hG, hK, k⟩ := h
    obtain ⟨k1, k2, k3⟩ := hK
    have nd := scNeedKinds.nd
    refine ⟨_, pss_cons (ps_if (pt_not (pt_val (pe_cl cT (hr.mono (by decide)) rfl (pa_cons (pv 1) (pa_cons pe_int (pa_cons pe_int pa_nil)))))) (pss_one ps_never) pss_nil)
      (pss_one (ps_for PassesOwn.never rfl (pi_et rfl mE (pa_cons (pv 1) pa_nil)) (pg_tup rfl (pgs_cons (pg_name (i := 2) nd rfl (.inl rfl)) (pgs_cons (pg_name (i := 3) nd rfl (.inl rfl)) pgs_nil)))
        (pss_one (ps_if (pt_not (pt_val (pe_cl cK hr rfl (pa_cons (pv 0) (pa_cons (pv 3) pa_nil))))) (pss_one ps_never) pss_nil)))), ?_⟩
    refine ⟨_, rfl, b, _, _, _, rfl, k1, _, rfl, ?_⟩
    refine nT (by rw [List.length_map]; omega) ?_
    refine ⟨_, rfl, b, _, rfl, SqT.of k1, ?_⟩
    refine for_gen (over_et k1) (fun i σ H2 => ∃ v2 v3, σ = [some (.ref a), some (.ref b), v2, v3] ∧ Same H H2) ⟨none, none, rfl, Same.refl _⟩ (fun i σ H2 ⟨_, _, _, h⟩ => h) ?_ ?_
    · rintro i x σ H2 H3 hi ⟨v2, v3, rfl, s2⟩ s3 ⟨T, y, rfl, hT, hy⟩
      rw [List.getElem?_map] at hy
      cases e : ks[i]? with
      | none => rw [e] at hy; cases hy
      | some l =>
        rw [e] at hy
        cases hy
        refine ⟨_, _, rfl, SqT.of hT, rfl, ?_⟩
        refine ⟨_, _, rfl, _, _, rfl, rfl, ?_⟩
        refine ⟨_, rfl, _, rfl, a, n, ps, l, rfl, hC.same (s2.trans s3), hG, k3 l (List.mem_of_getElem? e), fun H4 s4 => ⟨_, rfl, ?_⟩⟩
        refine iteF ?_
        exact ⟨_, _, rfl, (s2.trans s3).trans s4⟩
    · rintro σ H2 ⟨v2, v3, rfl, s2⟩
      exact k H2 s2
theorem ok_needCo {f : Addr} {fd : FuncData} (F : Fun K "need_company" "need_company" sNeedCo f fd) {tm : Tok} (mE : mg "enumerate" = none) (mA : mg "all" = none) (mM : mg "MOST_LETTERS" = some (.int 7 tm)) (cT : Cal P w K mg base 1 "tuple_of" ["value", "low", "high"] spTupleOf) (cW : Cal P w K mg base 2 "within" ["value", "low", "high"] spWithin) : FnOk P w K mg base CX0 3 f fd ["company"] spNeedCo := by
  refine F.ok scNeedCo (fun vs H Q E h => ?_) (fun cdv A outer s H vs Q E hr h => ?_)
  · obtain ⟨a, n, ps, rfl, _⟩ := h
    rfl
  · obtain ⟨a, n, ps, rfl, hC, hG, k⟩ := h
    have nd := scNeedCo.nd
    have hr1 := hr.mono (j := 1) (by decide)
    refine ⟨_, pss_cons (ps_if (PW.pt (pw_or (pt_not (pt_val (pe_cl cT hr1 rfl (pa_cons (pv 0) (pa_cons pe_int (pa_cons pe_int pa_nil))))))
        (pw_or (pt_not (pt_val (pe_cl cW hr rfl (pa_cons (pe_ix ix_tup (pv 0) pe_int (fun _ _ => rfl)) (pa_cons pe_int (pa_cons (pe_glob (v := .int 7) rfl mM ⟨_, rfl⟩) pa_nil))))))
        (pw_or1 (pt_not (pt_val (pe_cl cT hr1 rfl (pa_cons (pe_ix ix_tup (pv 0) pe_int (fun _ _ => rfl)) (pa_cons pe_int (pa_cons pe_int pa_nil)))))))))) (pss_one ps_never) pss_nil)
      (pss_one (ps_for PassesOwn.never rfl (pi_et rfl mE (pa_cons (pe_ix ix_tup (pv 0) pe_int (fun _ _ => rfl)) pa_nil)) (pg_tup rfl (pgs_cons (pg_name (i := 1) nd rfl (.inl rfl)) (pgs_cons (pg_name (i := 2) nd rfl (.inl rfl)) pgs_nil)))
        (pss_cons (ps_if (PW.pt (pw_or (pt_not (pt_val (pe_cl cT hr1 rfl (pa_cons (pv 2) (pa_cons pe_int (pa_cons pe_int pa_nil))))))
            (pw_or1 (pt_not (pt_val (pe_callB (cr_all rfl) rfl mA (by decide +kernel) (pa_cons (pe_lc (own := [("letter", 3)]) (g := gName 3) (tt := tYes) rfl nd (pi_tup (pv 2)) (blkOk_by (N := ["company", "index", "pair", "letter"]) (sc := defScope sNeedCo) (by decide +kernel)) (fun _ _ _ _ _ => pg_name (i := 3) nd rfl (Or.inl rfl)) (fun _ _ _ _ _ => pts_nil)
              (fun _ _ _ _ _ => pe_cl cW hr rfl (pa_cons (pv 3) (pa_cons pe_int (pa_cons (pe_op op_sub (pe_ix (r := rIxT K) ix_tup (pv 0) pe_int (fun _ _ => rfl)) pe_int) pa_nil))))) pa_nil))))))) (pss_one ps_never) pss_nil)
        (pss_one (ps_if (PW.pt (pw_or (pt_cmpR op_ge (pe_ix ix_tup (pv 2) pe_int (fun _ _ => rfl)) (pe_ix ix_tup (pv 2) pe_int (fun _ _ => rfl)) (nomark _))
            (pw_or1 (PW.pt (pw_and (pt_cmpR op_gt (pv 1) pe_int (nomark _)) (pw_and1 (pt_cmpR (op_leT hr.units0) (pv 2) (pe_ix ix_tup (pe_ix ix_tup (pv 0) pe_int (fun _ _ => rfl)) (pe_op op_sub (pv 1) pe_int) (fun _ _ => rfl)) (nomark _)))))))) (pss_one ps_never) pss_nil))))), ?_⟩
    obtain ⟨pt, ha, ls, hpt, hll, hit⟩ := id hC
    refine ⟨_, rfl, a, _, _, _, rfl, ha, _, rfl, ?_⟩
    refine nT (show (2 : Int) ≤ ((2 : Nat) : Int) ∧ ((2 : Nat) : Int) ≤ 2 by decide) ?_
    refine ⟨_, rfl, _, _, _, _, rfl, rfl, SqT.of ha, atI_nat (j := 0) rfl, _, _, _, rfl, _, rfl, ?_⟩
    have h1 := hG.one
    have h7 := hG.most
    refine nT (by omega) ?_
    refine ⟨_, rfl, _, _, _, _, rfl, rfl, SqT.of ha, atI_nat (j := 1) rfl, pt, _, _, _, rfl, hpt, _, rfl, ?_⟩
    have h21 := hG.few
    refine nT (by rw [List.length_map]; omega) ?_
    refine ⟨_, rfl, _, _, _, _, rfl, rfl, SqT.of ha, atI_nat (j := 1) rfl, pt, _, rfl, SqT.of hpt, ?_⟩
    refine for_gen (over_et hpt) (fun i σ H2 => ∃ v1 v2, σ = [some (.ref a), v1, v2, none] ∧ Same H H2) ⟨none, none, rfl, Same.refl _⟩ (fun i σ H2 ⟨_, _, _, h⟩ => h) ?_ ?_
    · rintro i x σ H2 H3 hi ⟨v1, v2, rfl, s2⟩ s3 ⟨T, y, rfl, hT, hy⟩
      rw [List.length_map] at hi
      have ip : i < ps.length := by omega
      have ht : ls[i]? = some ls[i] := List.getElem?_eq_getElem hi
      have hp : ps[i]? = some ps[i] := List.getElem?_eq_getElem ip
      rw [List.getElem?_map, ht] at hy
      cases hy
      have s23 := s2.trans s3
      have hQ := hit i _ _ ht hp
      obtain ⟨o1, o2⟩ := hG.ok _ (List.getElem_mem ip)
      refine ⟨_, _, rfl, SqT.of hT, rfl, ?_⟩
      refine ⟨_, _, rfl, _, _, rfl, rfl, ?_⟩
      refine ⟨_, rfl, _, _, _, _, rfl, s23 _ _ hQ, _, rfl, ?_⟩
      refine nT (show (2 : Int) ≤ ((2 : Nat) : Int) ∧ ((2 : Nat) : Int) ≤ 2 by decide) ?_
      refine ⟨_, rfl, _, rfl, ⟨_, SqT.of (s23 _ _ hQ)⟩, fun D nD => lc_all (over_tup (s23 _ _ hQ)) (fun _ => .bl true) nD (show 2 ≤ sizeLine by decide) ?_ ?_⟩
      · rintro j x H' Nx hj sH hx kN
        have hv : ∃ c : Nat, x = .int (c : Nat) ∧ c < n := by
          match j, hx with
          | 0, hx => cases hx; exact ⟨_, rfl, by omega⟩
          | 1, hx => cases hx; exact ⟨_, rfl, o2⟩
          | j + 2, hx => cases hx
        obtain ⟨c, rfl, hc⟩ := hv
        refine ⟨rfl, ?_⟩
        refine ⟨_, rfl, _, rfl, _, _, _, _, rfl, rfl, SqT.of (sH _ _ (s23 _ _ ha)), atI_nat (j := 0) rfl, _, _, rfl, rfl, _, _, _, rfl, ?_⟩
        rw [decide_eq_true (by omega)]
        exact kN _ (Same.refl _)
      · intro H4 s4 hD
        rw [map_true] at hD
        refine ⟨_, _, rfl, SqL.of hD, _, rfl, ?_⟩
        rw [all_true]
        refine iteF ?_
        have s24 := s23.trans s4
        have hQ4 := s24 _ _ hQ
        refine ⟨_, rfl, _, _, _, _, rfl, rfl, SqT.of hQ4, atI_nat (j := 0) rfl, _, rfl, _, _, _, _, rfl, rfl, SqT.of hQ4, atI_nat (j := 1) rfl, _, _, rfl, rfl, _, rfl, ?_⟩
        rw [decide_eq_false (by omega)]
        refine iteF ?_
        refine ⟨_, rfl, _, _, rfl, rfl, _, rfl, ?_⟩
        by_cases i0 : i = 0
        · rw [decide_eq_false (by omega)]
          refine iteF ?_
          exact ⟨_, _, rfl, s24⟩
        · rw [decide_eq_true (by omega)]
          refine iteT ?_
          have hi1 : i - 1 < ls.length := by omega
          have ht1 : ls[i - 1]? = some ls[i - 1] := List.getElem?_eq_getElem hi1
          have hp1 : ps[i - 1]? = some ps[i - 1] := List.getElem?_eq_getElem (by omega)
          have hR := s24 _ _ (hit (i - 1) _ _ ht1 hp1)
          have hasc := List.pairwise_iff_getElem.mp hG.asc (i - 1) i (by omega) ip (by omega)
          refine ⟨_, rfl, _, rfl, _, _, _, _, rfl, rfl, SqT.of (s24 _ _ ha), atI_nat (j := 1) rfl, _, rfl, _, _, rfl, rfl, pt, _, _, .ref ls[i - 1], rfl, rfl, SqT.of (s24 _ _ hpt), ?_, ?_⟩
          · have e : ((i : Nat) : Int) - 1 = ((i - 1 : Nat) : Int) := by omega
            rw [e]
            exact atI_nat (by rw [List.getElem?_map, ht1]; rfl)
          · refine ⟨_, _, [((ps[i].1 : Nat) : Int), ((ps[i].2 : Nat) : Int)], [((ps[i - 1].1 : Nat) : Int), ((ps[i - 1].2 : Nat) : Int)], rfl, rfl, SqT.of hQ4, SqT.of hR, _, rfl, ?_⟩
            refine ifF ?_ ?_
            · rcases hasc with q | ⟨q, q'⟩
              · have ne : ¬ ps[i].1 = ps[i - 1].1 := by omega
                simp [Ob.lexAt, ne]
                rw [if_neg (by omega)]
                exact q
              · simp [Ob.lexAt, q]
                omega
            · exact ⟨_, _, rfl, s24⟩
    · rintro σ H2 ⟨v2, v3, rfl, s2⟩
      exact k H2 s2
end
end Ow

end OwNeed
section OwSame
set_option linter.all false
set_option maxRecDepth 100000
set_option maxHeartbeats 4000000
/-! sorted(a list of signs), and when two such lists are alike; a text ahead of a sign as a term. -/
namespace Ow
open PySem PySem.Spec PyProof.Rows L2
theorem lt_one (x p : Nat) : ltCps (S [x]).cps.toList (S [p]).cps.toList = decide (x < p) := by
  rw [S_list, S_list]
  by_cases h : x < p
  · simp [ltCps, h]
  · simp [ltCps, h]
theorem rising_pw : ∀ (p : Nat) (l : List Nat), risingS (S [p]) (l.map fun c => S [c]) = true → (p :: l).Pairwise (· ≤ ·)
  | p, [], _ => List.pairwise_singleton ..
  | p, x :: r, h => by
    have h' : (!ltCps (S [x]).cps.toList (S [p]).cps.toList && risingS (S [x]) (r.map fun c => S [c])) = true := h
    rw [lt_one, Bool.and_eq_true] at h'
    have ih := rising_pw x r h'.2
    have hx : p ≤ x := by
      have := h'.1
      simp at this
      exact this
    refine List.pairwise_cons.mpr ⟨fun y hy => ?_, ih⟩
    rcases List.mem_cons.mp hy with e | e
    · rw [e]; exact hx
    · exact Nat.le_trans hx (List.rel_of_pairwise_cons ih e)
theorem sorted_pw : ∀ l : List Nat, sortedS (l.map fun c => S [c]) = true → l.Pairwise (· ≤ ·)
  | [], _ => .nil
  | x :: r, h => rising_pw x r h
theorem signs_of {l : List Nat} {ys : List Str} (h : ys.Perm (l.map fun c => S [c])) : ∃ l' : List Nat, ys = (l'.map fun c => S [c]) ∧ l'.Perm l := by
  refine ⟨ys.map fun z => z.cps.toList.headD 0, ?_, ?_⟩
  · rw [List.map_map]
    refine ((List.map_congr_left fun z hz => ?_).trans (List.map_id ys)).symm
    obtain ⟨c, _, rfl⟩ := List.mem_map.mp (h.mem_iff.mp hz)
    rfl
  · have := h.map fun z => z.cps.toList.headD 0
    rw [List.map_map] at this
    have e : (l.map ((fun z : Str => z.cps.toList.headD 0) ∘ fun c => S [c])) = l := (List.map_congr_left fun z _ => rfl).trans (List.map_id l)
    rwa [e] at this
theorem sortN_uniq {l l' : List Nat} (h : l'.Perm l) (h2 : l'.Pairwise (· ≤ ·)) : l' = sortN l :=
  List.Perm.eq_of_pairwise (fun a b _ _ h1 h2 => Nat.le_antisymm h1 h2) h2 (sortN_le l) (h.trans (sortN_perm l).symm)
theorem cr_signsL {X : Cx} : CallR X (.builtin "sorted") (fun vs H Q => ∃ (a : Addr) (l : List Nat), vs = [.ref a] ∧ H a = some (.lst (l.map fun c => .str (S [c]))) ∧ l.length < 64 ∧ ∀ p, H p = none → Q (.ref p) (upd H p (.lst ((sortN l).map fun c => .str (S [c]))))) := by
  intro pins s σ H vs us Q I r h
  obtain ⟨a, l, rfl, hl, h64, q⟩ := h
  refine cr_sortedS pins s σ H [.ref a] us Q I r ⟨a, l.map fun c => S [c], rfl, SqL.of (by rw [hl, signs_map]), by rw [List.length_map]; exact h64, fun ys p hp hs np => ?_⟩
  obtain ⟨l', rfl, hp'⟩ := signs_of hp
  rw [sortN_uniq hp' (sorted_pw l' hs), signs_map]
  exact q p np
theorem sortN_same {a b : List Nat} : sortN a = sortN b ↔ a.Perm b := by
  constructor
  · intro h
    exact (sortN_perm a).symm.trans (h ▸ sortN_perm b)
  · intro h
    exact sortN_uniq ((sortN_perm a).trans h) (sortN_le a)
theorem eqv_signs : ∀ a b : List Nat, PyData.eqvAll (a.map fun c => .str (S [c])) (b.map fun c => .str (S [c])) = decide (a = b)
  | [], [] => by simp [PyData.eqvAll]
  | [], _ :: _ => by simp [PyData.eqvAll]
  | _ :: _, [] => by simp [PyData.eqvAll]
  | x :: r, y :: t => by
    simp only [List.map_cons, PyData.eqvAll, PyData.eqv, eqv_signs r t]
    by_cases e : x = y
    · subst e
      simp
    · have ne : ¬ S [x] = S [y] := fun z => e (by have := S_inj z; simpa using this)
      simp [e, ne]
theorem same_iff {a b : List Nat} (na : a.Nodup) (nb : b.Nodup) : decide (sortN a = sortN b) = ((a.all fun q => decide (q ∈ b)) && b.all fun q => decide (q ∈ a)) := by
  rw [Bool.eq_iff_iff, decide_eq_true_iff, sortN_same, Bool.and_eq_true, List.all_eq_true, List.all_eq_true, List.perm_ext_iff_of_nodup na nb]
  constructor
  · intro h
    exact ⟨fun x hx => decide_eq_true ((h x).mp hx), fun x hx => decide_eq_true ((h x).mpr hx)⟩
  · rintro ⟨h1, h2⟩ x
    exact ⟨fun hx => of_decide_eq_true (h1 x hx), fun hx => of_decide_eq_true (h2 x hx)⟩
theorem dp_signs {K : PySem.W.Frag} {H : Hp} : ∀ l : List Nat, DpAll K H (l.map fun c => .str (S [c])) (l.map fun c => .str (S [c]))
  | [] => .nil
  | c :: r => .cons (.str _) (dp_signs r)
theorem shaped_signs : ∀ l : List Nat, (∀ c ∈ l, c < 200) → PyData.canLayAll0 (l.map fun c => .str (S [c])) = true ∧ PyData.depthAll (l.map fun c => .str (S [c])) = 0
  | [], _ => ⟨rfl, rfl⟩
  | c :: r, h => by
    obtain ⟨h1, h2⟩ := shaped_signs r fun x hx => h x (List.mem_cons_of_mem _ hx)
    have hc := h c List.mem_cons_self
    refine ⟨?_, ?_⟩
    · simp only [List.map_cons, PyData.canLayAll0, PyData.canLay0, h1, Bool.and_true]
      show (S [c]).cps.all (· < 0x110000) = true
      simp [S]
      omega
    · simp only [List.map_cons, PyData.depthAll, PyData.depth, h2]
      rfl
theorem shaped_list {l : List Nat} (h : ∀ c ∈ l, c < 200) : SeqAt.shaped (.list (l.map fun c => .str (S [c]))) = true := by
  obtain ⟨h1, h2⟩ := shaped_signs l h
  unfold SeqAt.shaped
  rw [show PyData.canLay0 (.list (l.map fun c => .str (S [c]))) = true from h1, show PyData.depth (.list (l.map fun c => .str (S [c]))) = 1 by rw [PyData.depth, h2]]
  rfl
/-- one[:one.index(sign)] -/
theorem pe_ahead {X : Cx} {i j : Nat} {xr xs : Str} {p1 p2 p3 p4 p5 p6 p7 : Pos} (hi : X.N[i]? = some xr) (vi : Vis X.env.scope xr) (hj : X.N[j]? = some xs) (vj : Vis X.env.scope xs)
    (d1 : (xr == ("__debug__" : Str)) = false) (d2 : (xr == ("__classdict__" : Str)) = false) (d3 : (xs == ("__debug__" : Str)) = false) (d4 : (xs == ("__classdict__" : Str)) = false)
    (hbase : attributeBase (.Name xr p2) "index" X.env (eval (.Name xr p2) X.env) = eval (.Name xr p2) X.env) (hst : starEach [.Name xs p4] X.env = [(false, eval (.Name xs p4) X.env)]) (hline : (p3.endLine == p5.line) = true) :
    PE X (.Subscript (.Name xr p1) (.Slice none (some (.Call (.Attribute (.Name xr p2) "index" p3) [.Name xs p4] [] p5)) none p6) p7) (fun σ H Q => ∃ l c, σ[i]? = some (some (.str (S l))) ∧ σ[j]? = some (some (.str (S [c]))) ∧ c ∈ l ∧ l.length ≤ sizeLine ∧ Q (.str (S (ahd l c))) H) := by
  refine ⟨fun pins s σ H Q I ⟨l, c, hr, hs, hc, hl, q⟩ => ?_⟩
  exact ahead_eval I hi vi hj vj hr hs hc hl (fun h' k u kp => ⟨.str (S (ahd l c)), H, I.kept (t' := k) kp, ⟨u, rfl⟩, q⟩) d1 d2 d3 d4 hbase hst hline
end Ow

end OwSame
section OwCommon
set_option linter.all false
set_option maxRecDepth 100000
set_option maxHeartbeats 8000000
namespace Ow
open PySem PySem.Spec PyProof.Rows L2
theorem KO.kind {n : Nat} {ps : List (Nat × Nat)} {l : List Nat} (h : ∀ c ∈ l, c ∈ letters n) : KO n ps (kind (FF ps) l) :=
  ⟨kind_isK (FF_comm ps) l, fun c hc => h c ((mem_kind (FF_comm ps)).mp hc)⟩
theorem KO.app {n : Nat} {ps : List (Nat × Nat)} {a b : List Nat} (ha : KO n ps a) (hb : KO n ps b) : ∀ c ∈ a ++ b, c ∈ letters n := fun c hc => (List.mem_append.mp hc).elim (ha.mem c) (hb.mem c)
theorem KO.nil {n : Nat} {ps : List (Nat × Nat)} : KO n ps [] := ⟨isK_nil, fun c hc => by simp at hc⟩
theorem ToldAt.sub {H : Hp} {d : Addr} {F : Nat → Nat → Bool} {L l : List Nat} (h : ToldAt H d F L) (hs : ∀ c ∈ l, c ∈ L) : ToldAt H d F l := by
  obtain ⟨kvs, e1, e2⟩ := h
  exact ⟨kvs, e1, fun x hx => e2 x (hs x hx)⟩
theorem made_filter (l : List Nat) (p : Nat → Bool) : made (fun i => l[i]?.bind fun c => if p c = true then some (V.str (S [c])) else none) l.length = (l.filter p).map fun c => .str (S [c]) := by
  rw [made_get]
  induction l with
  | nil => rfl
  | cons c r ih =>
    rw [List.filterMap_cons, List.filter_cons]
    by_cases e : p c = true
    · simp [e, ih]
    · simp [e, ih]
theorem range_get {α : Type} (l : List α) (G : α → V) (d : V) : (List.range l.length).map (fun j => (l[j]?.map G).getD d) = l.map G := by
  refine List.ext_getElem (by simp) fun i h1 h2 => ?_
  simp only [List.length_map, List.length_range] at h1
  simp [h1]
theorem turnP_len (F : Nat → Nat → Bool) (x y f : List Nat) (c : Nat) : (turnP F x y f c).length ≤ f.length + 1 := by
  unfold turnP
  split
  · split <;> simp
  · omega
section
variable {P : Program} {w : World} {K : PySem.W.Frag} {mg : Str → Option Value} {base : Heap}
theorem scJoined : FnScope ["told", "one", "other", "sign"] ["told", "one", "other"] (defScope sJoined) := ⟨rfl, rfl, rfl, by decide +kernel, rfl, by decide +kernel, by decide +kernel⟩
def spJoined : Sp := fun vs H Q _ => ∃ (d : Addr) (n : Nat) (ps : List (Nat × Nat)) (x y : List Nat), vs = [.ref d, .str (S x), .str (S y)] ∧ n ≤ 7 ∧ ToldAt H d (FF ps) (letters n) ∧ KO n ps x ∧ KO n ps y ∧ ∀ H', Same H H' → Q (.str (S (kind (FF ps) (x ++ y)))) H'
theorem ok_joined {f : Addr} {fd : FuncData} (F : Fun K "joined" "joined" sJoined f fd) (cL : Cal P w K mg base 1 "least_order" ["told", "order"] spLo) : FnOk P w K mg base CX0 2 f fd ["told", "one", "other"] spJoined := by
  refine F.ok scJoined (fun vs H Q E h => ?_) (fun cdv A outer s H vs Q E hr h => ?_)
  · obtain ⟨d, n, ps, x, y, rfl, _⟩ := h
    rfl
  · obtain ⟨d, n, ps, x, y, rfl, h7, hT, kx, ky, k⟩ := h
    have nd := scJoined.nd
    refine ⟨_, pss_one (ps_ret (pe_cl cL hr rfl (pa_cons (pv 0) (pa_cons (pe_op op_add_str (pv 1) (pe_join pe_str
      (pe_lc (own := [("sign", 3)]) (g := gName 3) rfl nd (pi_str (pv 2)) (blkOk_by (N := ["told", "one", "other", "sign"]) (sc := defScope sJoined) (by decide +kernel)) (fun _ _ _ _ _ => pg_name (i := 3) nd rfl (Or.inl rfl)) (fun _ _ _ _ _ => pts_one (pt_cmpR op_notIn_sign (pv 3) (pv 1) rfl))
          (fun _ _ _ _ _ => pv 3)))) pa_nil)))), ?_⟩
    have lx := kx.len
    have ly := ky.len
    have big : 100 ≤ sizeLine := by decide
    refine ⟨_, rfl, _, rfl, ⟨_, rfl⟩, _, rfl, _, rfl, fun D nD => lc_gen (over_str y H) (fun i => y[i]?.bind fun c => if c ∉ x then some (.str (S [c])) else none) nD (by omega) ?_ ?_⟩
    · rintro i z H' Nx hi sH ⟨c, hc, rfl⟩ kN
      refine ⟨rfl, _, rfl, _, rfl, _, _, rfl, rfl, _, rfl, ?_⟩
      rw [S_list]
      have kN := kN H' (Same.refl _)
      rw [hc] at kN
      by_cases e : c ∈ x
      · rw [decide_eq_true e]
        refine iteF ?_
        simpa [e] using kN
      · rw [decide_eq_false e]
        refine iteT ?_
        refine ⟨_, rfl, ?_⟩
        simpa [e] using kN
    · intro H2 s2 hD
      rw [made_get] at hD
      have em : (y.filterMap fun c => if c ∉ x then some (V.str (S [c])) else none) = ((y.filter fun c => decide (c ∉ x)).map fun c => S [c]).map V.str := by
        rw [signs_map]
        clear hD kx ky k lx ly
        induction y with
        | nil => rfl
        | cons c r ih =>
          by_cases e : c ∈ x <;> simp [e] at ih ⊢ <;> exact ih
      rw [em] at hD
      have hl : (y.filter fun c => decide (c ∉ x)).length ≤ y.length := List.length_filter_le _ _
      refine ⟨"", D, (y.filter fun c => decide (c ∉ x)).map fun c => S [c], rfl, rfl, .inl (SqL.of hD), by rw [glued_size _ _ rfl]; omega, ?_⟩
      rw [S_nil, glued_signs]
      refine ⟨_, _, rfl, rfl, by rw [S_len, S_len]; omega, ?_⟩
      rw [S_app]
      have nd2 : (x ++ y.filter fun c => decide (c ∉ x)).Nodup := List.nodup_append.mpr ⟨kx.isK.nd, ky.isK.nd.filter _, fun a ha b hb => by
        rintro rfl
        have := (List.mem_filter.mp hb).2
        simp [ha] at this⟩
      refine ⟨d, _, FF ps, rfl, (hT.same s2).sub fun c hc => ?_, nd2, by rw [List.length_append]; omega, fun H3 s3 => ?_⟩
      · rcases List.mem_append.mp hc with q | q
        · exact kx.mem c q
        · exact ky.mem c (List.mem_filter.mp q).1
      · rw [joined_eq kx.isK.nd ky.isK.nd]
        exact k H3 (s2.trans s3)
theorem scCommonOf : FnScope ["told", "one", "other", "found", "sign", "needs", "wants", "more"] ["told", "one", "other"] (defScope sCommonOf) := ⟨rfl, rfl, rfl, by decide +kernel, rfl, by decide +kernel, by decide +kernel⟩
def spCommonOf : Sp := fun vs H Q _ => ∃ (d : Addr) (n : Nat) (ps : List (Nat × Nat)) (x y : List Nat), vs = [.ref d, .str (S x), .str (S y)] ∧ n ≤ 7 ∧ ToldAt H d (FF ps) (letters n) ∧ KO n ps x ∧ KO n ps y ∧ ∀ H', Same H H' → Q (.str (S (common (FF ps) x y))) H'
theorem ok_commonOf {f : Addr} {fd : FuncData} (F : Fun K "common_of" "common_of" sCommonOf f fd) (mS : mg "sorted" = none) (mA : mg "all" = none) (cL : Cal P w K mg base 1 "least_order" ["told", "order"] spLo) : FnOk P w K mg base CX0 2 f fd ["told", "one", "other"] spCommonOf := by
  refine F.ok scCommonOf (fun vs H Q E h => ?_) (fun cdv A outer s H vs Q E hr h => ?_)
  · obtain ⟨d, n, ps, x, y, rfl, _⟩ := h
    rfl
  · obtain ⟨d, n, ps, x, y, rfl, h7, hT, kx, ky, k⟩ := h
    have nd := scCommonOf.nd
    have hu := hu_of hr
    refine ⟨_, pss_cons (ps_set (i := 3) nd rfl (.inr rfl) pe_str)
      (pss_cons (ps_for PassesOwn.never rfl (pi_str (pv 1)) (pg_name (i := 4) nd rfl (.inr rfl))
        (pss_one (ps_if (pt_cmpR op_in_sign (pv 4) (pv 2) rfl)
          (pss_cons (ps_setLc (i := 5) (own := [("more", 7)]) (g := gName 7) rfl nd rfl rfl (sw_true rfl rfl rfl (by decide +kernel)) (pi_str (pe_ahead (i := 1) (j := 4) rfl (.inl rfl) rfl (.inr (.inl rfl)) (by decide) (by decide) (by decide) (by decide) rfl rfl rfl)) (blkOk_by (N := ["told", "one", "other", "found", "sign", "needs", "wants", "more"]) (sc := defScope sCommonOf) (by decide +kernel)) (fun _ _ _ _ _ => pg_name (i := 7) nd rfl (Or.inl rfl)) (fun _ _ _ _ _ => pts_one (pt_cmpR op_in_sign (pv 7) (pe_dget hu (pv 0) (pv 4) (fun _ _ => rfl)) rfl)) (fun _ _ _ _ _ => pv 7))
          (pss_cons (ps_setLc (i := 6) (own := [("more", 7)]) (g := gName 7) rfl nd rfl rfl (sw_true rfl rfl rfl (by decide +kernel)) (pi_str (pe_ahead (i := 2) (j := 4) rfl (.inl rfl) rfl (.inr (.inl rfl)) (by decide) (by decide) (by decide) (by decide) rfl rfl rfl)) (blkOk_by (N := ["told", "one", "other", "found", "sign", "needs", "wants", "more"]) (sc := defScope sCommonOf) (by decide +kernel)) (fun _ _ _ _ _ => pg_name (i := 7) nd rfl (Or.inl rfl)) (fun _ _ _ _ _ => pts_one (pt_cmpR op_in_sign (pv 7) (pe_dget hu (pv 0) (pv 4) (fun _ _ => rfl)) rfl)) (fun _ _ _ _ _ => pv 7))
          (pss_one (ps_if (PW.pt (pw_and (pt_cmpR (op_eqD hr.units) (pe_callB cr_signsL rfl mS (by decide +kernel) (pa_cons (pv 5) pa_nil)) (pe_callB cr_signsL rfl mS (by decide +kernel) (pa_cons (pv 6) pa_nil)) (nomark _))
              (pw_and1 (pt_val (pe_callB (cr_all rfl) rfl mA (by decide +kernel) (pa_cons (pe_lc (own := [("more", 7)]) (g := gName 7) (tt := tYes) rfl nd (pi_list (pv 5)) (blkOk_by (N := ["told", "one", "other", "found", "sign", "needs", "wants", "more"]) (sc := defScope sCommonOf) (by decide +kernel)) (fun _ _ _ _ _ => pg_name (i := 7) nd rfl (Or.inl rfl)) (fun _ _ _ _ _ => pts_nil) (fun _ _ _ _ _ => pe_cmpR op_in_sign (pv 7) (pv 3) rfl)) pa_nil))))))
            (pss_one (ps_set (i := 3) nd rfl (.inr rfl) (pe_op op_add_str (pv 3) (pv 4)))) pss_nil)))) pss_nil)))
      (pss_one (ps_ret (pe_cl cL hr rfl (pa_cons (pv 0) (pa_cons (pv 3) pa_nil)))))), ?_⟩
    have lx := kx.len
    have ly := ky.len
    have big : 100 ≤ sizeLine := by decide
    obtain ⟨kvs, hd, hF⟩ := id hT
    refine ⟨_, rfl, _, rfl, ?_⟩
    refine for_gen (over_str x H) (fun i σ H2 => ∃ v4 v5 v6, σ = [some (.ref d), some (.str (S x)), some (.str (S y)), some (.str (S ((x.take i).foldl (turnP (FF ps) x y) []))), v4, v5, v6, none] ∧ ((x.take i).foldl (turnP (FF ps) x y) []).length ≤ i ∧ Same H H2) ⟨none, none, none, ?_, Nat.le_refl _, Same.refl _⟩ (fun i σ H2 ⟨_, _, _, _, _, h⟩ => h) ?_ ?_
    · show _ = [some (V.ref d), some (.str (S x)), some (.str (S y)), some (.str (S [])), none, none, none, none]
      rw [← S_nil]
      rfl
    · rintro i z σ H2 H3 hi ⟨v4, v5, v6, rfl, hl, s2⟩ s3 ⟨c, hc, rfl⟩
      have cx : c ∈ x := List.mem_of_getElem? hc
      have s23 := s2.trans s3
      have stp : (x.take (i + 1)).foldl (turnP (FF ps) x y) [] = turnP (FF ps) x y ((x.take i).foldl (turnP (FF ps) x y) []) c := by
        rw [List.take_add_one, hc, Option.toList_some, List.foldl_append]
        rfl
      have hl2 := turnP_len (FF ps) x y ((x.take i).foldl (turnP (FF ps) x y) []) c
      rw [stp]
      generalize (x.take i).foldl (turnP (FF ps) x y) [] = f at hl hl2
      refine ⟨_, rfl, _, rfl, _, _, rfl, rfl, _, rfl, ?_⟩
      rw [S_list]
      by_cases cy : c ∈ y
      · refine dT cy ?_
        have uc := kx.mem c cx
        obtain ⟨fl, g1, g2⟩ := hF c uc
        have lax : (ahd x c).length ≤ 7 := Nat.le_trans (List.takeWhile_sublist _).length_le (Nat.le_trans lx h7)
        have lay : (ahd y c).length ≤ 7 := Nat.le_trans (List.takeWhile_sublist _).length_le (Nat.le_trans ly h7)
        have test : ∀ q, decide (q ∈ fl) = FF ps c q := fun q => by rw [Bool.eq_iff_iff, decide_eq_true_iff]; exact g2 q
        refine ⟨x, c, rfl, rfl, cx, by omega, _, rfl, fun D nD => lc_gen (over_str (ahd x c) H3) (fun i => (ahd x c)[i]?.bind fun q => if FF ps c q = true then some (.str (S [q])) else none) nD (by omega) ?_ ?_⟩
        · rintro j z H' Nx hj sH ⟨q, hq, rfl⟩ kN
          refine ⟨rfl, ?_⟩
          refine ⟨_, rfl, _, rfl, _, rfl, _, _, rfl, dget_of (k := Sum.inr (S [c])) (sH _ _ (s23 _ _ hd)) g1, _, _, rfl, rfl, _, rfl, ?_⟩
          rw [S_list, test q]
          have kN := kN H' (Same.refl _)
          rw [hq] at kN
          by_cases e : FF ps c q = true
          · refine ifT e ?_
            refine ⟨_, rfl, ?_⟩
            simpa [e] using kN
          · refine ifF (by simpa using e) ?_
            simpa [e] using kN
        · intro H4 s4 hD
          rw [made_filter] at hD
          have s24 := s23.trans s4
          have nx1 : (nds (FF ps) x c).length ≤ 7 := Nat.le_trans (List.length_filter_le _ _) lax
          have ny1 : (nds (FF ps) y c).length ≤ 7 := Nat.le_trans (List.length_filter_le _ _) lay
          have ndx : (nds (FF ps) x c).Nodup := nds_nodup kx.isK.nd
          have ndy : (nds (FF ps) y c).Nodup := nds_nodup ky.isK.nd
          have hD : H4 D = some (.lst ((nds (FF ps) x c).map fun c => .str (S [c]))) := hD
          refine ⟨y, c, rfl, rfl, cy, by omega, _, rfl, fun D2 nD2 => lc_gen (over_str (ahd y c) H4) (fun i => (ahd y c)[i]?.bind fun q => if FF ps c q = true then some (.str (S [q])) else none) nD2 (by omega) ?_ ?_⟩
          · rintro j z H' Nx hj sH ⟨q, hq, rfl⟩ kN
            refine ⟨rfl, ?_⟩
            refine ⟨_, rfl, _, rfl, _, rfl, _, _, rfl, dget_of (k := Sum.inr (S [c])) (sH _ _ (s24 _ _ hd)) g1, _, _, rfl, rfl, _, rfl, ?_⟩
            rw [S_list, test q]
            have kN := kN H' (Same.refl _)
            rw [hq] at kN
            by_cases e : FF ps c q = true
            · refine ifT e ?_
              refine ⟨_, rfl, ?_⟩
              simpa [e] using kN
            · refine ifF (by simpa using e) ?_
              simpa [e] using kN
          · intro H5 s5 hD2
            rw [made_filter] at hD2
            have s25 := s24.trans s5
            have hD2 : H5 D2 = some (.lst ((nds (FF ps) y c).map fun c => .str (S [c]))) := hD2
            have hD1 := s5 _ _ hD
            have cod : ∀ l : List Nat, (∀ q ∈ sortN l, q < 200) → True := fun _ _ => trivial
            have c1 : ∀ q ∈ sortN (nds (FF ps) x c), q < 200 := fun q hq => by
              have h1 := (sortN_perm _).mem_iff.mp hq
              have h2 := kx.mem q ((List.takeWhile_sublist _).subset (List.mem_filter.mp h1).1)
              have := mem_letters.mp h2
              omega
            have c2 : ∀ q ∈ sortN (nds (FF ps) y c), q < 200 := fun q hq => by
              have h1 := (sortN_perm _).mem_iff.mp hq
              have h2 := ky.mem q ((List.takeWhile_sublist _).subset (List.mem_filter.mp h1).1)
              have := mem_letters.mp h2
              omega
            refine ⟨_, rfl, D, _, rfl, hD1, by omega, fun p1 np1 => ?_⟩
            have t1 := same_upd (o := .lst ((sortN (nds (FF ps) x c)).map fun c => .str (S [c]))) np1
            refine ⟨_, rfl, D2, _, rfl, t1 _ _ hD2, by omega, fun p2 np2 => ?_⟩
            have t2 := same_upd (o := .lst ((sortN (nds (FF ps) y c)).map fun c => .str (S [c]))) np2
            refine ⟨_, _, .lst (SqL.of (t2 _ _ upd_same)) (dp_signs _), .lst (SqL.of upd_same) (dp_signs _), shaped_list c1, shaped_list c2, _, rfl, ?_⟩
            have ee : PyData.eqv (.list ((sortN (nds (FF ps) x c)).map fun c => .str (S [c]))) (.list ((sortN (nds (FF ps) y c)).map fun c => .str (S [c]))) = (((nds (FF ps) x c).all fun q => decide (q ∈ nds (FF ps) y c)) && (nds (FF ps) y c).all fun q => decide (q ∈ nds (FF ps) x c)) := (eqv_signs _ _).trans (same_iff ndx ndy)
            rw [ee]
            cases eb : ((nds (FF ps) x c).all fun q => decide (q ∈ nds (FF ps) y c)) && (nds (FF ps) y c).all fun q => decide (q ∈ nds (FF ps) x c) with
            | false =>
              refine iteF ?_
              have ef : turnP (FF ps) x y f c = f := by rw [turnP, if_pos cy, eb]; rfl
              rw [ef]
              exact ⟨_, _, _, rfl, by omega, (s25.trans t1).trans t2⟩
            | true =>
              refine iteT ?_
              have s27 := (s25.trans t1).trans t2
              have hD3 := (t1.trans t2) _ _ hD1
              generalize hN : nds (FF ps) x c = N at hD3 nx1 eb s27
              refine ⟨_, rfl, D, rfl, ⟨_, SqL.of hD3⟩, fun D3 nD3 => lc_all (over_list hD3) (fun j => (N[j]?.map fun q => V.bl (decide (q ∈ f))).getD .non) nD3 (by rw [List.length_map]; omega) ?_ ?_⟩
              · rintro j z H' Nx hj sH hq kN
                rw [List.getElem?_map] at hq
                cases e : N[j]? with
                | none => rw [e] at hq; cases hq
                | some q =>
                  rw [e] at hq
                  cases hq
                  refine ⟨rfl, _, rfl, _, rfl, _, _, rfl, rfl, ?_⟩
                  rw [S_list]
                  have kN := kN H' (Same.refl _)
                  rw [e] at kN
                  exact kN
              · intro H6 s6 hD6
                rw [List.length_map, range_get] at hD6
                have hb : (N.map fun q => V.bl (decide (q ∈ f))) = (N.map fun q => decide (q ∈ f)).map V.bl := by rw [List.map_map]; rfl
                rw [hb] at hD6
                refine ⟨_, _, rfl, SqL.of hD6, _, rfl, ?_⟩
                have ea : (N.map fun q => decide (q ∈ f)).all id = N.all fun q => decide (q ∈ f) := by rw [List.all_map]; rfl
                rw [ea]
                cases eN : N.all fun q => decide (q ∈ f) with
                | true =>
                  refine iteT ?_
                  have ef : turnP (FF ps) x y f c = f ++ [c] := by rw [turnP, if_pos cy, hN, eb, eN]; rfl
                  rw [ef] at hl2 ⊢
                  refine ⟨_, rfl, _, rfl, _, _, rfl, rfl, by rw [S_len, S_len]; show f.length + 1 ≤ _; omega, ?_⟩
                  rw [S_app]
                  exact ⟨_, _, _, rfl, by rw [List.length_append]; show f.length + 1 ≤ _; omega, s27.trans s6⟩
                | false =>
                  refine iteF ?_
                  have ef : turnP (FF ps) x y f c = f := by rw [turnP, if_pos cy, hN, eb, eN]; rfl
                  rw [ef]
                  exact ⟨_, _, _, rfl, by omega, s27.trans s6⟩
      · refine dF cy ?_
        have ef : turnP (FF ps) x y f c = f := by rw [turnP, if_neg cy]
        rw [ef]
        exact ⟨_, _, _, rfl, by omega, s23⟩
    · rintro σ H2 ⟨v4, v5, v6, rfl, hl, s2⟩
      rw [List.take_length]
      obtain ⟨e1, e2, e3, e4⟩ := common_same (FF_comm ps) kx.isK ky.isK
      refine ⟨_, rfl, _, rfl, d, _, FF ps, rfl, (hT.same s2).sub fun q hq => kx.mem q (e3 q hq), e2, ?_, fun H3 s3 => ?_⟩
      · rw [List.take_length] at hl
        exact Nat.le_trans hl (by omega)
      · show Q (.str (S (kd (FF ps) (cmP (FF ps) x y).length (cmP (FF ps) x y)))) H3
        rw [e4]
        exact k H3 (s2.trans s3)
end
end Ow

end OwCommon
section OwBound
set_option linter.all false
set_option maxRecDepth 100000
set_option maxHeartbeats 8000000
namespace Ow
open PySem PySem.Spec PyProof.Rows L2
/-- raise X(): an own exception class, no argument -/
theorem pmk_bare {X : Cx} {C : Addr} {bmB : List Value} {B newId initId : String} {x : Str} {p pos : Pos} (F : ExcBaseFacts B newId initId bmB) (q : PySem.W.excIn X.K C bmB newId = true) (gC : X.mg x = some (.ref C))
    (kC : PySem.W.keepIn X.K (.ref C) = true) (r : Raises X (.ref C)) (hg : Gl X x) (hdb : (x == ("__debug__" : Str)) = false := by decide) :
    PMk X (.Call (.Name x p) [] [] pos) (fun _ H Q => Q (.ref C) none H) := by
  intro pins s σ H Q I h
  refine wpAny_Call_Name_kw (ld_glob I hg gC ?_ hdb)
  refine PySem.W.callWith_K0 I.kIn kC ?_
  show wpAny _ _ (call (.ref C) []) _ _ _
  obtain ⟨bm, N, nm, qn, bs, hdct, sn, sub, ab, col, dd, k0, k1, k2, k3, k5, mN, hC, hN, hni, T⟩ := exc_obj I.kIn q
  refine wpAny_call_exc_subT F T hC hN hni (fun h' e hm => ?_) (by show 0 ≤ sizeLine; omega)
  exact mk_of I hm r h (I.hok.gone hm.new)
def bnd (F : Nat → Nat → Bool) (x y : List Nat) : Option (List Nat) := if kind F (y ++ kind F (x ++ y)) = kind F (x ++ y) then some (kind F (x ++ y)) else none
def bndAll (F : Nat → Nat → Bool) : List (List Nat) → List Nat → Option (List Nat)
  | [], f => some f
  | k :: r, f => (bnd F f k).bind fun g => bndAll F r g
def oV : Option (List Nat) → V
  | none => .non
  | some l => .str (S l)
def metAll (F : Nat → Nat → Bool) : List (List Nat) → Option (List Nat)
  | [] => none
  | k :: r => some (r.foldl (common F) k)
theorem KO.common {n : Nat} {ps : List (Nat × Nat)} {x y : List Nat} (kx : KO n ps x) (ky : KO n ps y) : KO n ps (common (FF ps) x y) := by
  obtain ⟨e1, e2, e3, e4⟩ := common_same (FF_comm ps) kx.isK ky.isK
  exact KO.kind fun c hc => kx.mem c (e3 c (by rw [e1]; exact hc))
theorem dp_texts {K : PySem.W.Frag} {H : Hp} : ∀ l : List (List Nat), DpAll K H (l.map fun k => .str (S k)) (l.map fun k => .str (S k))
  | [] => .nil
  | c :: r => .cons (.str _) (dp_texts r)
theorem shaped_texts : ∀ l : List (List Nat), (∀ k ∈ l, ∀ c ∈ k, c < 200) → PyData.canLayAll0 (l.map fun k => .str (S k)) = true ∧ PyData.depthAll (l.map fun k => .str (S k)) = 0
  | [], _ => ⟨rfl, rfl⟩
  | k :: r, h => by
    obtain ⟨h1, h2⟩ := shaped_texts r fun x hx => h x (List.mem_cons_of_mem _ hx)
    have hc := h k List.mem_cons_self
    refine ⟨?_, ?_⟩
    · simp only [List.map_cons, PyData.canLayAll0, PyData.canLay0, h1, Bool.and_true]
      show (S k).cps.all (· < 0x110000) = true
      simp only [S, List.all_toArray, List.all_eq_true, decide_eq_true_iff]
      intro c hk
      have := hc c hk
      omega
    · simp only [List.map_cons, PyData.depthAll, PyData.depth, h2]
      rfl
theorem shaped_tup {l : List (List Nat)} (h : ∀ k ∈ l, ∀ c ∈ k, c < 200) : SeqAt.shaped (.tuple (l.map fun k => .str (S k))) = true := by
  obtain ⟨h1, h2⟩ := shaped_texts l h
  unfold SeqAt.shaped
  rw [show PyData.canLay0 (.tuple (l.map fun k => .str (S k))) = true from h1, show PyData.depth (.tuple (l.map fun k => .str (S k))) = 1 by rw [PyData.depth, h2]]
  rfl
theorem KO.code {n : Nat} {ps : List (Nat × Nat)} {k : List Nat} (h : KO n ps k) (h7 : n ≤ 7) : ∀ c ∈ k, c < 200 := fun c hc => by
  have := mem_letters.mp (h.mem c hc)
  omega
section
variable {P : Program} {w : World} {K : PySem.W.Frag} {mg : Str → Option Value} {base : Heap}
theorem scCommonAll : FnScope ["company", "kinds", "told", "found", "kind"] ["company", "kinds"] (defScope sCommonAll) := ⟨rfl, rfl, rfl, by decide +kernel, rfl, by decide +kernel, by decide +kernel⟩
theorem scBoundOf : FnScope ["told", "one", "other", "found"] ["told", "one", "other"] (defScope sBoundOf) := ⟨rfl, rfl, rfl, by decide +kernel, rfl, by decide +kernel, by decide +kernel⟩
theorem scBoundAll : FnScope ["company", "kinds", "told", "found", "kind"] ["company", "kinds"] (defScope sBoundAll) := ⟨rfl, rfl, rfl, by decide +kernel, rfl, by decide +kernel, by decide +kernel⟩
def spBoundOf : Sp := fun vs H Q _ => ∃ (d : Addr) (n : Nat) (ps : List (Nat × Nat)) (x y : List Nat), vs = [.ref d, .str (S x), .str (S y)] ∧ n ≤ 7 ∧ ToldAt H d (FF ps) (letters n) ∧ KO n ps x ∧ KO n ps y ∧ ∀ H', Same H H' → Q (oV (bnd (FF ps) x y)) H'
theorem ok_boundOf {f : Addr} {fd : FuncData} (F : Fun K "bound_of" "bound_of" sBoundOf f fd) (cJ : Cal P w K mg base 2 "joined" ["told", "one", "other"] spJoined) : FnOk P w K mg base CX0 3 f fd ["told", "one", "other"] spBoundOf := by
  refine F.ok scBoundOf (fun vs H Q E h => ?_) (fun cdv A outer s H vs Q E hr h => ?_)
  · obtain ⟨d, n, ps, x, y, rfl, _⟩ := h
    rfl
  · obtain ⟨d, n, ps, x, y, rfl, h7, hT, kx, ky, k⟩ := h
    have nd := scBoundOf.nd
    refine ⟨_, pss_cons (ps_set (i := 3) nd rfl (.inl rfl) (pe_cl cJ hr rfl (pa_cons (pv 0) (pa_cons (pv 1) (pa_cons (pv 2) pa_nil)))))
      (pss_one (ps_ret (pe_ifExp (pt_cmpR op_eq (pe_cl cJ hr rfl (pa_cons (pv 0) (pa_cons (pv 2) (pa_cons (pv 3) pa_nil)))) (pv 3) (nomark _)) (pv 3) pe_non))), ?_⟩
    have kz : KO n ps (kind (FF ps) (x ++ y)) := KO.kind (kx.app ky)
    refine ⟨_, rfl, _, rfl, _, rfl, d, n, ps, x, y, rfl, h7, hT, kx, ky, fun H2 s2 => ?_⟩
    refine ⟨_, rfl, _, rfl, _, rfl, d, n, ps, y, kind (FF ps) (x ++ y), rfl, h7, hT.same s2, ky, kz, fun H3 s3 => ⟨_, rfl, rfl, _, rfl, ?_⟩⟩
    have k2 := k H3 (s2.trans s3)
    unfold bnd at k2
    by_cases e : kind (FF ps) (y ++ kind (FF ps) (x ++ y)) = kind (FF ps) (x ++ y)
    · rw [if_pos e] at k2
      refine dT (congrArg (fun z => V.str (S z)) e) ?_
      exact ⟨_, rfl, k2⟩
    · rw [if_neg e] at k2
      refine dF (fun z => e (by injection z with z; exact S_inj z)) ?_
      exact k2
def spCommonAll : Sp := fun vs H Q _ => ∃ (a b : Addr) (n : Nat) (ps : List (Nat × Nat)) (ks : List (List Nat)), vs = [.ref a, .ref b] ∧ CoAt H a n ps ∧ Good n ps ∧ KindsAt H b n ps ks ∧ ∀ H', Same H H' → Q (oV (metAll (FF ps) ks)) H'
theorem ok_commonAll {f : Addr} {fd : FuncData} (F : Fun K "common_of_all" "common_of_all" sCommonAll f fd) (cN : Cal P w K mg base 3 "need_company" ["company"] spNeedCo) (cK : Cal P w K mg base 3 "need_kinds" ["company", "kinds"] spNeedKinds)
    (cF : Cal P w K mg base 1 "friends_of_all" ["company"] spFriends) (cC : Cal P w K mg base 2 "common_of" ["told", "one", "other"] spCommonOf) : FnOk P w K mg base CX0 4 f fd ["company", "kinds"] spCommonAll := by
  refine F.ok scCommonAll (fun vs H Q E h => ?_) (fun cdv A outer s H vs Q E hr h => ?_)
  · obtain ⟨a, b, n, ps, ks, rfl, _⟩ := h
    rfl
  · obtain ⟨a, b, n, ps, ks, rfl, hC, hG, hK, k⟩ := h
    have nd := scCommonAll.nd
    refine ⟨_, pss_cons (ps_expr (pe_cl cN hr rfl (pa_cons (pv 0) pa_nil)))
      (pss_cons (ps_expr (pe_cl cK hr rfl (pa_cons (pv 0) (pa_cons (pv 1) pa_nil))))
      (pss_cons (ps_if (pt_cmpR (op_eqD hr.units) (pv 1) (pe_tup pa_nil) (nomark _)) (pss_one (ps_ret pe_non)) pss_nil)
      (pss_cons (ps_par (i := 2) (j := 3) rfl nd rfl rfl (by decide) rfl rfl (pa_cons (pe_cl cF (hr.mono (by decide)) rfl (pa_cons (pv 0) pa_nil)) (pa_cons (pe_ix ix_tup (pv 1) pe_int (fun _ _ => rfl)) pa_nil)) (by rfl))
      (pss_cons (ps_for PassesOwn.never rfl (pi_tup (pe_slice sl_tup (pv 1) (po_some pe_int) po_none)) (pg_name (i := 4) nd rfl (.inl rfl))
        (pss_one (ps_set (i := 3) nd rfl (.inl rfl) (pe_cl cC (hr.mono (by decide)) rfl (pa_cons (pv 2) (pa_cons (pv 3) (pa_cons (pv 4) pa_nil)))))))
      (pss_one (ps_ret (pv 3))))))), ?_⟩
    obtain ⟨k1, k2, k3⟩ := id hK
    refine ⟨_, rfl, a, n, ps, rfl, hC, hG, fun H1 s1 => ?_⟩
    refine ⟨_, rfl, _, rfl, a, b, n, ps, ks, rfl, hC.same s1, hG, hK.same s1, fun H2 s2 => ?_⟩
    have s02 := s1.trans s2
    refine ⟨_, rfl, by decide, fun t nt => ?_⟩
    have st := same_upd (o := .tup []) nt
    have s03 := s02.trans st
    refine ⟨_, _, .tup (SqT.of (s03 _ _ k1)) (dp_texts ks), .tup (SqT.of upd_same) .nil, shaped_tup fun k hk => (k3 k hk).code hG.most, by decide, _, rfl, ?_⟩
    cases ks with
    | nil =>
      refine ifT (by simp [PyData.eqv, PyData.eqvAll]) ?_
      exact k _ s03
    | cons k0 r =>
      refine ifF (by simp [PyData.eqv, PyData.eqvAll]) ?_
      refine ⟨_, rfl, a, n, ps, rfl, hC.same s03, hG, fun H3 d s3 nd3 hT => ?_⟩
      have s04 := s03.trans s3
      refine ⟨_, rfl, _, _, _, _, rfl, rfl, SqT.of (s04 _ _ k1), atI_nat (j := 0) rfl, _, _, rfl, ?_⟩
      refine ⟨_, rfl, _, rfl, b, _, rfl, SqT.of (s04 _ _ k1), ?_, fun p np => ?_⟩
      · rw [show (some (1 : Int)) = some ((1 : Nat) : Int) from rfl, HT.sIx_nat]
        simp
      have ec : cutV ((k0 :: r).map fun k => V.str (S k)) (some 1) none = r.map fun k => .str (S k) := by
        unfold cutV
        rw [show (some (1 : Int)) = some ((1 : Nat) : Int) from rfl, HT.sIx_nat, HT.sIx_none, Nat.min_eq_left (by simp)]
        rw [List.map_cons, List.drop_succ_cons, List.drop_zero, List.take_of_length_le (by simp)]
      rw [ec]
      have sp := same_upd (o := .tup (r.map fun k => .str (S k))) np
      have s05 := s04.trans sp
      refine ⟨p, rfl, ⟨_, SqT.of upd_same⟩, ?_⟩
      refine for_gen (over_tup (xs := r.map fun k => .str (S k)) (H0 := upd H3 p (.tup (r.map fun k => .str (S k)))) upd_same) (fun i σ H2 => ∃ v4, σ = [some (.ref a), some (.ref b), some (.ref d), some (.str (S ((r.take i).foldl (common (FF ps)) k0))), v4] ∧ KO n ps ((r.take i).foldl (common (FF ps)) k0) ∧ Same (upd H3 p (.tup (r.map fun k => .str (S k)))) H2) ⟨none, rfl, k3 k0 List.mem_cons_self, Same.refl _⟩ (fun i σ H2 ⟨_, _, _, h⟩ => h) ?_ ?_
      · rintro i x σ H4 H5 hi ⟨v4, rfl, kf, s4⟩ s5 hx
        rw [List.getElem?_map] at hx
        cases e : r[i]? with
        | none => rw [e] at hx; cases hx
        | some l =>
          rw [e] at hx
          cases hx
          have kl := k3 l (List.mem_cons_of_mem _ (List.mem_of_getElem? e))
          have stp : (r.take (i + 1)).foldl (common (FF ps)) k0 = common (FF ps) ((r.take i).foldl (common (FF ps)) k0) l := by
            rw [List.take_add_one, e, Option.toList_some, List.foldl_append]
            rfl
          rw [stp]
          refine ⟨_, rfl, _, rfl, _, rfl, d, n, ps, _, l, rfl, hG.most, hT.same ((sp.trans s4).trans s5), kf, kl, fun H6 s6 => ?_⟩
          exact ⟨_, rfl, kf.common kl, (s4.trans s5).trans s6⟩
      · rintro σ H4 ⟨v4, rfl, kf, s4⟩
        rw [List.length_map, List.take_length]
        exact ⟨_, rfl, k H4 (s05.trans s4)⟩
def spBoundAll (C : Addr) : Sp := fun vs H Q E => ∃ (a b : Addr) (n : Nat) (ps : List (Nat × Nat)) (ks : List (List Nat)), vs = [.ref a, .ref b] ∧ CoAt H a n ps ∧ Good n ps ∧ KindsAt H b n ps ks ∧ (∀ l H', bndAll (FF ps) ks [] = some l → Same H H' → Q (.str (S l)) H') ∧ ∀ H', bndAll (FF ps) ks [] = none → Same H H' → E (.ref C) none H'
theorem ok_boundAll {f C : Addr} {fd : FuncData} {bmB : List Value} (F : Fun K "bound_of_all" "bound_of_all" sBoundAll f fd) (xF : PySem.W.excIn K C bmB "ValueError.__new__" = true) (hB : ∃ B initId, ExcBaseFacts B "ValueError.__new__" initId bmB) (gF : mg "NoBound" = some (.ref C)) (kF : PySem.W.keepIn K (.ref C) = true) (bF : PySem.W.subIn K (.ref C) (.type "BaseException") = some true) (tF : PySem.W.typeIn K (.ref C) = some (.type "type"))
    (cN : Cal P w K mg base 3 "need_company" ["company"] spNeedCo) (cK : Cal P w K mg base 3 "need_kinds" ["company", "kinds"] spNeedKinds)
    (cF : Cal P w K mg base 1 "friends_of_all" ["company"] spFriends) (cB : Cal P w K mg base 3 "bound_of" ["told", "one", "other"] spBoundOf) : FnOk P w K mg base (L2.CX P w) 4 f fd ["company", "kinds"] (spBoundAll C) := by
  obtain ⟨B, initId, EB⟩ := hB
  refine F.okX scBoundAll (fun vs H Q E h => ?_) (fun cdv A outer s H vs Q E hr h => ?_)
  · obtain ⟨a, b, n, ps, ks, rfl, _⟩ := h
    rfl
  · obtain ⟨a, b, n, ps, ks, rfl, hC, hG, hK, kQ, kE⟩ := h
    have nd := scBoundAll.nd
    refine ⟨_, pss_cons (ps_expr (pe_cl cN hr rfl (pa_cons (pv 0) pa_nil)))
      (pss_cons (ps_expr (pe_cl cK hr rfl (pa_cons (pv 0) (pa_cons (pv 1) pa_nil))))
      (pss_cons (ps_par (i := 2) (j := 3) rfl nd rfl rfl (by decide) rfl rfl (pa_cons (pe_cl cF (hr.mono (by decide)) rfl (pa_cons (pv 0) pa_nil)) (pa_cons pe_str pa_nil)) (by rfl))
      (pss_cons (ps_for (passes_of rfl) rfl (pi_tup (pv 1)) (pg_name (i := 4) nd rfl (.inl rfl))
        (pss_cons (ps_set (i := 3) nd rfl (.inl rfl) (pe_cl cB hr rfl (pa_cons (pv 2) (pa_cons (pv 3) (pa_cons (pv 4) pa_nil)))))
        (pss_one (ps_if (pt_cmpR op_isN (pv 3) pe_non (nomark _)) (pss_one (ps_raise rfl (takes_of rfl rfl rfl rfl) (pmk_bare EB xF gF kF (raises_own bF tF) rfl))) pss_nil))))
      (pss_one (ps_ret (pv 3)))))), ?_⟩
    obtain ⟨k1, k2, k3⟩ := id hK
    refine ⟨_, rfl, a, n, ps, rfl, hC, hG, fun H1 s1 => ?_⟩
    refine ⟨_, rfl, _, rfl, a, b, n, ps, ks, rfl, hC.same s1, hG, hK.same s1, fun H2 s2 => ?_⟩
    have s02 := s1.trans s2
    refine ⟨_, rfl, a, n, ps, rfl, hC.same s02, hG, fun H3 d s3 nd3 hT => ?_⟩
    have s03 := s02.trans s3
    refine ⟨_, _, rfl, ?_⟩
    refine ⟨_, rfl, b, rfl, ⟨_, SqT.of (s03 _ _ k1)⟩, ?_⟩
    refine for_gen (over_tup (s03 _ _ k1)) (fun i σ H4 => ∃ v4 g, σ = [some (.ref a), some (.ref b), some (.ref d), some (.str (S g)), v4] ∧ KO n ps g ∧ bndAll (FF ps) ks [] = bndAll (FF ps) (ks.drop i) g ∧ Same H3 H4) ⟨none, [], ?_, KO.nil, rfl, Same.refl _⟩ (fun i σ H2 ⟨_, _, _, _, _, h⟩ => h) ?_ ?_
    · rw [← S_nil]
      rfl
    · rintro i x σ H4 H5 hi ⟨v4, g, rfl, kg, eq, s4⟩ s5 hx
      rw [List.getElem?_map] at hx
      cases e : ks[i]? with
      | none => rw [e] at hx; cases hx
      | some l =>
        rw [e] at hx
        cases hx
        have kl := k3 l (List.mem_of_getElem? e)
        have ed : ks.drop i = l :: ks.drop (i + 1) := by
          obtain ⟨h1, h2⟩ := List.getElem?_eq_some_iff.mp e
          rw [List.drop_eq_getElem_cons h1, h2]
        refine ⟨_, rfl, _, rfl, _, rfl, d, n, ps, g, l, rfl, hG.most, hT.same (s4.trans s5), kg, kl, fun H6 s6 => ?_⟩
        have s36 := (s4.trans s5).trans s6
        rw [ed] at eq
        have eq : bndAll (FF ps) ks [] = (bnd (FF ps) g l).bind fun g => bndAll (FF ps) (ks.drop (i + 1)) g := eq
        cases eb : bnd (FF ps) g l with
        | none =>
          rw [eb] at eq
          refine ⟨_, rfl, rfl, _, rfl, ?_⟩
          refine ifT (by simp [oV]) ?_
          exact kE H6 eq (s03.trans s36)
        | some g2 =>
          rw [eb] at eq
          refine ⟨_, rfl, rfl, _, rfl, ?_⟩
          refine ifF (by simp [oV]) ?_
          refine ⟨_, g2, rfl, ?_, eq, s36⟩
          unfold bnd at eb
          split at eb
          · cases eb
            exact KO.kind (kg.app kl)
          · cases eb
    · rintro σ H4 ⟨v4, g, rfl, kg, eq, s4⟩
      rw [List.length_map, List.drop_length] at eq
      exact ⟨_, rfl, kQ g H4 eq (s03.trans s4)⟩
end
end Ow

end OwBound
section OwMin
set_option linter.all false
set_option maxRecDepth 100000
set_option maxHeartbeats 4000000
/-! min of a list of alike data, by value. -/
namespace Ow
open PySem PySem.Spec PyProof.Rows L2
def rMinD (K : PySem.W.Frag) : List V → Hp → VK → Prop := fun vs H Q => ∃ (a : Addr) (xs : List V) (d : PyData) (ds : List PyData), vs = [.ref a] ∧ SqL K H a xs ∧ DpAll K H xs (d :: ds) ∧ PySem.W.AlikeAll (d :: ds) ∧ PyData.depthAll (d :: ds) ≤ 60 ∧
  ∀ (i : Nat) v, xs[i]? = some v → (d :: ds)[i]? = some (PySem.W.minD d ds) → Q v H
theorem dpAll_get {K : PySem.W.Frag} {H : Hp} : ∀ {xs : List V} {ds : List PyData} {i : Nat} {v : V}, DpAll K H xs ds → xs[i]? = some v → ∃ d, ds[i]? = some d ∧ Dp K H v d
  | _, _, _, _, .nil, e => by simp at e
  | _, _, 0, _, .cons r _, e => ⟨_, rfl, by simp at e; rw [← e]; exact r⟩
  | _, _, i + 1, _, .cons _ t, e => by
    obtain ⟨d, h1, h2⟩ := dpAll_get (i := i) t (by simpa using e)
    exact ⟨d, by simpa using h1, h2⟩
theorem vals_at : ∀ {xs : List V} {us : List Value} {i : Nat} {u : Value}, Vals xs us → us[i]? = some u → ∃ x, xs[i]? = some x ∧ RelV x u
  | _, _, _, _, .nil, e => by simp at e
  | _, _, 0, _, .cons r _, e => ⟨_, rfl, by simp at e; rw [← e]; exact r⟩
  | _, _, i + 1, _, .cons _ t, e => by
    obtain ⟨y, h1, h2⟩ := vals_at (i := i) t (by simpa using e)
    exact ⟨y, by simpa using h1, h2⟩
theorem cr_minD {X : Cx} (hc : X.calm = true) (hu : X.A.units + 64 < cLine) : CallR X (.builtin "min") (rMinD X.K) := by
  intro pins s σ H vs us Q I r h
  obtain ⟨a, xs, d, ds, rfl, hq, hD, hA, hdep, q⟩ := h
  cases r with
  | cons r rr =>
    cases rr
    cases r
    obtain ⟨its, rv, p, hz⟩ := I.list hq
    obtain ⟨as, rA⟩ := Dp.readsAll I _ _ _ hD rv
    refine PySem.W.min_list_data (I.ok.hd hc) p.isList (show ReadsAll s.heap its.toArray.toList (d :: ds) as from rA) hA (by omega) fun i v h' tk bs hv hr kp => ?_
    have hv' : its[i]? = some v := by simpa using hv
    obtain ⟨y, hy, ry⟩ := vals_at rv hv'
    obtain ⟨e, he, hDe⟩ := dpAll_get hD hy
    obtain ⟨as2, r2⟩ := Dp.reads I e y v hDe ry
    obtain ⟨e1, _⟩ := PyProof.Rows.reads_det (fun b o g _ => kp b o g) r2 hr
    exact ⟨y, H, I.kept (t' := tk) kp, ry, q i y hy (by rw [he, e1])⟩
/-- a comprehension by any word of the turn, the items so far, the heap -/
theorem lc_raw {J : It} {n : Nat} {H1 : Hp} {g : TG} {tt : TT} {te : TE} {vs : List Nat} {σ : L2.St} {D : Addr} {Qd : Hp → Prop} (P : Nat → List V → Hp → Prop) (h0 : P 0 [] (upd H1 D (.lst []))) (hgo : ∀ i acc H, i < n → P i acc H → J.go i H) (hst : ∀ acc H, P n acc H → J.stop n H) (hlen : ∀ i acc H, i < n → P i acc H → acc.length < sizeLine)
    (hs : ∀ i x H H' acc (Nx : Option V → Hp → Prop), i < n → P i acc H → H D = some (.lst acc) → J.yld i H x H' → (∀ y H4, H4 D = some (.lst acc) → P (i + 1) (acc ++ [y]) (upd H4 D (.lst (acc ++ [y]))) → Nx (some y) H4) → (∀ H4, H4 D = some (.lst acc) → P (i + 1) acc H4 → Nx none H4) →
      g x (wipe σ vs) H' fun σ2 H2 => wipe σ2 vs = wipe σ vs ∧ tt σ2 H2 fun b H3 => if b = true then te σ2 H3 fun y H4 => Nx (some y) H4 else Nx none H3)
    (hd : ∀ H acc, P n acc H → H D = some (.lst acc) → Qd H) :
    ∃ W : Nat → Nat → Hp → Prop, (∃ m, W 0 m (upd H1 D (.lst []))) ∧ ∀ i m H, W i m H →
      (J.stop i H ∧ Qd H) ∨ (J.go i H ∧ ∃ Nx : Hp → Prop, (∀ H', Nx H' → ∃ m', m' < m ∧ W (i + 1) m' H') ∧ ∀ x H', J.yld i H x H' → g x (wipe σ vs) H' fun σ2 H2 => wipe σ2 vs = wipe σ vs ∧ tt σ2 H2 fun b H3 =>
        if b = true then te σ2 H3 fun y H4 => ∃ acc, H4 D = some (.lst acc) ∧ acc.length < sizeLine ∧ Nx (upd H4 D (.lst (acc ++ [y]))) else Nx H3) := by
  refine ⟨fun i m H => m = n - i ∧ i ≤ n ∧ ∃ acc, H D = some (.lst acc) ∧ P i acc H, ⟨n, by simp, Nat.zero_le _, [], upd_same, h0⟩, ?_⟩
  rintro i m H ⟨rfl, hi, acc, hD, p⟩
  by_cases hlt : i < n
  · refine .inr ⟨hgo i acc H hlt p, fun H => ∃ acc, H D = some (.lst acc) ∧ P (i + 1) acc H, fun H' p' => ⟨n - (i + 1), by omega, rfl, hlt, p'⟩, fun x H' y => ?_⟩
    refine hs i x H H' acc (fun o H4 => match o with | some y => ∃ acc, H4 D = some (.lst acc) ∧ acc.length < sizeLine ∧ ∃ acc', (upd H4 D (.lst (acc ++ [y]))) D = some (.lst acc') ∧ P (i + 1) acc' (upd H4 D (.lst (acc ++ [y]))) | none => ∃ acc, H4 D = some (.lst acc) ∧ P (i + 1) acc H4) hlt p hD y (fun y H4 e4 p4 => ?_) fun H4 e4 p4 => ⟨acc, e4, p4⟩
    exact ⟨acc, e4, hlen i acc H hlt p, _, upd_same, p4⟩
  · have e : i = n := by omega
    subst e
    exact .inl ⟨hst acc H p, hd H acc p hD⟩
/-- the pairs at these addresses -/
def PrsAt (H : Hp) (ls : List Addr) (ps : List (Int × Int)) : Prop := ls.length = ps.length ∧ ∀ (i : Nat) (t : Addr) (p : Int × Int), ls[i]? = some t → ps[i]? = some p → H t = some (.tup [.int p.1, .int p.2])
theorem prs_dp {K : PySem.W.Frag} {H : Hp} : ∀ {ls : List Addr} {ps : List (Int × Int)}, PrsAt H ls ps → DpAll K H (ls.map V.ref) (ps.map fun p => .tuple [.int p.1, .int p.2])
  | [], [], _ => .nil
  | [], _ :: _, h => absurd h.1 (by simp)
  | _ :: _, [], h => absurd h.1 (by simp)
  | t :: ls, p :: ps, h => .cons (.tup (SqT.of (h.2 0 t p rfl rfl)) (.cons (.int _) (.cons (.int _) .nil))) (prs_dp ⟨by simpa using h.1, fun i t' p' a b => h.2 (i + 1) t' p' (by simpa using a) (by simpa using b)⟩)
theorem prs_depth : ∀ ps : List (Int × Int), PyData.depthAll (ps.map fun p => PyData.tuple [.int p.1, .int p.2]) ≤ 1
  | [] => by simp [PyData.depthAll]
  | p :: r => by
    have := prs_depth r
    simp only [List.map_cons, PyData.depthAll, PyData.depth]
    omega
theorem prs_alike (ps : List (Int × Int)) : PySem.W.AlikeAll (ps.map fun p => PyData.tuple [.int p.1, .int p.2]) := by
  refine ⟨fun x hx y hy => ?_, fun x hx => ?_⟩
  · obtain ⟨p, _, rfl⟩ := List.mem_map.mp hx
    obtain ⟨q, _, rfl⟩ := List.mem_map.mp hy
    rfl
  · obtain ⟨p, _, rfl⟩ := List.mem_map.mp hx
    intro z
    cases z
def plt (p q : Int × Int) : Bool := decide (p.1 < q.1 ∨ (p.1 = q.1 ∧ p.2 < q.2))
def pmin (p : Int × Int) (ps : List (Int × Int)) : Int × Int := ps.foldl (fun a y => if plt y a = true then y else a) p
theorem prs_lt (p q : Int × Int) : PySem.W.dataLt (.tuple [.int p.1, .int p.2]) (.tuple [.int q.1, .int q.2]) = plt p q := by
  rw [PySem.W.dataLt_tuple]
  by_cases e : p.1 = q.1
  · rw [PySem.W.dataLt_all_yes rfl (by simp [PyData.eqv, e])]
    by_cases e2 : p.2 = q.2
    · rw [PySem.W.dataLt_all_yes rfl (by simp [PyData.eqv, e2])]
      simp [plt, e, e2, PyProof.Rows.lexLt, PySem.W.keyToksAll]
      rfl
    · rw [PySem.W.dataLt_all_no rfl (by simp [PyData.eqv, e2]), PySem.W.dataLt_int]
      simp [plt, e]
  · rw [PySem.W.dataLt_all_no rfl (by simp [PyData.eqv, e]), PySem.W.dataLt_int]
    simp [plt, e]
theorem prs_min (p : Int × Int) : ∀ ps : List (Int × Int), PySem.W.minD (.tuple [.int p.1, .int p.2]) (ps.map fun p => PyData.tuple [.int p.1, .int p.2]) = .tuple [.int (pmin p ps).1, .int (pmin p ps).2] := by
  intro ps
  unfold PySem.W.minD pmin
  induction ps generalizing p with
  | nil => rfl
  | cons k r ih =>
    rw [List.map_cons, List.foldl_cons, List.foldl_cons, prs_lt]
    by_cases h : plt k p = true
    · rw [if_pos h, if_pos h]
      exact ih k
    · rw [if_neg h, if_neg h]
      exact ih p
end Ow

end OwMin
section OwMeet
set_option linter.all false
set_option maxRecDepth 100000
set_option maxHeartbeats 8000000
namespace Ow
open PySem PySem.Spec PyProof.Rows L2
theorem plt_tr {a b c : Int × Int} (h1 : plt b a = false) (h2 : plt c b = false) : plt c a = false := by
  simp only [plt, decide_eq_false_iff_not] at *
  omega
theorem plt_irr (a : Int × Int) : plt a a = false := by simp [plt]
theorem plt_asy {a b : Int × Int} (h : plt a b = true) : plt b a = false := by
  simp only [plt, decide_eq_false_iff_not, decide_eq_true_iff] at *
  omega
theorem pmin_is : ∀ (ps : List (Int × Int)) (p : Int × Int), (pmin p ps = p ∨ pmin p ps ∈ ps) ∧ plt p (pmin p ps) = false ∧ ∀ q ∈ ps, plt q (pmin p ps) = false
  | [], p => ⟨.inl rfl, plt_irr p, fun q hq => by simp at hq⟩
  | k :: r, p => by
    have e : pmin p (k :: r) = pmin (if plt k p = true then k else p) r := rfl
    obtain ⟨h1, h2, h3⟩ := pmin_is r (if plt k p = true then k else p)
    rw [e]
    by_cases c : plt k p = true
    · rw [if_pos c] at h1 h2 h3 ⊢
      refine ⟨.inr (h1.elim (fun z => by rw [z]; exact List.mem_cons_self) fun z => List.mem_cons_of_mem _ z), plt_tr h2 (plt_asy c), fun q hq => ?_⟩
      rcases List.mem_cons.mp hq with z | z
      · rw [z]; exact h2
      · exact h3 q z
    · rw [if_neg c] at h1 h2 h3 ⊢
      refine ⟨h1.imp_right fun z => List.mem_cons_of_mem _ z, h2, fun q hq => ?_⟩
      rcases List.mem_cons.mp hq with z | z
      · rw [z]; exact plt_tr h2 (by simpa using c)
      · exact h3 q z
/-- the greatest size, and its first place -/
structure Best (zs : List Nat) (m j : Nat) : Prop where
  at_ : zs[j]? = some m
  top : ∀ z ∈ zs, z ≤ m
  fst : ∀ i, i < j → zs[i]? ≠ some m
def prs (zs : List Nat) : List (Int × Int) := zs.mapIdx fun (i z : Nat) => (-(z : Int), (i : Int))
theorem prs_get {zs : List Nat} {i : Nat} : (prs zs)[i]? = zs[i]?.map fun (z : Nat) => (-(z : Int), (i : Int)) := by
  unfold prs
  rw [List.getElem?_mapIdx]
theorem prs_best {zs : List Nat} {p : Int × Int} {ps : List (Int × Int)} (h : prs zs = p :: ps) : ∃ m j : Nat, pmin p ps = (-(m : Int), (j : Int)) ∧ Best zs m j := by
  obtain ⟨h1, h2, h3⟩ := pmin_is ps p
  have hm : pmin p ps ∈ prs zs := by
    rw [h]
    exact h1.elim (fun z => by rw [z]; exact List.mem_cons_self) fun z => List.mem_cons_of_mem _ z
  have hall : ∀ q ∈ prs zs, plt q (pmin p ps) = false := fun q hq => by
    rw [h] at hq
    rcases List.mem_cons.mp hq with z | z
    · rw [z]; exact h2
    · exact h3 q z
  obtain ⟨j, hj⟩ := List.getElem?_of_mem hm
  rw [prs_get] at hj
  cases e : zs[j]? with
  | none => rw [e] at hj; cases hj
  | some m =>
    rw [e] at hj
    have hj : (-(m : Int), (j : Int)) = pmin p ps := Option.some.inj hj
    rw [← hj] at hall
    have key : ∀ (i z : Nat), zs[i]? = some z → ¬ ((-(z : Int)) < -(m : Int) ∨ (-(z : Int) = -(m : Int) ∧ (i : Int) < (j : Int))) := fun i z hz => by
      have hi : (-(z : Int), (i : Int)) ∈ prs zs := List.mem_of_getElem? (i := i) (by rw [prs_get, hz]; rfl)
      have := hall _ hi
      simpa only [plt, decide_eq_false_iff_not] using this
    refine ⟨m, j, hj.symm, e, fun z hz => ?_, fun i hi q => ?_⟩
    · obtain ⟨i, hi⟩ := List.getElem?_of_mem hz
      have := key i z hi
      omega
    · have := key i m q
      omega
theorem best_uniq {zs : List Nat} {m j m' j' : Nat} (h : Best zs m j) (h' : Best zs m' j') : m = m' ∧ j = j' := by
  have e : m = m' := Nat.le_antisymm (h'.top m (List.mem_of_getElem? h.at_)) (h.top m' (List.mem_of_getElem? h'.at_))
  subst e
  refine ⟨rfl, ?_⟩
  rcases Nat.lt_trichotomy j j' with q | q | q
  · exact absurd h.at_ (h'.fst j q)
  · exact q
  · exact absurd h'.at_ (h.fst j' q)
theorem prs_lay : ∀ ps : List (Int × Int), PyData.canLayAll0 (ps.map fun p => PyData.tuple [.int p.1, .int p.2]) = true
  | [] => rfl
  | p :: r => by
    simp only [List.map_cons, PyData.canLayAll0, PyData.canLay0, prs_lay r]
    rfl
theorem prs_shaped (ps : List (Int × Int)) : SeqAt.shaped (.list (ps.map fun p => PyData.tuple [.int p.1, .int p.2])) = true := by
  unfold SeqAt.shaped
  have h := prs_depth ps
  rw [show PyData.canLay0 (.list (ps.map fun p => PyData.tuple [.int p.1, .int p.2])) = true from prs_lay ps, Bool.true_and, decide_eq_true_iff, PyData.depth]
  omega
def sizes (F : Nat → Nat → Bool) (x : List Nat) (ks : List (List Nat)) : List Nat := ks.map fun k => (common F x k).length
section
variable {P : Program} {w : World} {K : PySem.W.Frag} {mg : Str → Option Value} {base : Heap}
theorem scGreatest : FnScope ["company", "one", "kinds", "told", "some", "index", "kind"] ["company", "one", "kinds"] (defScope sGreatest) := ⟨rfl, rfl, rfl, by decide +kernel, rfl, by decide +kernel, by decide +kernel⟩
def spGreatest : Sp := fun vs H Q _ => ∃ (a b : Addr) (n : Nat) (ps : List (Nat × Nat)) (x : List Nat) (ks : List (List Nat)), vs = [.ref a, .str (S x), .ref b] ∧ CoAt H a n ps ∧ Good n ps ∧ KO n ps x ∧ KindsAt H b n ps ks ∧ (ks = [] → ∀ H', Same H H' → Q .non H') ∧
  ∀ (m j : Nat) (p : Addr) H', Best (sizes (FF ps) x ks) m j → Same H H' → H p = none → H' p = some (.tup [.int m, .int j]) → Q (.ref p) H'
theorem ok_greatest {f : Addr} {fd : FuncData} (F : Fun K "greatest_meet" "greatest_meet" sGreatest f fd) (mE : mg "enumerate" = none) (mM : mg "min" = none) (mL : mg "len" = none) (cN : Cal P w K mg base 3 "need_company" ["company"] spNeedCo) (cO : Cal P w K mg base 3 "need_kind" ["company", "kind"] spNeedKind) (cK : Cal P w K mg base 3 "need_kinds" ["company", "kinds"] spNeedKinds)
    (cF : Cal P w K mg base 1 "friends_of_all" ["company"] spFriends) (cC : Cal P w K mg base 2 "common_of" ["told", "one", "other"] spCommonOf) : FnOk P w K mg base CX0 4 f fd ["company", "one", "kinds"] spGreatest := by
  refine F.ok scGreatest (fun vs H Q E h => ?_) (fun cdv A outer s H vs Q E hr h => ?_)
  · obtain ⟨a, b, n, ps, x, ks, rfl, _⟩ := h
    rfl
  · obtain ⟨a, b, n, ps, x, ks, rfl, hC, hG, hX, hK, k0, k⟩ := h
    have nd := scGreatest.nd
    refine ⟨_, pss_cons (ps_expr (pe_cl cN hr rfl (pa_cons (pv 0) pa_nil)))
      (pss_cons (ps_expr (pe_cl cO hr rfl (pa_cons (pv 0) (pa_cons (pv 1) pa_nil))))
      (pss_cons (ps_expr (pe_cl cK hr rfl (pa_cons (pv 0) (pa_cons (pv 2) pa_nil))))
      (pss_cons (ps_set (i := 3) nd rfl (.inr rfl) (pe_cl cF (hr.mono (by decide)) rfl (pa_cons (pv 0) pa_nil)))
      (pss_cons (ps_setLc (i := 4) (own := [("index", 5), ("kind", 6)]) (tt := tYes) rfl nd rfl rfl (sw_true rfl rfl rfl (by decide +kernel)) (pi_et rfl mE (pa_cons (pv 2) pa_nil)) (blkOk_by (N := ["company", "one", "kinds", "told", "some", "index", "kind"]) (sc := defScope sGreatest) (by decide +kernel)) (g := gTup K 2 (gCons (gName 5) (gCons (gName 6) gNil))) (fun _ _ _ _ _ => pg_tup rfl (pgs_cons (pg_name (i := 5) nd rfl (.inl rfl)) (pgs_cons (pg_name (i := 6) nd rfl (.inl rfl)) pgs_nil))) (fun _ _ _ _ _ => pts_nil)
        (fun _ _ _ _ _ => pe_tup (pa_cons (pe_un un_neg (pe_callB call_len_str rfl mL PySem.boot_len (pa_cons (pe_cl cC (hr.mono (by decide)) rfl (pa_cons (pv 3) (pa_cons (pv 1) (pa_cons (pv 6) pa_nil)))) pa_nil))) (pa_cons (pv 5) pa_nil))))
      (pss_one (ps_ret (pe_ifExp (pt_cmpR (op_neD hr.units) (pv 4) (pe_lst pa_nil) (nomark _)) (pe_tup (pa_cons (pe_un un_neg (pe_ix ix_tup (pe_callB (cr_minD rfl hr.units) rfl mM (by decide +kernel) (pa_cons (pv 4) pa_nil)) pe_int (fun _ _ => rfl))) (pa_cons (pe_ix ix_tup (pe_callB (cr_minD rfl hr.units) rfl mM (by decide +kernel) (pa_cons (pv 4) pa_nil)) pe_int (fun _ _ => rfl)) pa_nil))) pe_non))))))), ?_⟩
    obtain ⟨k1, k2, k3⟩ := id hK
    refine ⟨_, rfl, a, n, ps, rfl, hC, hG, fun H1 s1 => ?_⟩
    refine ⟨_, rfl, _, rfl, a, n, ps, x, rfl, hC.same s1, hG, hX, fun H2 s2 => ?_⟩
    have s02 := s1.trans s2
    refine ⟨_, rfl, _, rfl, a, b, n, ps, ks, rfl, hC.same s02, hG, hK.same s02, fun H3 s3 => ?_⟩
    have s03 := s02.trans s3
    refine ⟨_, rfl, a, n, ps, rfl, hC.same s03, hG, fun H4 d s4 nd4 hT => ?_⟩
    have s04 := s03.trans s4
    have hKs := s04 _ _ k1
    have O := over_et (K := K) hKs
    have fewk : (ks.map fun k => V.str (S k)).length = ks.length := List.length_map ..
    rw [fewk] at O
    refine ⟨_, rfl, b, _, rfl, SqT.of hKs, fun D nD => lc_raw (n := ks.length) (fun i acc H5 => Same H4 H5 ∧ ∃ ls, acc = ls.map V.ref ∧ PrsAt H5 ls ((prs (sizes (FF ps) x ks)).take i)) ⟨same_upd nD, [], rfl, by simp, fun i t p h => by simp at h⟩ (fun i acc H5 hi h => O.go i H5 h.1 hi) (fun acc H5 h => O.stop H5 h.1) (fun i acc H5 hi h => ?_) ?_ ?_⟩
    · obtain ⟨_, ls, rfl, h, _⟩ := h
      rw [List.length_map, h, List.length_take]
      have : 100 ≤ sizeLine := by decide
      omega
    · rintro i z H5 H6 acc Nx hi ⟨s5, ls, rfl, hl, hp⟩ hD hy kS kN
      obtain ⟨s6, T, y, rfl, hT2, hy2⟩ := O.yld i H5 z H6 s5 hi hy
      rw [List.getElem?_map] at hy2
      cases e : ks[i]? with
      | none => rw [e] at hy2; cases hy2
      | some l =>
        rw [e] at hy2
        cases hy2
        have kl := k3 l (List.mem_of_getElem? e)
        have s46 := s5.trans s6
        refine ⟨_, _, rfl, SqT.of hT2, rfl, ?_⟩
        refine ⟨_, _, rfl, _, _, rfl, rfl, ?_⟩
        refine ⟨rfl, ?_⟩
        refine ⟨_, rfl, _, rfl, _, rfl, d, n, ps, x, l, rfl, hG.most, hT.same s46, hX, kl, fun H7 s7 => ⟨_, rfl, small (hX.common kl).len (Nat.le_trans hG.most (by decide)), _, rfl, _, rfl, (by show 2 ≤ sizeLine; decide), fun t nt => ?_⟩⟩
        have s57 := s6.trans s7
        have st := same_upd (o := .tup [.int (-((S (common (FF ps) x l)).length : Int)), .int (i : Nat)]) nt
        refine kS _ _ ((s57.trans st) _ _ hD) ⟨?_, ls ++ [t], by rw [List.map_append]; rfl, ?_, fun j u p hj hjp => ?_⟩
        · exact same_put nD ((s5.trans s57).trans st)
        · have hz : i < (prs (sizes (FF ps) x ks)).length := by simp [prs, sizes, hi]
          rw [List.length_append, hl, List.length_take, List.length_take]
          show min i _ + 1 = _
          omega
        · have eg : (prs (sizes (FF ps) x ks))[i]? = some (-((common (FF ps) x l).length : Int), (i : Int)) := by
            rw [prs_get]
            unfold sizes
            rw [List.getElem?_map, e]
            rfl
          have lsi : ls.length = i := by
            have hz : i < (prs (sizes (FF ps) x ks)).length := by simp [prs, sizes, hi]
            rw [hl, List.length_take]
            omega
          have hh : (upd H7 t (.tup [.int (-((S (common (FF ps) x l)).length : Int)), .int (i : Nat)])) u = some (.tup [.int p.1, .int p.2]) := by
            by_cases q : j < i
            · rw [List.getElem?_append_left (by omega)] at hj
              refine (s57.trans st) _ _ (hp j u p hj ?_)
              rw [List.getElem?_take_of_lt (by omega)] at hjp ⊢
              exact hjp
            · have ej : j = i := by
                have := (List.getElem?_eq_some_iff.mp hj).1
                rw [List.length_append, lsi] at this
                have h3 : ([t] : List Addr).length = 1 := rfl
                omega
              subst ej
              rw [List.getElem?_append_right (by omega), lsi] at hj
              simp at hj
              rw [List.getElem?_take_of_lt (by omega), eg] at hjp
              cases hjp
              rw [← hj, upd_same, S_len]
          have neD : u ≠ D := ne_of hh ((s57.trans st) _ _ hD) (by intro z; cases z)
          rw [upd_ne neD]
          exact hh
    · rintro H5 acc ⟨s5, ls, rfl, hp⟩ hD
      have ez : ks.length = (prs (sizes (FF ps) x ks)).length := by simp [prs, sizes]
      rw [ez, List.take_length] at hp
      refine ⟨_, rfl, by decide, fun q nq => ?_⟩
      have sq := same_upd (o := .lst []) nq
      have hD2 := sq _ _ hD
      have hp2 : PrsAt (upd H5 q (.lst [])) ls (prs (sizes (FF ps) x ks)) := ⟨hp.1, fun i t p a b => sq _ _ (hp.2 i t p a b)⟩
      refine ⟨_, _, .lst (SqL.of hD2) (prs_dp hp2), .lst (SqL.of upd_same) .nil, prs_shaped _, by decide, _, rfl, ?_⟩
      have s6 := (s04.trans s5).trans sq
      cases eP : prs (sizes (FF ps) x ks) with
      | nil =>
        refine ifF (by simp [PyData.eqv, PyData.eqvAll]) ?_
        refine k0 ?_ _ s6
        rw [eP] at ez
        exact List.eq_nil_of_length_eq_zero ez
      | cons p0 pr =>
        obtain ⟨m, j, em, hB⟩ := prs_best eP
        refine ifT (by simp [PyData.eqv, PyData.eqvAll]) ?_
        rw [eP] at hp2
        have dD := prs_dp (K := K) hp2
        have dd : PyData.depthAll ((p0 :: pr).map fun p => PyData.tuple [.int p.1, .int p.2]) ≤ 60 := Nat.le_trans (prs_depth _) (by decide)
        have pick : ∀ (i : Nat) (v : V), (ls.map V.ref)[i]? = some v → ((p0 :: pr).map fun p => PyData.tuple [.int p.1, .int p.2])[i]? = some (PySem.W.minD (.tuple [.int p0.1, .int p0.2]) (pr.map fun p => .tuple [.int p.1, .int p.2])) → ∃ t, v = .ref t ∧ (upd H5 q (.lst [])) t = some (.tup [.int (-(m : Int)), .int (j : Nat)]) := fun i v hv hm => by
          rw [prs_min, em, List.getElem?_map] at hm
          rw [List.getElem?_map] at hv
          cases e1 : ls[i]? with
          | none => rw [e1] at hv; cases hv
          | some t =>
            rw [e1] at hv
            cases hv
            cases e2 : (p0 :: pr)[i]? with
            | none => rw [e2] at hm; cases hm
            | some p =>
              rw [e2] at hm
              have hm := Option.some.inj hm
              refine ⟨t, rfl, ?_⟩
              rw [hp2.2 i t p e1 e2]
              injection hm with hm
              injection hm with ha hb
              injection ha with ha
              injection hb with hb
              injection hb with hb
              rw [ha, hb]
        refine ⟨_, rfl, D, _, _, _, rfl, SqL.of hD2, dD, prs_alike (p0 :: pr), dd, fun i v hv hm => ?_⟩
        obtain ⟨t, rfl, ht⟩ := pick i v hv hm
        refine ⟨_, _, _, _, rfl, rfl, SqT.of ht, atI_nat (j := 0) rfl, _, rfl, ?_⟩
        refine ⟨_, rfl, D, _, _, _, rfl, SqL.of hD2, dD, prs_alike (p0 :: pr), dd, fun i2 v2 hv2 hm2 => ?_⟩
        obtain ⟨t2, rfl, ht2⟩ := pick i2 v2 hv2 hm2
        refine ⟨_, _, _, _, rfl, rfl, SqT.of ht2, atI_nat (j := 1) rfl, (by show 2 ≤ sizeLine; decide), fun r nr => ?_⟩
        refine k m j r _ hB (s6.trans (same_upd nr)) (s6.free nr) ?_
        rw [upd_same]
        show some (HO.tup [V.int (- -(m : Int)), V.int j]) = _
        rw [Int.neg_neg]
end
end Ow

end OwMeet
section OwLam
set_option linter.all false
set_option maxRecDepth 100000
set_option maxHeartbeats 4000000
/-! The lambda some: (len(some), some), called with a text. -/
namespace Ow
open PySem PySem.Spec PyProof.Rows L2
abbrev lamPs (q : Pos) : Arguments := { posonlyargs := [], args := [{ arg := "some", annotation := none, pos := q }], vararg := none, kwonlyargs := [], kw_defaults := [], kwarg := none, defaults := [] }
abbrev lamBd (p1 p2 p3 p4 p5 : Pos) : Expr := .Tuple [.Call (.Name "len" p1) [.Name "some" p2] [] p3, .Name "some" p4] 0 p5
abbrev lamSc : Scope := { kind := .function, names := [("some", .local), ("len", .globalImplicit)], isGenerator := false, isCoroutine := false, more := [] }
theorem lam_turn {P : Program} {w : World} {K : PySem.W.Frag} {mg : Str → Option Value} {base : Heap} (M : Mod K mg base) (mL : mg "len" = none) {s : Shared} {A : Around} (hA : A.depth < recursionLimit) {f c' : Addr} {qual : Str} {pm ctv : Value} {q p1 p2 p3 p4 p5 : Pos}
    (kb : ∀ b o, base.get? b = some o → s.heap.get? b = some o) (hf : s.heap.get? f = some (PySem.W.kla_obj "<lambda>" qual (lamPs q) (lamBd p1 p2 p3 p4 p5) lamSc [] pm c' ctv)) (hcd : s.heap.CodeRec (.ref c') qual) {z : Str} {t : Tok} (hz : z.length ≤ sizeLine) :
    wpAny (model P w) A (call (.ref f) [.str z t]) (PySem.W.KeyPure (.tuple [.int z.length, .str z]) s) (fun _ _ => False) s := by
  refine wpAny_call ?_
  refine PySem.W.kla_callFunE hA hf rfl rfl rfl rfl hcd ?_
  have hb : bindArgs (PySem.W.kla_fn "<lambda>" qual (lamPs q) (lamBd p1 p2 p3 p4 p5) lamSc [] pm (.ref c') ctv) ⟨[Value.str z t], []⟩ = pure [(("some" : Str), Value.str z t)] := rfl
  rw [hb]
  refine wpAny_pure (wpAny_newFunctionEnv (show ∀ x ∈ lamSc.names, x.2 ≠ .cell by decide) (fun x hx => by rw [List.mem_singleton.mp hx]; rfl) (fun h₁ hns hsb => ⟨?_, ?_⟩) rfl)
  · exact ((M.nolimit).keeps kb).fresh _ hsb
  have hk₁ : ∀ b o, s.heap.get? b = some o → h₁.get? b = some o := fun b o e => hsb.extBut b o (Nat.ne_of_lt (Heap.lt_size e)) (Heap.get?_push_of_some _ e)
  show codeAny _ _ (.expr (lamBd p1 p2 p3 p4 p5) (PySem.W.envX qual lamSc s.heap.objs.size f (.ref c') [])) _ _
  refine PySem.W.kla_codeExpr ?_
  generalize hs1 : ({ s with heap := h₁, toks := s.toks + ([(("some" : Str), Value.str z t)] : List (Str × Value)).length } : Shared) = s1
  have e1 : s1.heap = h₁ := by rw [← hs1]
  have nm : s1.heap.Ns s.heap.objs.size fun x => ([(("some" : Str), Value.str z t)] : List (Str × Value)).reverse.lookup x := by rw [e1]; exact hns
  have k1 : ∀ b o, base.get? b = some o → s1.heap.get? b = some o := fun b o e => by rw [e1]; exact hk₁ _ _ (kb _ _ e)
  obtain ⟨mb, b1, b2⟩ := M.blt
  have some_ : ∀ (A' : Around) (pos : Pos) (s2 : Shared) (Q E : Value → Shared → Prop), s2.heap.Ns s.heap.objs.size (fun x => ([(("some" : Str), Value.str z t)] : List (Str × Value)).reverse.lookup x) → Q (.str z t) s2 →
      wpAny (model P w) A' (eval (.Name "some" pos) (PySem.W.envX qual lamSc s.heap.objs.size f (.ref c') [])) Q E s2 := fun A' pos s2 Q E hn hq =>
    wpAny_Name (wpAny_loadName_local rfl rfl hn rfl hq) (by decide)
  refine Tuple_ ?_
  have hst : starEach [.Call (.Name "len" p1) [.Name "some" p2] [] p3, .Name "some" p4] (PySem.W.envX qual lamSc s.heap.objs.size f (.ref c') []) = [(false, eval (.Call (.Name "len" p1) [.Name "some" p2] [] p3) (PySem.W.envX qual lamSc s.heap.objs.size f (.ref c') [])), (false, eval (.Name "some" p4) (PySem.W.envX qual lamSc s.heap.objs.size f (.ref c') []))] := rfl
  have hst2 : backTo p5 (starEach [.Call (.Name "len" p1) [.Name "some" p2] [] p3, .Name "some" p4] (PySem.W.envX qual lamSc s.heap.objs.size f (.ref c') [])) = (false, eval (.Call (.Name "len" p1) [.Name "some" p2] [] p3) (PySem.W.envX qual lamSc s.heap.objs.size f (.ref c') [])) :: [(false, eval (.Name "some" p4) (PySem.W.envX qual lamSc s.heap.objs.size f (.ref c') []))] := by rw [hst] <;> rfl
  first | rw [hst2] | rw [hst]
  refine Calls.spliced_cons (wpAny_Call_Name_kw (Calls.Name_function_global rfl rfl (Calls.loadGlobal_builtin (M.glob.keeps k1) mL (b1.keeps k1) ((b2 "len" (by decide)).trans PySem.boot_len) ?_) (by decide)))
  refine PyProof.Rows.callWith_builtin1 ?_ rfl rfl
  refine Calls.spliced_cons (some_ _ _ _ _ _ nm (Calls.spliced_nil ?_))
  have hl : sizeLine = 16777216 := sizeLine_eq
  refine len_str (by omega) ?_
  refine Calls.spliced_cons (some_ _ _ _ _ _ nm (Calls.spliced_nil ?_))
  refine wpAny_newObj_type ?_ (by show 2 ≤ sizeLine; decide)
  have hk2 : ∀ b o, s.heap.get? b = some o → s1.heap.get? b = some o := fun b o e => by rw [e1]; exact hk₁ b o e
  subst hs1
  refine ⟨_, _, rfl, fun b o e => Heap.get?_push_of_some _ (hk2 b o e), ?_⟩
  exact Reads.tuple (Heap.get?_push_size _ rfl) rfl rfl (ReadsAll.cons (as := []) (bs := []) (Reads.int _ _) (ReadsAll.cons (as := []) (bs := []) (Reads.str _ _) .nil))
end Ow

end OwLam
section OwSortL
set_option linter.all false
set_option maxRecDepth 100000
set_option maxHeartbeats 4000000
/-! sorted(a dict with text keys, key=that lambda). -/
namespace Ow
open PySem PySem.Spec PyProof.Rows L2
def lenKey (k : List Nat) : PyData := .tuple [.int ((S k).length : Nat), .str (S k)]
def sortK (ks : List (List Nat)) : List (List Nat) := ks.mergeSort (PySem.W.dataLe false lenKey)
theorem lenKey_alike (a b : List Nat) : PySem.W.alike (lenKey a) (lenKey b) = true := rfl
theorem each_of {α β : Type} {R : α → β → Prop} : ∀ {xs : List α} {ys : List β}, xs.length = ys.length → (∀ (j : Nat) x, xs[j]? = some x → ∃ y, ys[j]? = some y ∧ R x y) → PySem.W.EachIs R xs ys
  | [], [], _, _ => .nil
  | [], _ :: _, h, _ => absurd h (by simp)
  | _ :: _, [], h, _ => absurd h (by simp)
  | x :: xs, y :: ys, h, k => by
    obtain ⟨y', e, r⟩ := k 0 x rfl
    cases e
    exact .cons r (each_of (by simpa using h) fun j x' e => k (j + 1) x' (by simpa using e))
theorem texts_vals : ∀ {ys : List (List Nat)} {vs : List Value}, PySem.W.EachIs (fun (v : Value) (k : List Nat) => ∃ t, v = .str (S k) t) vs ys → Vals (ys.map fun k => V.str (S k)) vs
  | _, _, .nil => .nil
  | _, _, .cons r t => .cons r (texts_vals t)
theorem pe_sortLam {X : Cx} {T : List (Addr × Str)} {c P : Addr} {xe : Str} {pe : Pos} {te : TE} {q p1 p2 p3 p4 p5 n1 lpos kpos pos : Pos} (hc : X.calm = true) (hr : Room 1 X.A) (hg : Gl X "sorted") (hm : X.mg "sorted" = none) (mL : X.mg "len" = none) (he : PE X (.Name xe pe) te)
    (TB : LamX.TabB X.base X.mg c P) (hcode : X.env.code = .ref c) (hmT : (P, X.env.qual ++ "<lambda>") ∈ T) (hu : ∀ p ∈ T, p.1 = P → p.2 = X.env.qual ++ "<lambda>")
    (hall : (backToKw pos (keywordEach [⟨some "key", .Lambda (lamPs q) (lamBd p1 p2 p3 p4 p5) lamSc lpos, kpos⟩] X.env)).all (·.1.isSome) = true) (hnone : (backToKw pos (keywordEach [⟨some "key", .Lambda (lamPs q) (lamBd p1 p2 p3 p4 p5) lamSc lpos, kpos⟩] X.env)).any (·.1.isNone) = false)
    (hks : (backToKw pos (keywordEach [⟨some "key", .Lambda (lamPs q) (lamBd p1 p2 p3 p4 p5) lamSc lpos, kpos⟩] X.env)).filterMap (·.1) = [("key" : Str)]) :
    PE X (.Call (.Name "sorted" n1) [.Name xe pe] [⟨some "key", .Lambda (lamPs q) (lamBd p1 p2 p3 p4 p5) lamSc lpos, kpos⟩] pos) (fun σ H Q => te σ H fun v H1 => ∃ (d : Addr) (kvs : List (Key × V)) (ks : List (List Nat)), [v] = [V.ref d] ∧ H1 d = some (.dK kvs) ∧ kvs.map (·.1) = ks.map (fun k => Sum.inr (S k)) ∧ ks.length ≤ 1000000 ∧ (∀ k ∈ ks, k.length ≤ 1000) ∧ LamX.Tabs T H1 ∧
      ∀ H2 p, LamX.ExtN H1 H2 → LamX.Tabs T H2 → H2 p = some (.lst ((sortK ks).map fun k => .str (S k))) → Q (.ref p) H2) := by
  refine ⟨fun pins s σ H Q I h => ?_⟩
  have ha := pa_cons he pa_nil (hs := rfl)
  refine wpAny_Call_Name_kw (ld_blt (u := .builtin "sorted") I hg hm (by decide +kernel) ?_)
  refine PyProof.Rows.callWith_kw (thn (ha.run pos pins s σ H (fun vs H1 => ∃ (d : Addr) (kvs : List (Key × V)) (ks : List (List Nat)), vs = [V.ref d] ∧ H1 d = some (.dK kvs) ∧ kvs.map (·.1) = ks.map (fun k => Sum.inr (S k)) ∧ ks.length ≤ 1000000 ∧ (∀ k ∈ ks, k.length ≤ 1000) ∧ LamX.Tabs T H1 ∧
      ∀ H2 p, LamX.ExtN H1 H2 → LamX.Tabs T H2 → H2 p = some (.lst ((sortK ks).map fun k => .str (S k))) → Q (.ref p) H2) I h) fun us s1 hh => ?_) rfl rfl hall hnone
  obtain ⟨vs0, H1, I1, r1, d, kvs, ks, rfl, hd, hkk, hkn, hkl, hT, q1⟩ := hh
  rw [hks]
  show wpAny _ _ (evalAll [do let v ← eval (.Lambda (lamPs q) (lamBd p1 p2 p3 p4 p5) lamSc lpos) X.env; standAt pos; pure v]) _ _ s1
  refine wpAny_evalAll_cons (wpAny_bind (LamX.lam_make2 I1 TB hcode hmT hu hT rfl (fun y hy e => by simp [lamSc] at hy; rcases hy with rfl | rfl <;> cases e) fun f c' pm ctv H2 s2 I2 eN T2 hf hfn hfr hco => wpAny_bind (wpAny_standAt (wpAny_pure (wpAny_evalAll_nil ?_)))))
  have z := vals1 r1
  obtain ⟨u, rfl, ru⟩ := z
  obtain rfl : u = Value.ref d := ru
  show wpAny _ _ (call (.builtin "sorted") [.ref d] [(("key" : Str), .ref f)]) _ _ _
  have hd2 : H2 d = some (.dK kvs) := eN _ _ hd fun ps z => by cases z
  have hz16 : sizeLine = 16777216 := sizeLine_eq
  obtain ⟨zs, lo, vs, rel, dd⟩ := dk_rd I2.hok (.inl hd2)
  obtain ⟨ep, hat⟩ := dd.dictAt
  have hkeys : vs.map (·.1) = ks.map fun k => Sum.inr (S k) := rel.keys.symm.trans hkk
  have hl : vs.length = ks.length := by
    have e := congrArg List.length hkeys
    rw [List.length_map, List.length_map] at e
    exact e
  refine call_function_entry_kw PyProof.Rows.kind_sorted PyProof.Rows.plain_sorted PyProof.Rows.entry_sorted (PyProof.Rows.ksk_s1 _ _) ?_
  unfold Builtin.«sorted»
  refine wpAny_bind (m := checkCount "sorted" 1 1 _) (wpAny_pure ?_)
  refine wpAny_bind (PySem.W.kdu_collect (A := X.A.in1) (PySem.W.kdl_dict (knd := mixKind X.prog X.w) (kvs := vs) (ep := ep) lo) (I2.ok.hd hc) hat (by omega) fun h' tk acc hk hacc => ?_)
  have hal : acc.toList.length = ks.length := by rw [Array.length_toList, hacc.1, hl]
  have hE : PySem.W.EachIs (fun (v : Value) (k : List Nat) => ∃ t, v = .str (S k) t) acc.toList ks := each_of hal fun j v e => by
    obtain ⟨k, x, e1, e2⟩ := hacc.2 j v (by rw [← Array.getElem?_toList]; exact e)
    have e3 : (vs.map (·.1))[j]? = some k := by rw [List.getElem?_map, e1]; all_goals rfl
    rw [hkeys, List.getElem?_map] at e3
    cases e4 : ks[j]? with
    | none => rw [e4] at e3; cases e3
    | some y =>
      rw [e4] at e3
      have e5 : Sum.inr (S y) = k := Option.some.inj e3
      subst e5
      exact ⟨y, rfl, Value.isStrOf_shape (x := S y) (v := v) e2⟩
  have I3 : L2.Inv X pins σ H2 { s2 with heap := h', toks := tk } := I2.kept hk
  refine wpAny_bind (wpAny_newList ?_ (by rw [hal]; omega))
  have hoL : (h'.push (seqObj "list" acc.toList.toArray 0)).get? h'.objs.size = some (seqObj "list" acc.toList.toArray 0) := Heap.get?_push_size _ rfl
  show wpAny _ _ _ _ _ { s2 with heap := h'.push (seqObj "list" acc.toList.toArray 0), toks := tk }
  have kp3 : ∀ b o, h'.get? b = some o → (h'.push (seqObj "list" acc.toList.toArray 0)).get? b = some o := fun b o e => Heap.get?_push_of_some _ e
  have nL : ∀ (g : Heap), PySem.W.KeepsBut h'.objs.size (h'.push (seqObj "list" acc.toList.toArray 0)) g → ∀ b o, h'.get? b = some o → g.get? b = some o := fun g kp b o e => kp b o (Nat.ne_of_lt (Heap.lt_size e)) (kp3 b o e)
  obtain ⟨oc, vo, tc, ec1, ec2, ec3⟩ := (show ∃ (oc : Obj) (vs : Array Value) (t : Tok), s2.heap.get? c' = some oc ∧ oc.data = .fields vs ∧ vs[1]? = some (.str (X.env.qual ++ "<lambda>") t) from (I2.hok c' _ hco).1)
  refine wpAny_bind (wpAny_holding (PySem.W.list_sort_key_data (f := .ref f) (kw := [(("key" : Str), .ref f)]) (b := false) (R := fun (v : Value) (k : List Nat) => ∃ t, v = .str (S k) t) (bs := ks) (s := { s2 with heap := h'.push (seqObj "list" acc.toList.toArray 0), toks := tk }) lenKey hoL hE (PySem.W.AllAlike.of lenKey_alike) (PySem.W.Sortable.tuples fun b => ⟨_, _, rfl⟩) (by omega) (fun x hx => ?_) (PyProof.Rows.ksk_l1 _ _) (PyProof.Rows.ksk_t1 _ _) (fun v x hx hm g tk2 kp => ?_) fun out cc g tk2 kp ho hlen hR => ?_))
  · have := hr.un
    show X.A.units + 1 + 1 + 1 < cLine
    omega
  · obtain ⟨t, rfl⟩ := hx
    have kg := nL g kp
    refine lam_turn (s := { s2 with heap := g, toks := tk2 }) I2.ok.mod mL (by have := hr.dp; show X.A.depth < recursionLimit; omega) (fun b o e => kg _ _ (hk _ _ (I2.bk _ _ e))) (kg _ _ (hk _ _ hf)) ⟨c', oc, vo, tc, rfl, kg _ _ (hk _ _ ec1), ec2, ec3⟩ (by rw [S_len]; have := hkl x hm; omega)
  · have kg := nL g kp
    have nP : H2 h'.objs.size = none := I3.hok.fresh (Nat.le_refl _)
    have hlen2 : ((sortK ks).map fun k => V.str (S k)).length ≤ sizeLine := by
      rw [List.length_map]
      unfold sortK
      rw [List.length_mergeSort]
      omega
    have I4 := I3.laid (a := h'.objs.size) (o := .lst ((sortK ks).map fun k => V.str (S k))) (h' := g) (t' := tk2) kg (Nat.le_refl _) ⟨hlen2, out, cc, texts_vals hR, ho⟩
    refine wpAny_pure ⟨_, rfl, .ref h'.objs.size, _, I4, rfl, q1 _ _ (eN.trans (LamX.ExtN.of (same_upd nP))) (T2.ext (same_upd nP)) upd_same⟩
end Ow

end OwSortL
section OwTog
set_option linter.all false
set_option maxRecDepth 100000
set_option maxHeartbeats 8000000
namespace Ow
open PySem PySem.Spec PyProof.Rows L2
def ins (ds : List (List Nat)) (k : List Nat) : List (List Nat) := if k ∈ ds then ds else ds ++ [k]
def togIn (F : Nat → Nat → Bool) (k : List Nat) (L ds : List (List Nat)) : List (List Nat) := L.foldl (fun acc s => ins acc (common F s k)) ds
def togStep (F : Nat → Nat → Bool) (ds : List (List Nat)) (k : List Nat) : List (List Nat) := ins (togIn F k ds ds) k
def togAll (F : Nat → Nat → Bool) (ks : List (List Nat)) : List (List Nat) := ks.foldl (togStep F) []
theorem ins_len (ds : List (List Nat)) (k : List Nat) : (ins ds k).length ≤ ds.length + 1 := by
  unfold ins
  split <;> simp
theorem ins_mem {ds : List (List Nat)} {k x : List Nat} : x ∈ ins ds k ↔ x ∈ ds ∨ x = k := by
  unfold ins
  split
  · rename_i h
    exact ⟨.inl, fun z => z.elim id fun e => e ▸ h⟩
  · simp
theorem ins_nodup {ds : List (List Nat)} {k : List Nat} (h : ds.Nodup) : (ins ds k).Nodup := by
  unfold ins
  split
  · exact h
  · rename_i q
    refine List.nodup_append.mpr ⟨h, by simp, fun a ha b hb => ?_⟩
    rw [List.mem_singleton.mp hb]
    exact fun e => q (e ▸ ha)
def KeysAre (kvs : List (Key × V)) (ds : List (List Nat)) : Prop := kvs.map (·.1) = ds.map fun k => Sum.inr (S k)
theorem inr_mem {ds : List (List Nat)} {k : List Nat} : (Sum.inr (S k) : Key) ∈ ds.map (fun k => (Sum.inr (S k) : Key)) ↔ k ∈ ds := by
  rw [List.mem_map]
  constructor
  · rintro ⟨x, hx, e⟩
    injection e with e
    exact S_inj e ▸ hx
  · intro h
    exact ⟨k, h, rfl⟩
theorem keys_put {kvs : List (Key × V)} {ds : List (List Nat)} (k : List Nat) (v : V) (h : KeysAre kvs ds) : KeysAre (putK kvs (Sum.inr (S k)) v) (ins ds k) := by
  have hm : (kvs.any fun kv => decide (kv.1 = (Sum.inr (S k) : Key))) = true ↔ k ∈ ds := by
    rw [List.any_eq_true, ← inr_mem, ← show kvs.map (·.1) = _ from h, List.mem_map]
    constructor
    · rintro ⟨x, hx, e⟩
      exact ⟨x, hx, of_decide_eq_true e⟩
    · rintro ⟨x, hx, e⟩
      exact ⟨x, hx, decide_eq_true e⟩
  unfold KeysAre putK ins at *
  by_cases q : k ∈ ds
  · rw [if_pos (hm.mpr q), if_pos q, List.map_map, ← h]
    refine List.map_congr_left fun x hx => ?_
    show (if x.1 = _ then (x.1, v) else x).1 = x.1
    split <;> rfl
  · rw [if_neg fun z => q (hm.mp z), if_neg q, List.map_append, List.map_append, h]
    rfl
theorem KeysAre.len {kvs : List (Key × V)} {ds : List (List Nat)} (h : KeysAre kvs ds) : kvs.length = ds.length := by
  have := congrArg List.length h
  simpa using this
/-- all but d stands -/
def SB (d : Addr) (H H' : Hp) : Prop := ∀ b o, b ≠ d → H b = some o → H' b = some o
theorem SB.refl (d : Addr) (H : Hp) : SB d H H := fun _ _ _ e => e
theorem SB.trans {d : Addr} {H H1 H2 : Hp} (a : SB d H H1) (b : SB d H1 H2) : SB d H H2 := fun c o n e => b c o n (a c o n e)
theorem SB.of {d : Addr} {H H' : Hp} (e : Same H H') : SB d H H' := fun b o _ h => e b o h
theorem SB.put {d : Addr} {H : Hp} {o : HO} : SB d H (upd H d o) := fun b u n e => by rw [upd_ne n]; exact e
theorem SB.same {d : Addr} {H0 H H' : Hp} (n : H0 d = none) (a : Same H0 H) (b : SB d H H') : Same H0 H' := fun c o e => b c o (ne_of_none e n) (a c o e)
/-- a def with its code object told -/
structure FunC (K : PySem.W.Frag) (x qual : Str) (st : Stmt) (f : Addr) (fd : FuncData) (c : Addr) : Prop where
  ex : ∃ (oc : Value) (od : Option Addr) (kV doc pm : Value) (an : Option Addr) (ct : Value) (osl : Array (Option Value)),
    fd = PySem.W.fnOf x qual (defArgs st) (defBody st) (defScope st) .none kV doc pm an (.ref c) ct ∧ K.lookup f = some ⟨oc, od, .func fd, osl⟩ ∧ PySem.W.codeIn K (.ref c) qual = true
theorem FunC.ok {P : Program} {w : World} {K : PySem.W.Frag} {mg : Str → Option Value} {base : Heap} {x qual : Str} {st : Stmt} {f c : Addr} {fd : FuncData} {N ps : List Str} {k : Nat} {sp : Sp} (F : FunC K x qual st f fd c) (S : FnScope N ps (defScope st)) (len : ∀ vs H Q E, sp vs H Q E → vs.length = ps.length)
    (hbody : ∀ (A : Around) (outer : List Env) (s : Shared) (H : Hp) (vs : List V) (Q : VK) (E : XK), Room k (A.deeper (envOfC qual (defScope st) s.heap.objs.size f (.ref c))) → sp vs H Q E →
      ∃ t, PSs (cxOf CX0 P w K mg base N qual (defScope st) f (.ref c) A outer s H E).nox (defBody st) t ∧ t { nx := fun _ H' => Q .non H', rt := Q } (L2.start N vs) H) : FnOk P w K mg base CX0 (k + 1) f fd ps sp := by
  obtain ⟨oc, od, kV, doc, pm, an, ct, osl, rfl, lk, hcd⟩ := F.ex
  refine fn_of lk hcd S len fun A outer s H vs Q E hr hsp => ?_
  obtain ⟨t, h, q⟩ := hbody A outer s H vs Q E hr hsp
  exact ⟨t, h.nox, q⟩
def tabT (P : Addr) : List (Addr × Str) := [(P, ("together" : Str) ++ ".<locals>." ++ "<lambda>")]
section
variable {P : Program} {w : World} {K : PySem.W.Frag} {mg : Str → Option Value} {base : Heap}
theorem scTogether : FnScope ["company", "kinds", "told", "found", "kind", "some"] ["company", "kinds"] (defScope sTogether) := ⟨rfl, rfl, rfl, by decide +kernel, rfl, by decide +kernel, by decide +kernel⟩
def spTogether (T : Addr) : Sp := fun vs H Q _ => ∃ (a b : Addr) (n : Nat) (ps : List (Nat × Nat)) (ks : List (List Nat)), vs = [.ref a, .ref b] ∧ CoAt H a n ps ∧ Good n ps ∧ KindsAt H b n ps ks ∧ LamX.Tabs (tabT T) H ∧ ∀ H' p, LamX.ExtN H H' → LamX.Tabs (tabT T) H' → H' p = some (.lst ((sortK (togAll (FF ps) ks)).map fun k => .str (S k))) → Q (.ref p) H'
theorem ok_together {f c T : Addr} {fd : FuncData} (F : FunC K "together" "together" sTogether f fd c) (TB : LamX.TabB base mg c T) (mS : mg "sorted" = none) (mL : mg "len" = none) (mT : mg "list" = none) (cN : Cal P w K mg base 3 "need_company" ["company"] spNeedCo) (cK : Cal P w K mg base 3 "need_kinds" ["company", "kinds"] spNeedKinds)
    (cF : Cal P w K mg base 1 "friends_of_all" ["company"] spFriends) (cC : Cal P w K mg base 2 "common_of" ["told", "one", "other"] spCommonOf) : FnOk P w K mg base CX0 4 f fd ["company", "kinds"] (spTogether T) := by
  refine F.ok scTogether (fun vs H Q E h => ?_) (fun A outer s H vs Q E hr h => ?_)
  · obtain ⟨a, b, n, ps, ks, rfl, _⟩ := h
    rfl
  · obtain ⟨a, b, n, ps, ks, rfl, hC, hG, hK, hT, k⟩ := h
    have nd := scTogether.nd
    have hu := hu_of hr
    refine ⟨_, pss_cons (ps_expr (pe_cl cN hr rfl (pa_cons (pv 0) pa_nil)))
      (pss_cons (ps_expr (pe_cl cK hr rfl (pa_cons (pv 0) (pa_cons (pv 1) pa_nil))))
      (pss_cons (ps_par (i := 2) (j := 3) rfl nd rfl rfl (by decide) rfl rfl (pa_cons (pe_cl cF (hr.mono (by decide)) rfl (pa_cons (pv 0) pa_nil)) (pa_cons pe_dnewK pa_nil)) (by rfl))
      (pss_cons (ps_for PassesOwn.never rfl (pi_tup (pv 1)) (pg_name (i := 4) nd rfl (.inl rfl))
        (pss_cons (ps_for PassesOwn.never rfl (pi_list (pe_callTy (call_list_dK rfl) rfl mT (by decide +kernel) (pa_cons (pv 3) pa_nil))) (pg_name (i := 5) nd rfl (.inl rfl))
          (pss_one (ps_dput hu (pv 3) (pe_cl cC (hr.mono (by decide)) rfl (pa_cons (pv 2) (pa_cons (pv 5) (pa_cons (pv 4) pa_nil)))) pe_bl rfl)))
        (pss_one (ps_dput hu (pv 3) (pv 4) pe_bl rfl))))
      (pss_one (ps_ret (pe_sortLam (T := tabT T) (P := T) (c := c) rfl (hr.mono (by decide)) rfl mS mL (pv 3) TB rfl (List.mem_singleton.mpr rfl) (fun p hp _ => by rw [List.mem_singleton.mp hp]; rfl) rfl rfl rfl)))))), ?_⟩
    obtain ⟨k1, k2, k3⟩ := id hK
    refine ⟨_, rfl, a, n, ps, rfl, hC, hG, fun H1 s1 => ?_⟩
    refine ⟨_, rfl, _, rfl, a, b, n, ps, ks, rfl, hC.same s1, hG, hK.same s1, fun H2 s2 => ?_⟩
    have s02 := s1.trans s2
    refine ⟨_, rfl, a, n, ps, rfl, hC.same s02, hG, fun H3 d1 s3 nd1 hD1 => ?_⟩
    have s03 := s02.trans s3
    intro d nd0
    refine ⟨_, _, rfl, ?_⟩
    refine ⟨_, rfl, b, rfl, ⟨_, SqT.of (same_upd nd0 _ _ (s03 _ _ k1))⟩, ?_⟩
    refine for_gen (over_tup (s03 _ _ k1)) (fun i σ H4 => ∃ v4 v5 ds kvs, σ = [some (.ref a), some (.ref b), some (.ref d1), some (.ref d), v4, v5] ∧ Same H3 H4 ∧ H4 d = some (.dK kvs) ∧ KeysAre kvs ds ∧ ds = (ks.take i).foldl (togStep (FF ps)) [] ∧ (∀ x ∈ ds, KO n ps x) ∧ ds.length + 1 ≤ 2 ^ i) ⟨none, none, [], [], rfl, same_upd nd0, upd_same, rfl, rfl, fun x hx => by simp at hx, by decide⟩ (fun i σ H2 ⟨_, _, _, _, _, h, _⟩ => h) ?_ ?_
    · rintro i x σ H4 H5 hi ⟨v4, v5, ds, kvs, rfl, s4, hd, hk, eds, hko, hlen⟩ s5 hx
      rw [List.getElem?_map] at hx
      cases e : ks[i]? with
      | none => rw [e] at hx; cases hx
      | some l =>
        rw [e] at hx
        cases hx
        have kl := k3 l (List.mem_of_getElem? e)
        have i12 : i < 12 := by
          have := (List.getElem?_eq_some_iff.mp e).1
          omega
        have p12 : 2 ^ i ≤ 2 ^ 11 := Nat.pow_le_pow_right (by decide) (by omega)
        have big : 2 ^ 13 ≤ sizeLine := by decide
        have stp : (ks.take (i + 1)).foldl (togStep (FF ps)) [] = togStep (FF ps) ds l := by
          rw [List.take_add_one, e, Option.toList_some, List.foldl_append, eds]
          rfl
        have hd5 := s5 _ _ hd
        have s35 := s4.trans s5
        refine ⟨_, rfl, d, kvs, rfl, hd5, fun q nq => ?_⟩
        have ndq : d ≠ q := ne_of_none hd5 nq
        have ek : (kvs.map fun kv => kV kv.1) = ds.map fun k => V.str (S k) := by
          have h2 := congrArg (List.map kV) hk
          rw [List.map_map, List.map_map] at h2
          exact h2
        rw [ek]
        refine ⟨q, rfl, ⟨_, SqL.of upd_same⟩, ?_⟩
        refine for_list (K := K) (a := q) (xs := ds.map fun k => .str (S k)) (fun j σ H6 => ∃ v5 kvs', σ = [some (.ref a), some (.ref b), some (.ref d1), some (.ref d), some (.str (S l)), v5] ∧ Same H3 H6 ∧ H6 q = some (.lst (ds.map fun k => .str (S k))) ∧ H6 d = some (.dK kvs') ∧ KeysAre kvs' (togIn (FF ps) l (ds.take j) ds) ∧ (∀ x ∈ togIn (FF ps) l (ds.take j) ds, KO n ps x) ∧ (togIn (FF ps) l (ds.take j) ds).length ≤ ds.length + j)
          ⟨v5, kvs, rfl, same_put (s35.free nq) s35, upd_same, by rw [upd_ne ndq]; exact hd5, hk, hko, Nat.le_refl _⟩ (fun j σ H6 _ ⟨_, _, _, _, h, _⟩ => SqL.of h) ?_ ?_
        · rintro j y σ H6 hy ⟨v5', kvs', rfl, s6, hq, hd6, hk6, hko6, hl6⟩
          rw [List.getElem?_map] at hy
          cases e2 : ds[j]? with
          | none => rw [e2] at hy; cases hy
          | some z =>
            rw [e2] at hy
            cases hy
            have kz := hko z (List.mem_of_getElem? e2)
            have hj : j < ds.length := (List.getElem?_eq_some_iff.mp e2).1
            have st2 : togIn (FF ps) l (ds.take (j + 1)) ds = ins (togIn (FF ps) l (ds.take j) ds) (common (FF ps) z l) := by
              unfold togIn
              rw [List.take_add_one, e2, Option.toList_some, List.foldl_append]
              rfl
            refine ⟨_, rfl, _, rfl, _, rfl, _, rfl, d1, n, ps, z, l, rfl, hG.most, hD1.same s6, kz, kl, fun H7 s7 => ⟨d, _, rfl, DPut.k (k := Sum.inr (S (common (FF ps) z l))) (s7 _ _ hd6) (by rw [hk6.len]; omega), ?_⟩⟩
            rw [st2]
            refine ⟨_, _, rfl, same_put nd0 (s6.trans s7), by rw [upd_ne ndq.symm]; exact s7 _ _ hq, upd_same, keys_put _ _ hk6, fun x hx => ?_, Nat.le_trans (ins_len _ _) (by omega)⟩
            rcases ins_mem.mp hx with h | h
            · exact hko6 x h
            · rw [h]
              exact kz.common kl
        · rintro σ H6 ⟨v5', kvs', rfl, s6, hq, hd6, hk6, hko6, hl6⟩
          rw [List.length_map, List.take_length] at hk6 hko6 hl6
          refine ⟨_, rfl, _, rfl, d, _, rfl, DPut.k (k := Sum.inr (S l)) hd6 (by rw [hk6.len]; omega), ?_⟩
          refine ⟨_, _, togStep (FF ps) ds l, _, rfl, same_put nd0 s6, upd_same, keys_put _ _ hk6, stp.symm, fun x hx => ?_, ?_⟩
          · rcases ins_mem.mp hx with h | h
            · exact hko6 x h
            · rw [h]
              exact kl
          · have := ins_len (togIn (FF ps) l ds ds) l
            have e3 : togStep (FF ps) ds l = ins (togIn (FF ps) l ds ds) l := rfl
            rw [e3, Nat.pow_succ]
            omega
    · rintro σ H4 ⟨v4, v5, ds, kvs, rfl, s4, hd, hk, eds, hko, hlen⟩
      rw [List.length_map] at hlen eds
      rw [List.take_length] at eds
      have p12 : 2 ^ ks.length ≤ 2 ^ 12 := Nat.pow_le_pow_right (by decide) k2
      have s04 := s03.trans s4
      refine ⟨_, rfl, d, kvs, ds, rfl, hd, hk, by omega, fun x hx => ?_, hT.ext s04, fun H5 p eN T5 hp => ?_⟩
      · have := (hko x hx).len
        have := hG.most
        omega
      · rw [eds] at hp
        exact k H5 p ((LamX.ExtN.of s04).trans eN) T5 hp
end
end Ow

end OwTog
section OwFriend
set_option linter.all false
set_option maxRecDepth 100000
set_option maxHeartbeats 4000000
/-! min and max of two signs, a sign's place in a text, a pair in a tuple of pairs; _law_friend. -/
namespace Ow
open PySem PySem.Spec PyProof.Rows L2
section
variable {prog : Program} {w : World} {A : Around} {E : Value → Shared → Prop} {s : Shared} {a b : Nat} {t u : Tok} {Q : Value → Shared → Prop}
def two (a b : Nat) : Nat → Nat
  | 0 => a
  | _ => b
theorem cmp_two (hu : A.units + 1 < cLine) : CmpOf prog w A .Lt (fun i v => #[Value.str (S [a]) t, .str (S [b]) u][i]? = some v) (fun i j => decide (two a b i < two a b j)) ∧ CmpOf prog w A .Gt (fun i v => #[Value.str (S [a]) t, .str (S [b]) u][i]? = some v) (fun i j => decide (two a b j < two a b i)) := by
  have sg : ∀ (i : Nat) (v : Value), #[Value.str (S [a]) t, .str (S [b]) u][i]? = some v → ∃ k, v = .str (S [two a b i]) k := fun i v h => by
    match i, h with
    | 0, h => cases h; exact ⟨t, rfl⟩
    | 1, h => cases h; exact ⟨u, rfl⟩
    | i + 2, h => simp at h
  have lt : ∀ x y : Nat, PySem.W.dataLt (.str (S [x])) (.str (S [y])) = decide (x < y) := fun x y => by
    rw [PySem.W.dataLt_str]
    refine decide_eq_decide.mpr ?_
    show [x] < [y] ↔ x < y
    rw [List.cons_lt_cons_iff]
    exact ⟨fun h => h.elim id fun z => absurd z.2 (by simp), .inl⟩
  refine ⟨fun i j vi vj s Q E hi hj h => ?_, fun i j vi vj s Q E hi hj h => ?_⟩
  · obtain ⟨k, rfl⟩ := sg i vi hi
    obtain ⟨k', rfl⟩ := sg j vj hj
    have h : Q (.bool (decide (two a b i < two a b j))) s := h
    rw [← lt] at h
    exact PySem.W.rcLt_alike _ _ A s _ _ [] [] (Reads.str _ _) (Reads.str _ _) rfl (by simp) (by show A.units + 0 < cLine; omega) prog w E Q h
  · obtain ⟨k, rfl⟩ := sg i vi hi
    obtain ⟨k', rfl⟩ := sg j vj hj
    have h : Q (.bool (decide (two a b j < two a b i))) s := h
    rw [← lt] at h
    exact PySem.W.rcGt_alike _ _ A s _ _ [] [] (Reads.str _ _) (Reads.str _ _) rfl (by simp) (by show A.units + 0 < cLine; omega) prog w E Q h
theorem min_signs (hh : A.handled = none) (hu : A.units + 5 < cLine) (h : ∀ h' tk k, (∀ c o, s.heap.get? c = some o → h'.get? c = some o) → Q (.str (S [if b < a then b else a]) k) { s with heap := h', toks := tk }) :
    wpAny (model prog w) A (call (.builtin "min") [.str (S [a]) t, .str (S [b]) u]) Q E s := by
  have hT : (s.heap.push { cls := .type "tuple", data := .seq #[Value.str (S [a]) t, .str (S [b]) u] }).IsTuple s.heap.objs.size #[Value.str (S [a]) t, .str (S [b]) u] := ⟨_, Heap.get?_push_size _ rfl, rfl, 0, rfl⟩
  refine call_min_two (wpAny_pyIter_tuple hT ?_)
  have hsz : (s.heap.push { cls := .type "tuple", data := .seq #[Value.str (S [a]) t, .str (S [b]) u] }).objs.size = s.heap.objs.size + 1 := Heap.size_push ..
  refine ⟨_, [_, s.heap.objs.size], [_], _, _, _, _, rfl, Walks.tuple (A := A.in1) hh _ s.heap.objs.size (by rw [hsz]; exact Nat.ne_of_lt (Nat.lt_succ_self _)) _,
    ⟨⟨_, Heap.get?_push_size _ rfl, rfl, rfl⟩, hT.push _⟩, fun c hc => ?_, by simp, (cmp_two (A := A.in1) (by show A.units + 1 + 1 < cLine; omega)).1, fun v h' tk hP hk => ?_⟩
  · show c < ((s.heap.push _).push _).objs.size
    rw [Heap.size_push, hsz]
    rcases List.mem_cons.mp hc with rfl | hc
    · rw [hsz]; exact Nat.lt_succ_self _
    · rcases List.mem_cons.mp hc with rfl | hc
      · exact Nat.lt_succ_of_lt (Nat.lt_succ_self _)
      · cases hc
  · have hold : ∀ c o, s.heap.get? c = some o → h'.get? c = some o := fun c o e => by
      refine hk c o (fun hm => ?_) (Heap.get?_push_of_some _ (Heap.get?_push_of_some _ e))
      rcases List.mem_cons.mp hm with e1 | hm
      · have := Heap.lt_size e; rw [e1, hsz] at this; exact Nat.lt_irrefl _ (Nat.lt_of_succ_lt this)
      · cases hm
    by_cases hb : b < a
    · have hv : v = .str (S [b]) u := by
        simp [argBest, two, hb] at hP
        exact hP.symm
      have q := h h' tk u hold
      rw [if_pos hb] at q
      rw [hv]
      exact q
    · have hv : v = .str (S [a]) t := by
        simp [argBest, two, hb] at hP
        exact hP.symm
      have q := h h' tk t hold
      rw [if_neg hb] at q
      rw [hv]
      exact q
theorem max_signs (hh : A.handled = none) (hu : A.units + 5 < cLine) (h : ∀ h' tk k, (∀ c o, s.heap.get? c = some o → h'.get? c = some o) → Q (.str (S [if a < b then b else a]) k) { s with heap := h', toks := tk }) :
    wpAny (model prog w) A (call (.builtin "max") [.str (S [a]) t, .str (S [b]) u]) Q E s := by
  have hT : (s.heap.push { cls := .type "tuple", data := .seq #[Value.str (S [a]) t, .str (S [b]) u] }).IsTuple s.heap.objs.size #[Value.str (S [a]) t, .str (S [b]) u] := ⟨_, Heap.get?_push_size _ rfl, rfl, 0, rfl⟩
  refine call_max_two (wpAny_pyIter_tuple hT ?_)
  have hsz : (s.heap.push { cls := .type "tuple", data := .seq #[Value.str (S [a]) t, .str (S [b]) u] }).objs.size = s.heap.objs.size + 1 := Heap.size_push ..
  refine ⟨_, [_, s.heap.objs.size], [_], _, _, _, _, rfl, Walks.tuple (A := A.in1) hh _ s.heap.objs.size (by rw [hsz]; exact Nat.ne_of_lt (Nat.lt_succ_self _)) _,
    ⟨⟨_, Heap.get?_push_size _ rfl, rfl, rfl⟩, hT.push _⟩, fun c hc => ?_, by simp, (cmp_two (A := A.in1) (by show A.units + 1 + 1 < cLine; omega)).2, fun v h' tk hP hk => ?_⟩
  · show c < ((s.heap.push _).push _).objs.size
    rw [Heap.size_push, hsz]
    rcases List.mem_cons.mp hc with rfl | hc
    · rw [hsz]; exact Nat.lt_succ_self _
    · rcases List.mem_cons.mp hc with rfl | hc
      · exact Nat.lt_succ_of_lt (Nat.lt_succ_self _)
      · cases hc
  · have hold : ∀ c o, s.heap.get? c = some o → h'.get? c = some o := fun c o e => by
      refine hk c o (fun hm => ?_) (Heap.get?_push_of_some _ (Heap.get?_push_of_some _ e))
      rcases List.mem_cons.mp hm with e1 | hm
      · have := Heap.lt_size e; rw [e1, hsz] at this; exact Nat.lt_irrefl _ (Nat.lt_of_succ_lt this)
      · cases hm
    by_cases hb : a < b
    · have hv : v = .str (S [b]) u := by
        simp [argBest, two, hb] at hP
        exact hP.symm
      have q := h h' tk u hold
      rw [if_pos hb] at q
      rw [hv]
      exact q
    · have hv : v = .str (S [a]) t := by
        simp [argBest, two, hb] at hP
        exact hP.symm
      have q := h h' tk t hold
      rw [if_neg hb] at q
      rw [hv]
      exact q
end
section
variable {X : Cx}
theorem cr_min2 (hc : X.calm = true) (hu : X.A.units + 64 < cLine) : CallR X (.builtin "min") (fun vs H Q => ∃ a b : Nat, vs = [.str (S [a]), .str (S [b])] ∧ Q (.str (S [if b < a then b else a])) H) := by
  intro pins s σ H vs us Q I r h
  obtain ⟨a, b, rfl, q⟩ := h
  obtain ⟨u, w', rfl, ⟨t, rfl⟩, ⟨t', rfl⟩⟩ := vals2 r
  exact min_signs (I.ok.hd hc) (by omega) fun h' tk k kp => ⟨.str (S [if b < a then b else a]), H, I.kept (t' := tk) kp, ⟨_, rfl⟩, q⟩
theorem cr_max2 (hc : X.calm = true) (hu : X.A.units + 64 < cLine) : CallR X (.builtin "max") (fun vs H Q => ∃ a b : Nat, vs = [.str (S [a]), .str (S [b])] ∧ Q (.str (S [if a < b then b else a])) H) := by
  intro pins s σ H vs us Q I r h
  obtain ⟨a, b, rfl, q⟩ := h
  obtain ⟨u, w', rfl, ⟨t, rfl⟩, ⟨t', rfl⟩⟩ := vals2 r
  exact max_signs (I.ok.hd hc) (by omega) fun h' tk k kp => ⟨.str (S [if a < b then b else a]), H, I.kept (t' := tk) kp, ⟨_, rfl⟩, q⟩
theorem mt_signIx : MtR X "str.index" (fun x xs H Q => ∃ (l : List Nat) (c : Nat), x = .str (S l) ∧ xs = [.str (S [c])] ∧ c ∈ l ∧ Q (.int ((ahd l c).length : Nat)) H) := by
  intro pins s σ H x xs v us Q I rx rxs h
  obtain ⟨l, c, rfl, rfl, hc, q⟩ := h
  obtain ⟨t, rfl⟩ := rx
  obtain ⟨u, rfl, t', rfl⟩ := vals1 rxs
  obtain ⟨rest, ho⟩ := occ_sign hc
  exact PySem.SC.index (y := S [c]) ho ⟨.int ((ahd l c).length : Nat), H, I.tok _, ⟨_, rfl⟩, q⟩
def rInT (K : PySem.W.Frag) : R2 := fun x y H Q => ∃ d ds, Dp K H x d ∧ Dp K H y (.tuple ds) ∧ SeqAt.shaped d = true ∧ SeqAt.shaped (.tuple ds) = true ∧ Q (.bl (ds.any fun z => PyData.eqv z d)) H
theorem op_inT (hu : X.A.units + 65 < cLine) : OpR X (compareOp .In) (rInT X.K) := by
  intro pins s σ H x y v u Q I rx ry h
  obtain ⟨d, ds, hd, he, sd, se, q⟩ := h
  obtain ⟨as, r1⟩ := Dp.reads I d x v hd rx
  obtain ⟨bs, r2⟩ := Dp.reads I (.tuple ds) y u he ry
  exact SeqAt.in_tuple_reads r2 r1 (SeqAt.canLay_of_shaped se) (SeqAt.canLay_of_shaped sd) (room_in_shaped sd hu) ⟨.bl _, H, I, rfl, q⟩
end
theorem ahd_letters {n i : Nat} (h : i < n) : (ahd (letters n) (97 + i)).length = i := by
  have hm : 97 + i ∈ letters n := mem_letters.mpr (by omega)
  obtain ⟨h1, h2⟩ := ahd_get hm
  have := (List.getElem?_eq_some_iff.mp h1).1
  rw [letters_len] at this
  rw [letters_get this] at h1
  injection h1 with h1
  omega
theorem pairs_dp {K : PySem.W.Frag} {H : Hp} {pt : Addr} {ps : List (Nat × Nat)} (h : PairsAt H pt ps) : Dp K H (.ref pt) (.tuple (ps.map fun p => .tuple [.int (p.1 : Nat), .int (p.2 : Nat)])) := by
  obtain ⟨ls, h1, h2, h3⟩ := h
  have h4 : PrsAt H ls (ps.map fun p => ((p.1 : Int), (p.2 : Int))) := ⟨by rw [List.length_map]; exact h2, fun i t p a b => by
    rw [List.getElem?_map] at b
    cases e : ps[i]? with
    | none => rw [e] at b; cases b
    | some q =>
      rw [e] at b
      cases b
      exact h3 i t q a e⟩
  have h5 := prs_dp (K := K) h4
  rw [List.map_map] at h5
  exact .tup (SqT.of h1) h5
theorem pairs_shaped (ps : List (Nat × Nat)) : SeqAt.shaped (.tuple (ps.map fun p => .tuple [.int (p.1 : Nat), .int (p.2 : Nat)])) = true := by
  have h := prs_shaped (ps.map fun p => ((p.1 : Int), (p.2 : Int)))
  rw [List.map_map] at h
  exact h
theorem pairs_any (ps : List (Nat × Nat)) (i j : Nat) : ((ps.map fun p => PyData.tuple [.int (p.1 : Nat), .int (p.2 : Nat)]).any fun z => PyData.eqv z (.tuple [.int (i : Nat), .int (j : Nat)])) = ps.any fun p => decide (p.1 = i ∧ p.2 = j) := by
  rw [List.any_map]
  congr 1
  funext p
  show PyData.eqv (.tuple [.int (p.1 : Nat), .int (p.2 : Nat)]) (.tuple [.int (i : Nat), .int (j : Nat)]) = _
  simp only [PyData.eqv, PyData.eqvAll, Bool.and_true]
  rw [Bool.eq_iff_iff]
  simp
  omega
theorem room65 {k : Nat} {A : Around} (r : Room k A) : A.units + 65 < cLine := by
  have := r.un
  omega
theorem friend_is {n : Nat} {ps : List (Nat × Nat)} (hG : Good n ps) {x y : Nat} : (ps.any fun p => decide (p.1 = (if y < x then y else x) ∧ p.2 = (if x < y then y else x))) = FF ps (97 + x) (97 + y) := by
  rw [Bool.eq_iff_iff]
  unfold FF
  rw [List.any_eq_true, List.any_eq_true]
  constructor
  · rintro ⟨p, hp, e⟩
    have e := of_decide_eq_true e
    refine ⟨p, hp, ?_⟩
    simp only [Bool.or_eq_true, Bool.and_eq_true, beq_iff_eq]
    have := hG.ok p hp
    by_cases h1 : y < x
    · rw [if_pos h1, if_neg (by omega)] at e
      right
      omega
    · rw [if_neg h1] at e
      by_cases h2 : x < y
      · rw [if_pos h2] at e
        left
        omega
      · rw [if_neg h2] at e
        omega
  · rintro ⟨p, hp, e⟩
    simp only [Bool.or_eq_true, Bool.and_eq_true, beq_iff_eq] at e
    refine ⟨p, hp, decide_eq_true ?_⟩
    have := hG.ok p hp
    rcases e with e | e
    · rw [if_neg (by omega), if_pos (by omega)]
      omega
    · rw [if_pos (by omega), if_neg (by omega)]
      omega
section
variable {P : Program} {w : World} {K : PySem.W.Frag} {mg : Str → Option Value} {base : Heap}
theorem scFriend : FnScope ["_law_company_here", "_law_one", "_law_other", "_law_signs"] ["_law_company_here", "_law_one", "_law_other"] (defScope sFriend) := ⟨rfl, rfl, rfl, by decide +kernel, rfl, by decide +kernel, by decide +kernel⟩
def spFriend : Sp := fun vs H Q _ => ∃ (a : Addr) (n : Nat) (ps : List (Nat × Nat)) (x y : Nat), vs = [.ref a, .str (S [x]), .str (S [y])] ∧ CoAt H a n ps ∧ Good n ps ∧ x ∈ letters n ∧ y ∈ letters n ∧ ∀ H', Same H H' → Q (.bl (FF ps x y)) H'
theorem ok_friend {f : Addr} {fd : FuncData} (F : Fun K "_law_friend" "_law_friend" sFriend f fd) (mI : mg "min" = none) (mA : mg "max" = none) : FnOk P w K mg base CX0 1 f fd ["_law_company_here", "_law_one", "_law_other"] spFriend := by
  refine F.ok scFriend (fun vs H Q E h => ?_) (fun cdv A outer s H vs Q E hr h => ?_)
  · obtain ⟨a, n, ps, x, y, rfl, _⟩ := h
    rfl
  · obtain ⟨a, n, ps, x, y, rfl, hC, hG, hx, hy, k⟩ := h
    have nd := scFriend.nd
    refine ⟨_, pss_cons (ps_set (i := 3) nd rfl (.inl rfl) pe_str)
      (pss_one (ps_ret (pe_cmpR (op_inT (room65 hr)) (pe_tup (pa_cons (pe_m1 PySem.F.slot_str_index PySem.F.type_str_index mt_signIx (pv 3) (pe_callB (cr_min2 rfl hr.units) rfl mI (by decide +kernel) (pa_cons (pv 1) (pa_cons (pv 2) pa_nil))) rfl rfl rfl) (pa_cons (pe_m1 PySem.F.slot_str_index PySem.F.type_str_index mt_signIx (pv 3) (pe_callB (cr_max2 rfl hr.units) rfl mA (by decide +kernel) (pa_cons (pv 1) (pa_cons (pv 2) pa_nil))) rfl rfl rfl) pa_nil)))
        (pe_ix ix_tup (pv 0) pe_int (fun _ _ => rfl)) rfl))), ?_⟩
    obtain ⟨pt, ha, hP⟩ := id hC
    obtain ⟨i, hi, rfl⟩ : ∃ i, i < n ∧ x = 97 + i := ⟨x - 97, by have := mem_letters.mp hx; omega, by have := mem_letters.mp hx; omega⟩
    obtain ⟨j, hj, rfl⟩ : ∃ j, j < n ∧ y = 97 + j := ⟨y - 97, by have := mem_letters.mp hy; omega, by have := mem_letters.mp hy; omega⟩
    have h7 := hG.most
    have e1 : (if 97 + j < 97 + i then 97 + j else 97 + i) = 97 + (if j < i then j else i) := by split <;> split <;> omega
    have e2 : (if 97 + i < 97 + j then 97 + j else 97 + i) = 97 + (if i < j then j else i) := by split <;> split <;> omega
    have l1 : (if j < i then j else i) < 7 := by split <;> omega
    have l2 : (if i < j then j else i) < 7 := by split <;> omega
    refine ⟨_, rfl, ⟨_, rfl⟩, _, rfl, _, rfl, _, _, rfl, letters 7, 97 + (if j < i then j else i), by rw [abc], by rw [e1], mem_letters.mpr (by omega), ?_⟩
    rw [ahd_letters l1]
    refine ⟨_, rfl, ⟨_, rfl⟩, _, rfl, _, rfl, _, _, rfl, letters 7, 97 + (if i < j then j else i), by rw [abc], by rw [e2], mem_letters.mpr (by omega), ?_⟩
    rw [ahd_letters l2]
    refine ⟨(by show 2 ≤ sizeLine; decide), fun t nt => ?_⟩
    have st := same_upd (o := .tup [.int ((if j < i then j else i : Nat) : Int), .int ((if i < j then j else i : Nat) : Int)]) nt
    refine ⟨_, rfl, _, _, _, _, rfl, rfl, SqT.of (st _ _ ha), atI_nat (j := 1) rfl, _, _, .tup (SqT.of upd_same) (.cons (.int _) (.cons (.int _) .nil)), pairs_dp (hP.same st), rfl, pairs_shaped ps, ?_⟩
    rw [pairs_any, friend_is hG]
    exact k _ st
end
end Ow

end OwFriend
section OwFree
set_option linter.all false
set_option maxRecDepth 100000
set_option maxHeartbeats 4000000
/-! A list of signs with told tokens: made, appended to, its least asked for. -/
namespace Ow
open PySem PySem.Spec PyProof.Rows L2
/-- the list at d holds these signs; their tokens are from 1 up to n -/
def FreeO (d : Addr) (n : Nat) (l : List Nat) : HO := .ext fun h => ∃ (vs : List Value) (ep : Nat), h.get? d = some (seqObj "list" vs.toArray ep) ∧ Paired (TokV 1 n) vs l
theorem free_ok {P : Program} {w : World} {H : Hp} {h : Heap} {d : Addr} {n ep : Nat} {l : List Nat} {vs : List Value} (e : h.get? d = some (seqObj "list" vs.toArray ep)) (r : Paired (TokV 1 n) vs l) : ObjOk P w H h d (FreeO d n l) :=
  ⟨⟨vs, ep, e, r⟩, ⟨_, e⟩, fun h1 h2 ⟨vs, ep, e, r⟩ st => ⟨vs, ep, st _ e, r⟩⟩
section
variable {X : Cx} {pins : List (Addr × Obj)} {σ : L2.St} {H : Hp} {s : Shared}
theorem free_get {d : Addr} {n : Nat} {l : List Nat} (I : L2.Inv X pins σ H s) (hd : H d = some (FreeO d n l)) : ∃ (vs : List Value) (ep : Nat), s.heap.get? d = some (seqObj "list" vs.toArray ep) ∧ Paired (TokV 1 n) vs l :=
  (show ObjOk X.prog X.w H s.heap d (FreeO d n l) from I.hok d _ hd).1
theorem pe_free0 {pos : Pos} : PE X (.List [] pos) (fun σ H Q => ∃ n, ∀ d, H d = none → Q (.ref d) (upd H d (FreeO d n []))) := by
  refine ⟨fun pins s σ H Q I ⟨n, q⟩ => ?_⟩
  refine wpAny_List_spliced (thn (pa_nil.run pos pins s σ H (fun xs H1 => xs = [] ∧ H1 = H) I ⟨rfl, rfl⟩) fun us s1 hh => ?_)
  obtain ⟨xs, H1, I1, r, rfl, rfl⟩ := hh
  cases r
  refine ⟨Nat.zero_le _, .ref s1.heap.objs.size, upd H1 s1.heap.objs.size (FreeO s1.heap.objs.size n []), I1.laid (t' := s1.toks) (fun b u e => Heap.get?_push_of_some _ e) (Nat.le_refl _) (free_ok (vs := []) (ep := 0) (Heap.get?_push_size _ rfl) .nil), rfl, q _ (I1.hok.fresh (Nat.le_refl _))⟩
theorem paired_snoc' {α β : Type} {R : α → β → Prop} : ∀ {xs : List α} {ys : List β} {x : α} {y : β}, Paired R xs ys → R x y → Paired R (xs ++ [x]) (ys ++ [y])
  | _, _, _, _, .nil, r => .cons r .nil
  | _, _, _, _, .cons a t, r => .cons a (paired_snoc' t r)
/-- free.append(rest[at]) -/
theorem pn_app {i j k : Nat} {xf xr xa : Str} {p1 p2 p3 p4 p5 p6 : Pos} (hi : X.N[i]? = some xf) (vi : Vis X.env.scope xf) (hj : X.N[j]? = some xr) (vj : Vis X.env.scope xr) (hk : X.N[k]? = some xa) (vk : Vis X.env.scope xa)
    (d1 : (xf == ("__debug__" : Str)) = false) (d2 : (xf == ("__classdict__" : Str)) = false) (d3 : (xr == ("__debug__" : Str)) = false) (d4 : (xr == ("__classdict__" : Str)) = false) (d5 : (xa == ("__debug__" : Str)) = false) (d6 : (xa == ("__classdict__" : Str)) = false)
    (hbase : attributeBase (.Name xf p1) "append" X.env (eval (.Name xf p1) X.env) = eval (.Name xf p1) X.env) (hst : starEach [.Subscript (.Name xr p3) (.Name xa p4) p5] X.env = [(false, eval (.Subscript (.Name xr p3) (.Name xa p4) p5) X.env)]) (hline : (p2.endLine == p6.line) = true)
    (hs : PlainIxT (.Name xa p4)) {pos : Pos} (hsw : swapsWith (.Call (.Attribute (.Name xf p1) "append" p2) [.Subscript (.Name xr p3) (.Name xa p4) p5] [] p6) none pos.line X.env = pure false) :
    PN X (.Expr (.Call (.Attribute (.Name xf p1) "append" p2) [.Subscript (.Name xr p3) (.Name xa p4) p5] [] p6) pos)
      (fun n D σ H => 1 ≤ n ∧ ∃ (d : Addr) (l lr : List Nat) (q c : Nat), σ[i]? = some (some (.ref d)) ∧ H d = some (FreeO d n l) ∧ σ[j]? = some (some (.str (S lr))) ∧ σ[k]? = some (some (.int (q : Nat))) ∧ lr[q]? = some c ∧ lr.length ≤ 1000 ∧ l.length < 1000 ∧
        ∀ m, n ≤ m → (D m).nx σ (upd H d (FreeO d m (l ++ [c])))) := by
  refine ⟨fun n pins s σ H D hn I h => ?_⟩
  obtain ⟨h1, d, l, lr, q, c, si, hd, sj, sk, hc, hl, hl2, done⟩ := h
  obtain ⟨vs, ep, hg, hv⟩ := free_get I hd
  refine wpAny_Expr_any (Call_method1 hbase hst hline (raw_name hi vi I si (fun v r => ?_) d1 d2)) I.quiet hsw
  obtain rfl : v = Value.ref d := r
  refine ⟨"list", _, PySem.F.plainAttrs_list, PySem.F.slot_list_append, PySem.F.type_list_append, ⟨_, hg, rfl⟩, (fun a e => ?_), Calls.callWith_builtin rfl (Calls.evalArgs_plain (Calls.spliced_cons (Subscript_ (raw_name hj vj I sj (fun v2 r2 => raw_name hk vk I sk (fun v3 r3 => ?_) d5 d6) d3 d4))))⟩
  · cases e
    exact ⟨_, hg, rfl⟩
  obtain ⟨t2, rfl⟩ := r2
  obtain ⟨t3, rfl⟩ := r3
  have hq : q < (S lr).length := by
    rw [S_len]
    exact (List.getElem?_eq_some_iff.mp hc).1
  have e0 : seqIndex? ((q : Nat) : Int) (S lr).length = some q := PySem.StrLaws.seqIndex_nonneg (by omega) (by omega)
  rw [S_len] at hq
  refine tail_any (typeIs_str s (S lr) t2) slot_str_getitem.lookup (getItem_str (c := c) (by
    have e1 : decide (((q : Nat) : Int) < -(2 ^ 63 : Int)) = false := decide_eq_false (by omega)
    have e2 : decide (((q : Nat) : Int) ≥ 2 ^ 63) = false := decide_eq_false (by omega)
    rw [e1, e2] <;> rfl) (by rw [e0]; exact S_get.mpr hc) (Calls.spliced_nil ?_)) (hs _ _)
  have hlen : vs.length = l.length := Paired.length hv
  have big : 1000 ≤ sizeLine := by decide
  refine append_at (hsz := by rw [List.size_toArray]; omega) hg fun h' sb ho' => ?_
  refine ⟨s.toks + 1, Nat.le_refl _, σ, _, I.write (t' := s.toks + 1) (o := FreeO d (s.toks + 1) (l ++ [c])) (by rw [hd]; trivial) (.inl rfl) (fun b u hb e => (sb.2 b hb).trans e) ⟨_, ho'⟩ (free_ok (vs := vs ++ [.str ⟨#[c]⟩ s.toks]) (ep := ep + 1) (by rw [ho']; simp) (paired_snoc' (paired_mono (fun v c h => TokV.le (Nat.le_succ_of_le hn) h) hv) ⟨s.toks, rfl, Nat.le_trans h1 hn, Nat.lt_succ_self _⟩)), done _ (Nat.le_succ_of_le hn)⟩
/-- targets = (a, b) at a state, the pair a new tracked tuple -/
theorem asg2_at {tg a b : Expr} {g : TG} {k2 : Nat} {pt2 pos : Pos} {Q : Nat → L2.St → Hp → Prop} {R : V → V → Hp → Shared → Prop} (hg : PG X tg g) (I : L2.Inv X pins σ H s)
    (ha : wpAny (model X.prog X.w) X.A (eval a X.env) (fun u1 s1 => wpAny (model X.prog X.w) X.A (eval b X.env) (fun u2 s2 => ∃ v w H2, L2.Inv X pins σ H2 s2 ∧ RelV v u1 ∧ RelV w u2 ∧ R v w H2 s2) X.xe s1) X.xe s)
    (hst : starEach [a, b] X.env = [(false, eval a X.env), (false, eval b X.env)])
    (hs : swapsWithSole [tg] (.Tuple [a, b] k2 pt2) pos.line X.env = pure false) (hw : swappedStores [tg] (.Tuple [a, b] k2 pt2) X.env = pure none) (h1 : (assignEach [tg] X.env).map (·.2) = [assign tg X.env])
    (hQ : ∀ v w H2 s2 p, R v w H2 s2 → H2 p = none → g (.ref p) σ (upd H2 p (.tup [v, w])) (Q s2.toks)) :
    wpAny (model X.prog X.w) X.A (exec (.Assign [tg] (.Tuple [a, b] k2 pt2) pos) X.env) (fun f s' => f = .next ∧ ∃ m σ' H', m ≤ s'.toks ∧ L2.Inv X pins σ' H' s' ∧ Q m σ' H') X.xe s := by
  refine wpAny_Assign_stores (Tuple_ ?_) hs hw
  have hst2 : backTo pt2 (starEach [a, b] X.env) = (false, eval a X.env) :: [(false, eval b X.env)] := by rw [hst] <;> rfl
  first | rw [hst2] | rw [hst]
  refine Calls.spliced_cons (thn ha fun u1 s1 h1' => Calls.spliced_cons (thn h1' fun u2 s2 ⟨v, w', H2, I2, r1, r2, q⟩ => Calls.spliced_nil ?_))
  refine wpAny_newObj_type ?_ (by show 2 ≤ sizeLine; decide)
  have nP : H2 s2.heap.objs.size = none := I2.hok.fresh (Nat.le_refl _)
  have I3 : L2.Inv X pins σ (upd H2 s2.heap.objs.size (.tup [v, w'])) { s2 with heap := s2.heap.push { cls := .type "tuple", data := .seq [u1, u2].toArray } } := I2.laid (t' := s2.toks) (fun b o e => Heap.get?_push_of_some _ e) (Nat.le_refl _) ⟨by show 2 ≤ sizeLine; decide, [u1, u2], .cons r1 (.cons r2 .nil), ⟨_, Heap.get?_push_size _ rfl, rfl, _, rfl⟩⟩
  rw [h1]
  refine thnT (hg.run pins _ σ _ (.ref s2.heap.objs.size) (.ref s2.heap.objs.size) _ I3 rfl (hQ v w' H2 s2 _ q nP)) fun _ s4 hk ⟨σ4, H4, I4, q4⟩ => ⟨rfl, s2.toks, σ4, H4, hk, I4, q4⟩
def lmin (x : Nat) (r : List Nat) : Nat := r.foldl (fun a y => if y < a then y else a) x
theorem lmin_is : ∀ (r : List Nat) (x : Nat), (lmin x r = x ∨ lmin x r ∈ r) ∧ lmin x r ≤ x ∧ ∀ y ∈ r, lmin x r ≤ y
  | [], x => ⟨.inl rfl, Nat.le_refl _, fun y h => by simp at h⟩
  | k :: r, x => by
    have e : lmin x (k :: r) = lmin (if k < x then k else x) r := rfl
    obtain ⟨h1, h2, h3⟩ := lmin_is r (if k < x then k else x)
    rw [e]
    by_cases c : k < x
    · rw [if_pos c] at h1 h2 h3 ⊢
      refine ⟨.inr (h1.elim (fun z => by rw [z]; exact List.mem_cons_self) fun z => List.mem_cons_of_mem _ z), Nat.le_trans h2 (Nat.le_of_lt c), fun q hq => ?_⟩
      rcases List.mem_cons.mp hq with z | z
      · rw [z]; exact h2
      · exact h3 q z
    · rw [if_neg c] at h1 h2 h3 ⊢
      refine ⟨h1.imp_right fun z => List.mem_cons_of_mem _ z, h2, fun q hq => ?_⟩
      rcases List.mem_cons.mp hq with z | z
      · rw [z]; exact Nat.le_trans h2 (by omega)
      · exact h3 q z
theorem minD_sg (x : Nat) : ∀ r : List Nat, PySem.W.minD (.str (S [x])) (r.map fun c => PyData.str (S [c])) = .str (S [lmin x r]) := by
  intro r
  unfold PySem.W.minD lmin
  induction r generalizing x with
  | nil => rfl
  | cons k r ih =>
    have lt : PySem.W.dataLt (.str (S [k])) (.str (S [x])) = decide (k < x) := by
      rw [PySem.W.dataLt_str]
      refine decide_eq_decide.mpr ?_
      show [k] < [x] ↔ k < x
      rw [List.cons_lt_cons_iff]
      exact ⟨fun h => h.elim id fun z => absurd z.2 (by simp), .inl⟩
    rw [List.map_cons, List.foldl_cons, List.foldl_cons, lt]
    by_cases h : k < x
    · rw [if_pos (decide_eq_true h), if_pos h]
      exact ih k
    · rw [if_neg (by simpa using h), if_neg h]
      exact ih x
theorem reads_toks {h : Heap} {lo n : Nat} : ∀ {vs : List Value} {l : List Nat}, Paired (TokV lo n) vs l → ReadsAll h vs (l.map fun c => PyData.str (S [c])) []
  | _, _, .nil => .nil
  | _, _, .cons ⟨u, e, _⟩ t => by
    rw [e]
    exact ReadsAll.cons (as := []) (bs := []) (Reads.str _ _) (reads_toks t)
theorem paired_ixL {α β : Type} {R : α → β → Prop} : ∀ {xs : List α} {ys : List β} {i : Nat} {x : α}, Paired R xs ys → xs[i]? = some x → ∃ y, ys[i]? = some y ∧ R x y
  | _, _, _, _, .nil, e => by simp at e
  | _, _, 0, _, .cons r _, e => ⟨_, rfl, by simp at e; rw [← e]; exact r⟩
  | _, _, i + 1, _, .cons _ t, e => by
    obtain ⟨y, h1, h2⟩ := paired_ixL (i := i) t (by simpa using e)
    exact ⟨y, by simpa using h1, h2⟩
theorem depth_sg : ∀ l : List Nat, PyData.depthAll (l.map fun c => PyData.str (S [c])) = 0
  | [] => rfl
  | c :: r => by simp only [List.map_cons, PyData.depthAll, PyData.depth, depth_sg r]; rfl
theorem alike_sg (l : List Nat) : PySem.W.AlikeAll (l.map fun c => PyData.str (S [c])) := by
  refine ⟨fun x hx y hy => ?_, fun x hx => ?_⟩
  · obtain ⟨p, _, rfl⟩ := List.mem_map.mp hx
    obtain ⟨q, _, rfl⟩ := List.mem_map.mp hy
    rfl
  · obtain ⟨p, _, rfl⟩ := List.mem_map.mp hx
    intro z
    cases z
/-- min(free) -/
theorem min_free {i : Nat} {xf : Str} {d : Addr} {n x : Nat} {r : List Nat} {p1 p2 p3 : Pos} {E : Value → Shared → Prop} {Q : Value → Shared → Prop} (hc : X.calm = true) (hu : X.A.units + 64 < cLine) (I : L2.Inv X pins σ H s) (hi : X.N[i]? = some xf) (vi : Vis X.env.scope xf) (si : σ[i]? = some (some (.ref d))) (hd : H d = some (FreeO d n (x :: r)))
    (gM : Gl X "min") (mM : X.mg "min" = none) (d1 : (xf == ("__debug__" : Str)) = false) (d2 : (xf == ("__classdict__" : Str)) = false)
    (hQ : ∀ t h' tk, 1 ≤ t → t < n → (∀ b o, s.heap.get? b = some o → h'.get? b = some o) → Q (.str (S [lmin x r]) t) { s with heap := h', toks := tk }) :
    wpAny (model X.prog X.w) X.A (eval (.Call (.Name "min" p1) [.Name xf p2] [] p3) X.env) Q E s := by
  obtain ⟨vs, ep, hg, hv⟩ := free_get I hd
  refine wpAny_Call_Name_kw (ld_blt (u := .builtin "min") I gM mM (by decide +kernel) ?_)
  refine PyProof.Rows.callWith_builtin1 ?_ rfl rfl
  refine Calls.spliced_cons (raw_name hi vi I si (fun v rr => ?_) d1 d2)
  obtain rfl : v = Value.ref d := rr
  refine Calls.spliced_nil ?_
  refine PySem.W.min_list_data (vs := vs.toArray) (x := .str (S [x])) (xs := r.map fun c => .str (S [c])) (I.ok.hd hc) ⟨_, hg, rfl, _, rfl⟩ (show ReadsAll s.heap vs.toArray.toList ((x :: r).map fun c => PyData.str (S [c])) [] from reads_toks hv) (alike_sg (x :: r)) (by have := depth_sg (x :: r); rw [List.map_cons] at this; omega) fun j v h' tk bs hj hr kp => ?_
  obtain ⟨c, hcj, u, rfl, u1, u2⟩ := paired_ixL hv (show vs[j]? = some v by simpa using hj)
  rw [minD_sg] at hr
  have ec : (⟨#[c]⟩ : Str) = S [lmin x r] := by cases hr; rfl
  rw [ec]
  exact hQ u h' tk u1 u2 kp
/-- found, rest = found + min(free), rest.replace(min(free), '') -/
theorem pn_minPair {i j k : Nat} {xd xr xf : Str} {tg : Expr} {p3 p5 p6 p8 p9 p10 p12 pos q1 q2 q3 q4 q5 q6 : Pos} {k2 jc : Nat} (hc : X.calm = true) (hu : X.A.units + 64 < cLine) (gM : Gl X "min") (mM : X.mg "min" = none) (hg : PG X tg (gTup X.K 2 (gCons (gName i) (gCons (gName j) gNil))))
    (hi : X.N[i]? = some xd) (vi : Vis X.env.scope xd) (hj : X.N[j]? = some xr) (vj : Vis X.env.scope xr) (hk : X.N[k]? = some xf) (vk : Vis X.env.scope xf)
    (df1 : (xd == ("__debug__" : Str)) = false) (df2 : (xd == ("__classdict__" : Str)) = false) (dr1 : (xr == ("__debug__" : Str)) = false) (dr2 : (xr == ("__classdict__" : Str)) = false) (d1 : (xf == ("__debug__" : Str)) = false) (d2 : (xf == ("__classdict__" : Str)) = false)
    (hbase : attributeBase (.Name xr p6) "replace" X.env (eval (.Name xr p6) X.env) = eval (.Name xr p6) X.env)
    (hst1 : starEach [.Call (.Name "min" q1) [.Name xf q2] [] q3, .Constant (.str "") jc p8] X.env = [(false, eval (.Call (.Name "min" q1) [.Name xf q2] [] q3) X.env), (false, eval (.Constant (.str "") jc p8) X.env)]) (hline : (p9.endLine == p10.line) = true)
    (hst : starEach [.BinOp (.Name xd p3) .Add (.Call (.Name "min" q4) [.Name xf q5] [] q6) p5, .Call (.Attribute (.Name xr p6) "replace" p9) [.Call (.Name "min" q1) [.Name xf q2] [] q3, .Constant (.str "") jc p8] [] p10] X.env = [(false, eval (.BinOp (.Name xd p3) .Add (.Call (.Name "min" q4) [.Name xf q5] [] q6) p5) X.env), (false, eval (.Call (.Attribute (.Name xr p6) "replace" p9) [.Call (.Name "min" q1) [.Name xf q2] [] q3, .Constant (.str "") jc p8] [] p10) X.env)])
    (hw : swappedStores [tg] (.Tuple [.BinOp (.Name xd p3) .Add (.Call (.Name "min" q4) [.Name xf q5] [] q6) p5, .Call (.Attribute (.Name xr p6) "replace" p9) [.Call (.Name "min" q1) [.Name xf q2] [] q3, .Constant (.str "") jc p8] [] p10] k2 p12) X.env = pure none)
    (hs : swapsWithSole [tg] (.Tuple [.BinOp (.Name xd p3) .Add (.Call (.Name "min" q4) [.Name xf q5] [] q6) p5, .Call (.Attribute (.Name xr p6) "replace" p9) [.Call (.Name "min" q1) [.Name xf q2] [] q3, .Constant (.str "") jc p8] [] p10] k2 p12) pos.line X.env = pure false)
    (h1 : (assignEach [tg] X.env).map (·.2) = [assign tg X.env]) :
    PN X (.Assign [tg] (.Tuple [.BinOp (.Name xd p3) .Add (.Call (.Name "min" q4) [.Name xf q5] [] q6) p5, .Call (.Attribute (.Name xr p6) "replace" p9) [.Call (.Name "min" q1) [.Name xf q2] [] q3, .Constant (.str "") jc p8] [] p10] k2 p12) pos)
      (fun n D σ H => ∃ (d : Addr) (lf lr : List Nat) (x : Nat) (r : List Nat), σ[i]? = some (some (.str (S lf))) ∧ σ[j]? = some (some (.str (S lr))) ∧ σ[k]? = some (some (.ref d)) ∧ H d = some (FreeO d n (x :: r)) ∧ lf.length ≤ 1000 ∧ lr.length ≤ 1000 ∧
        ∀ m H', n ≤ m → Same H H' → (D m).nx ((σ.set i (some (.str (S (lf ++ [lmin x r]))))).set j (some (.str (S (del lr (lmin x r)))))) H') := by
  refine ⟨fun n pins s σ H D hn I h => ?_⟩
  obtain ⟨d, lf, lr, x, r, si, sj, sk, hd, lf1, lr1, done⟩ := h
  have big : 2000 ≤ sizeLine := by decide
  refine thn (asg2_at (R := fun v w H2 s2 => v = .str (S (lf ++ [lmin x r])) ∧ w = .str (S (del lr (lmin x r))) ∧ H2 = H ∧ n ≤ s2.toks) (Q := fun m σ' H' => n ≤ m ∧ (D m).nx σ' H') hg I (thnT (Q := fun u s1 => (∃ t', u = .str (S (lf ++ [lmin x r])) t') ∧ L2.Inv X pins σ H s1) ?_ ?_) hst hs hw h1 ?_) ?_
  · obtain ⟨u, ⟨tf, rfl⟩, hu1⟩ := name_at hi vi I si df1 df2
    refine wpAny_BinOp (hu1 _ _ _ (min_free hc hu I hk vk sk hd gM mM d1 d2 fun t h' tk t1 t2 kp => ?_))
    have I2 : L2.Inv X pins σ H { s with heap := h', toks := tk } := I.kept (t' := tk) kp
    refine PyProof.Rows.add_str (fun t' tk2 => ⟨⟨t', by rw [S_app]⟩, I2.tok tk2⟩) ?_
    rw [S_len, S_len]
    show lf.length + 1 ≤ sizeLine
    omega
  · rintro u1 s1 hk1 ⟨⟨t', rfl⟩, I2⟩
    obtain ⟨u2, ⟨tr, rfl⟩, hu2⟩ := name_at hj vj I2 sj dr1 dr2
    refine thnT (Q := fun u2 s2 => (∃ t2, u2 = .str (S (del lr (lmin x r))) t2) ∧ L2.Inv X pins σ H s2) ?_ ?_
    · refine PySem.Call_method2 hbase hst1 hline (hu2 _ _ _ ?_)
      refine ⟨"str", _, F.plainAttrs_str, F.slot_str_replace, F.type_str_replace, typeIs_str _ _ _, (fun _ e => nomatch e), Calls.callWith_builtin rfl (Calls.evalArgs_plain (Calls.spliced_cons (wpAny_mono (PySem.wpAny_toks (min_free (E := X.xe) (Q := fun v s3 => ∃ t, v = .str (S [lmin x r]) t ∧ 1 ≤ t ∧ t < n ∧ L2.Inv X pins σ H s3) hc hu I2 hk vk sk hd gM mM d1 d2 fun t h' tk t1 t2 kp => ⟨t, rfl, t1, t2, I2.kept (t' := tk) kp⟩)) ?_ fun _ _ q => q.2)))⟩
      rintro v s3 ⟨hk3, t, rfl, t1, t2, I3⟩
      refine Calls.spliced_cons (Calls.Constant_str (Calls.spliced_nil ?_))
      have hk3 : s1.toks ≤ s3.toks := hk3
      have tl : t < s3.toks := Nat.lt_of_lt_of_le t2 (Nat.le_trans hn (Nat.le_trans hk1 hk3))
      rw [S_nil]
      refine PySem.SC.replace (x := S lr) (y := S [lmin x r]) (z := S []) (Nat.ne_of_gt t1) ?_ ?_ ?_ ?_ fun t2 k2 => ?_
      · exact Nat.ne_of_gt (Nat.lt_of_le_of_lt (Nat.zero_le _) tl)
      · exact Nat.ne_of_lt tl
      · exact beq_eq_false_iff_ne.mpr fun e => by cases S_inj e
      · rw [S_len, S_len]
        simp only [List.length_nil, Nat.mul_zero]
        omega
      · have e := replace_sign lr (lmin x r)
        refine ⟨⟨t2, ?_⟩, I3.tok k2⟩
        rw [← e]
        rfl
    · rintro u2 s2 hk2 ⟨⟨t2, rfl⟩, I3⟩
      exact ⟨.str (S (lf ++ [lmin x r])), .str (S (del lr (lmin x r))), H, I3, ⟨t', rfl⟩, ⟨t2, rfl⟩, rfl, rfl, rfl, Nat.le_trans hn (Nat.le_trans hk1 hk2)⟩
  · rintro v w H2 s2 p ⟨rfl, rfl, rfl, hn2⟩ np
    exact ⟨_, _, rfl, SqT.of upd_same, rfl, _, _, rfl, _, _, rfl, rfl, hn2, done _ _ hn2 (same_upd np)⟩
  · rintro f s' ⟨rfl, m, σ', H', hm, I', hn2, q⟩
    exact ⟨m, hm, σ', H', I', q⟩
/-- targets = (a, 'z'): behind it a token is out -/
theorem pn_tupLit {i j : Nat} {tg a : Expr} {ta : TE} {z : Str} {cp p12 pos : Pos} {k2 jc : Nat} (hg : PG X tg (gTup X.K 2 (gCons (gName i) (gCons (gName j) gNil)))) (ha : PE X a ta)
    (hst : starEach [a, .Constant (.str z) jc cp] X.env = [(false, eval a X.env), (false, eval (.Constant (.str z) jc cp) X.env)])
    (hw : swappedStores [tg] (.Tuple [a, .Constant (.str z) jc cp] k2 p12) X.env = pure none) (hs : swapsWithSole [tg] (.Tuple [a, .Constant (.str z) jc cp] k2 p12) pos.line X.env = pure false) (h1 : (assignEach [tg] X.env).map (·.2) = [assign tg X.env]) :
    PN X (.Assign [tg] (.Tuple [a, .Constant (.str z) jc cp] k2 p12) pos)
      (fun n D σ H => ta σ H fun v H1 => ∀ m H2, 1 ≤ m → Same H1 H2 → (D m).nx ((σ.set i (some v)).set j (some (.str z))) H2) := by
  refine ⟨fun n pins s σ H D hn I h => ?_⟩
  refine thn (asg2_at (R := fun v w H2 s2 => w = .str z ∧ 1 ≤ s2.toks ∧ ∀ m H3, 1 ≤ m → Same H2 H3 → (D m).nx ((σ.set i (some v)).set j (some (.str z))) H3) (Q := fun m σ' H' => 1 ≤ m ∧ (D m).nx σ' H') hg I (thn (ha.run pins s σ H _ I h) fun u1 s1 ⟨v, H1, I1, r1, q1⟩ => ?_) hst hs hw h1 ?_) ?_
  · exact Calls.Constant_str ⟨v, .str z, H1, I1.tok (s1.toks + 1), r1, ⟨_, rfl⟩, rfl, (show 1 ≤ s1.toks + 1 by omega), q1⟩
  · rintro v w H2 s2 p ⟨rfl, h1', q⟩ np
    exact ⟨_, _, rfl, SqT.of upd_same, rfl, _, _, rfl, _, _, rfl, rfl, h1', q _ _ h1' (same_upd np)⟩
  · rintro f s' ⟨rfl, m, σ', H', hm, I', hn2, q⟩
    exact ⟨m, hm, σ', H', I', q⟩
end
end Ow

end OwFree
section OwKind
set_option linter.all false
set_option maxRecDepth 100000
set_option maxHeartbeats 8000000
namespace Ow
open PySem PySem.Spec PyProof.Rows L2
theorem fst_take {l : List Nat} {i c : Nat} (h : l[i]? = some c) : fst (l.take (i + 1)) = fst (l.take i) ++ (if c ∈ l.take i then [] else [c]) := by
  rw [List.take_add_one, h, Option.toList_some, fst_append]
  congr 1
  by_cases e : c ∈ l.take i
  · rw [if_pos e]
    simp [fst, e]
  · rw [if_neg e]
    simp [fst, e]
theorem made_fst (l : List Nat) : made (fun i => l[i]?.bind fun c => if c ∈ l.take i then none else some (V.str (S [c]))) l.length = (fst l).map fun c => .str (S [c]) := by
  have h : ∀ k, k ≤ l.length → made (fun i => l[i]?.bind fun c => if c ∈ l.take i then none else some (V.str (S [c]))) k = (fst (l.take k)).map fun c => .str (S [c]) := by
    intro k
    induction k with
    | zero => intro _; simp [made, fst]
    | succ k ih =>
      intro hk
      have e : l[k]? = some l[k] := List.getElem?_eq_getElem hk
      rw [made_succ, ih (by omega), fst_take e, List.map_append]
      congr 1
      simp only [e, Option.bind_some]
      split <;> simp
  rw [h _ (Nat.le_refl _), List.take_length]
theorem fst_len : ∀ l : List Nat, (fst l).length ≤ l.length := by
  intro l
  have := (fst_nodup l).length_le_of_subset (fun x hx => mem_fst.mp hx : fst l ⊆ l)
  exact this
theorem ahd_at {l : List Nat} {i c : Nat} (nd : l.Nodup) (h : l[i]? = some c) : ahd l c = l.take i := by
  obtain ⟨h1, h2⟩ := ahd_get (List.mem_of_getElem? h)
  have e : (ahd l c).length = i := by
    obtain ⟨a1, a2⟩ := List.getElem?_eq_some_iff.mp h1
    obtain ⟨b1, b2⟩ := List.getElem?_eq_some_iff.mp h
    exact (List.getElem_inj nd).mp (a2.trans b2.symm)
  rw [← e, ahd_take]
theorem mf_lmin {F : Nat → Nat → Bool} {s r : List Nat} {x : Nat} (h : s.filter (fre F s) = x :: r) : mf F s = lmin x r := by
  unfold mf
  rw [h]
  obtain ⟨h1, h2, h3⟩ := lmin_is r x
  have e : (x :: r).min? = some (lmin x r) := List.min?_eq_some_iff.mpr ⟨h1.elim (fun z => by rw [z]; exact List.mem_cons_self) fun z => List.mem_cons_of_mem _ z, fun b hb => by
    rcases List.mem_cons.mp hb with z | z
    · rw [z]; exact h2
    · exact h3 b z⟩
  rw [e]
  rfl
theorem for_genN {J : It} {cnt : Nat} {R : Nat → V → Hp → Prop} {H0 : Hp} {g : TG} {tb : TN} {D : Nat → Ends} {σ : L2.St} {H : Hp} {n : Nat} (O : Over J cnt R H0) (Pv : Nat → Nat → L2.St → Hp → Prop) (h0 : Pv n 0 σ H) (hq : ∀ k i σ H, Pv k i σ H → Same H0 H)
    (hs : ∀ k i x σ H H', i < cnt → Pv k i σ H → Same H H' → R i x H' → g x σ H' fun σ2 H2 => tb k (fun k' => { D k' with nx := Pv k' (i + 1), ct := Pv k' (i + 1), bk := (D k').nx }) σ2 H2) (hd : ∀ k σ H, Pv k cnt σ H → (D k).nx σ H) :
    nLoop g tb n D σ J H := by
  refine ⟨fun k i m σ H => m = cnt - i ∧ i ≤ cnt ∧ Pv k i σ H, ⟨cnt, by simp, Nat.zero_le _, h0⟩, ?_⟩
  rintro k i m σ H ⟨rfl, hi, p⟩
  have q := hq k i σ H p
  by_cases hlt : i < cnt
  · refine .inr ⟨O.go i H q hlt, fun k' => Pv k' (i + 1), fun k' σ' H' p' => ⟨cnt - (i + 1), by omega, rfl, hlt, p'⟩, fun x H' y => ?_⟩
    obtain ⟨s, r⟩ := O.yld i H x H' q hlt y
    exact hs k i x σ H H' hlt p s r
  · have e : i = cnt := by omega
    subst e
    exact .inl ⟨O.stop H q, hd k σ H p⟩
section
variable {P : Program} {w : World} {K : PySem.W.Frag} {mg : Str → Option Value} {base : Heap}
theorem scFirsts : FnScope ["_law_word_here", "_law_at"] ["_law_word_here"] (defScope sFirsts) := ⟨rfl, rfl, rfl, by decide +kernel, rfl, by decide +kernel, by decide +kernel⟩
def spFirsts : Sp := fun vs H Q _ => ∃ l : List Nat, vs = [.str (S l)] ∧ l.length ≤ 1000 ∧ ∀ H', Same H H' → Q (.str (S (fst l))) H'
theorem ok_firsts {f : Addr} {fd : FuncData} (F : Fun K "_law_firsts" "_law_firsts" sFirsts f fd) (mR : mg "range" = none) (mL : mg "len" = none) : FnOk P w K mg base CX0 1 f fd ["_law_word_here"] spFirsts := by
  refine F.ok scFirsts (fun vs H Q E h => ?_) (fun cdv A outer s H vs Q E hr h => ?_)
  · obtain ⟨l, rfl, _⟩ := h
    rfl
  · obtain ⟨l, rfl, hl, k⟩ := h
    have nd := scFirsts.nd
    refine ⟨_, pss_one (ps_ret (pe_join pe_str (pe_lc (own := [("_law_at", 1)]) (g := gName 1) rfl nd (pi_range1 rfl mR (pa_cons (pe_callB call_len_str rfl mL PySem.boot_len (pa_cons (pv 0) pa_nil)) pa_nil)) (blkOk_by (N := ["_law_word_here", "_law_at"]) (sc := defScope sFirsts) (by decide +kernel)) (fun _ _ _ _ _ => pg_name (i := 1) nd rfl (Or.inl rfl))
      (fun _ _ _ _ _ => pts_one (pt_cmpR op_notIn_sign (pe_ix ix_str (pv 0) (pv 1) (fun _ _ => rfl)) (pe_slice sl_str (pv 0) po_none (po_some (pv 1))) rfl)) (fun _ _ _ _ _ => pe_ix ix_str (pv 0) (pv 1) (fun _ _ => rfl))))), ?_⟩
    have big : 2000 ≤ sizeLine := by decide
    have hz : (S l).length ≤ sizeLine := by rw [S_len]; omega
    refine ⟨⟨_, rfl⟩, _, rfl, _, rfl, hz, _, rfl, by rw [S_len]; omega, by rw [S_len]; omega, fun D nD => ?_⟩
    have en : (((S l).length : Nat) : Int).toNat = l.length := by rw [S_len]; simp
    rw [en]
    refine lc_gen over_range (fun i => l[i]?.bind fun c => if c ∈ l.take i then none else some (.str (S [c]))) nD (by omega) ?_ ?_
    · rintro i x H' Nx hi sH rfl kN
      have e : l[i]? = some l[i] := List.getElem?_eq_getElem hi
      have kN := kN H' (Same.refl _)
      rw [e] at kN
      have ea : atI (S l).cps.toList (0 + (i : Int)) = some l[i] := by rw [S_list, Int.zero_add]; exact atI_nat e
      refine ⟨rfl, _, rfl, _, rfl, _, _, _, rfl, rfl, hz, ea, _, rfl, _, rfl, _, rfl, _, rfl, hz, _, _, rfl, rfl, _, rfl, ?_⟩
      rw [Int.zero_add, cut_ahead, S_list]
      by_cases q : l[i] ∈ l.take i
      · rw [decide_eq_true q]
        refine iteF ?_
        simpa [q] using kN
      · rw [decide_eq_false q]
        refine iteT ?_
        refine ⟨_, rfl, _, rfl, _, _, _, rfl, rfl, hz, by rw [S_list]; exact atI_nat e, ?_⟩
        show Nx (some (V.str (S [l[i]]))) H'
        simpa [q] using kN
    · intro H2 s2 hD
      rw [made_fst, ← signs_map] at hD
      have fl := fst_len l
      refine ⟨"", D, (fst l).map fun c => S [c], rfl, rfl, .inl (SqL.of hD), by rw [glued_size _ _ rfl]; omega, ?_⟩
      rw [S_nil, glued_signs]
      exact k H2 s2
theorem scKind : FnScope ["_law_company_here", "_law_word_here", "_law_rest", "_law_found", "_law_turn", "_law_free", "_law_at", "_law_sign"] ["_law_company_here", "_law_word_here"] (defScope sKind) := ⟨rfl, rfl, rfl, by decide +kernel, rfl, by decide +kernel, by decide +kernel⟩
def spKind : Sp := fun vs H Q _ => ∃ (a : Addr) (n : Nat) (ps : List (Nat × Nat)) (l : List Nat), vs = [.ref a, .str (S l)] ∧ CoAt H a n ps ∧ Good n ps ∧ (∀ c ∈ l, c ∈ letters n) ∧ l.length ≤ 1000 ∧ ∀ H', Same H H' → Q (.str (S (kind (FF ps) l))) H'
theorem ok_kind {f : Addr} {fd : FuncData} (F : Fun K "_law_kind" "_law_kind" sKind f fd) (mR : mg "range" = none) (mL : mg "len" = none) (mM : mg "min" = none) (cF : Cal P w K mg base 1 "_law_firsts" ["_law_word_here"] spFirsts) (cR : Cal P w K mg base 1 "_law_friend" ["_law_company_here", "_law_one", "_law_other"] spFriend) : FnOk P w K mg base CX0 2 f fd ["_law_company_here", "_law_word_here"] spKind := by
  refine F.ok scKind (fun vs H Q E h => ?_) (fun cdv A outer s H vs Q E hr h => ?_)
  · obtain ⟨a, n, ps, l, rfl, _⟩ := h
    rfl
  · obtain ⟨a, n, ps, l, rfl, hC, hG, hm, hl, k⟩ := h
    have nd := scKind.nd
    refine ⟨_, pss_of_psn (psn_cons (pn_tupLit (i := 2) (j := 3) (pg_tup rfl (pgs_cons (pg_name (i := 2) nd rfl (.inr rfl)) (pgs_cons (pg_name (i := 3) nd rfl (.inl rfl)) pgs_nil))) (pe_cl cF hr rfl (pa_cons (pv 1) pa_nil)) rfl rfl rfl rfl)
      (psn_cons (pn_for PassesOwn.never rfl (pi_range1 rfl mR (pa_cons (pe_callB call_len_str rfl mL PySem.boot_len (pa_cons (pv 2) pa_nil)) pa_nil)) (pg_name (i := 4) nd rfl (.inl rfl))
        (psn_cons (pn_of (ps_set (i := 5) nd rfl (.inl rfl) pe_free0))
        (psn_cons (pn_for PassesOwn.never rfl (pi_range1 rfl mR (pa_cons (pe_callB call_len_str rfl mL PySem.boot_len (pa_cons (pv 2) pa_nil)) pa_nil)) (pg_name (i := 6) nd rfl (.inr rfl))
          (psn_one (pn_if (pt_cmpR (op_eqD hr.units) (pe_lc (own := [("_law_sign", 7)]) (g := gName 7) rfl nd (pi_str (pe_slice sl_str (pv 2) po_none (po_some (pv 6)))) (blkOk_by (N := ["_law_company_here", "_law_word_here", "_law_rest", "_law_found", "_law_turn", "_law_free", "_law_at", "_law_sign"]) (sc := defScope sKind) (by decide +kernel)) (fun _ _ _ _ _ => pg_name (i := 7) nd rfl (Or.inl rfl))
              (fun _ _ _ _ _ => pts_one (pt_val (pe_cl cR hr rfl (pa_cons (pv 0) (pa_cons (pv 7) (pa_cons (pe_ix ix_str (pv 2) (pv 6) (fun _ _ => rfl)) pa_nil)))))) (fun _ _ _ _ _ => pv 7)) (pe_lst pa_nil) (nomark _))
            (psn_one (pn_app (i := 5) (j := 2) (k := 6) rfl (.inl rfl) rfl (.inr (.inl rfl)) rfl (.inr (.inl rfl)) (by decide) (by decide) (by decide) (by decide) (by decide) (by decide) rfl rfl rfl (fun _ _ => rfl) rfl)) psn_nil)))
        (psn_one (pn_minPair (i := 3) (j := 2) (k := 5) rfl hr.units rfl mM (pg_tup rfl (pgs_cons (pg_name (i := 3) nd rfl (.inl rfl)) (pgs_cons (pg_name (i := 2) nd rfl (.inr rfl)) pgs_nil))) rfl (.inl rfl) rfl (.inr (.inl rfl)) rfl (.inl rfl) (by decide) (by decide) (by decide) (by decide) (by decide) (by decide) rfl rfl rfl rfl rfl rfl rfl)))))
      (psn_one (pn_of (ps_ret (pv 3)))))), ?_⟩
    have h7 := hG.most
    have big : 2000 ≤ sizeLine := by decide
    have fl : (fst l).length ≤ 1000 := Nat.le_trans (fst_len l) hl
    generalize hN : (fst l).length = N at fl
    refine ⟨_, rfl, l, rfl, hl, fun H1 s1 m0 H2 hm0 s2 => ?_⟩
    have s02 := s1.trans s2
    have hz1 : ∀ q : List Nat, q.length ≤ N → (S q).length ≤ sizeLine := fun q hq => by rw [S_len]; omega
    have len1 : ∀ q : List Nat, ((((S q).length : Nat) : Int)).toNat = q.length := fun q => by rw [S_len]; simp
    refine ⟨_, rfl, _, rfl, hz1 (fst l) (by omega), _, rfl, by rw [S_len]; omega, by rw [S_len]; omega, ?_⟩
    rw [len1, hN]
    refine for_genN over_range (fun nn i σ H3 => 1 ≤ nn ∧ ∃ (v4 v5 v6 : Option V) (rest found : List Nat), σ = [some (.ref a), some (.str (S l)), some (.str (S rest)), some (.str (S found)), v4, v5, v6, none] ∧ rest.Nodup ∧ rest.length + i = N ∧ found.length = i ∧ (∀ x ∈ rest, x ∈ letters n) ∧ found ++ kd (FF ps) rest.length rest = kd (FF ps) N (fst l) ∧ Same H H3)
      ⟨hm0, none, none, none, fst l, [], by rw [← S_nil]; rfl, fst_nodup l, by omega, rfl, fun x hx => hm x (mem_fst.mp hx), by rw [hN]; rfl, s02⟩ (H0 := H) (fun k i σ H3 ⟨_, _, _, _, _, _, _, _, _, _, _, _, h⟩ => h) ?_ ?_
    · rintro k1 i x σ H3 H4 hi ⟨hk1, v4, v5, v6, rest, found, rfl, nr, hlen, hfl, hsub, heq, s3⟩ s4 rfl
      have s04 := s3.trans s4
      have rl : rest.length ≤ N := by omega
      have rne : rest ≠ [] := fun z => by rw [z] at hlen; simp at hlen; omega
      refine ⟨k1, fun d nd5 => ?_⟩
      refine ⟨_, rfl, _, rfl, hz1 rest rl, _, rfl, by rw [S_len]; omega, by rw [S_len]; omega, ?_⟩
      rw [len1]
      refine for_genN over_range (fun nn j σ H5 => 1 ≤ nn ∧ ∃ (v6 : Option V), σ = [some (.ref a), some (.str (S l)), some (.str (S rest)), some (.str (S found)), some (.int (0 + (i : Int))), some (.ref d), v6, none] ∧ Same H H5 ∧ H5 d = some (FreeO d nn ((rest.take j).filter (fre (FF ps) rest))))
        ⟨hk1, v6, rfl, same_put (s04.free nd5) s04, upd_same⟩ (H0 := H) (fun k i σ H5 ⟨_, _, _, h, _⟩ => h) ?_ ?_
      · rintro k2 j x σ H5 H6 hj ⟨hk2, v6', rfl, s5, hd⟩ s6 rfl
        have e : rest[j]? = some rest[j] := List.getElem?_eq_getElem hj
        generalize hc : rest[j] = c at e
        have s06 := s5.trans s6
        have ca : ahd rest c = rest.take j := ahd_at nr e
        have tk : (rest.take (j + 1)).filter (fre (FF ps) rest) = (rest.take j).filter (fre (FF ps) rest) ++ (if fre (FF ps) rest c = true then [c] else []) := by
          rw [List.take_add_one, e, Option.toList_some, List.filter_append]
          congr 1
          by_cases q : fre (FF ps) rest c = true <;> simp [q]
        have tl : (rest.take j).length ≤ N := by rw [List.length_take]; omega
        refine ⟨_, rfl, _, rfl, _, rfl, _, rfl, hz1 rest rl, S (rest.take j), by rw [Int.zero_add, cut_ahead], fun D nD => ?_⟩
        refine lc_gen (over_str (rest.take j) H6) (fun q => (rest.take j)[q]?.bind fun y => if FF ps y c = true then some (.str (S [y])) else none) nD (by omega) ?_ ?_
        · rintro q z H7 Nx hq s7 ⟨y, hy, rfl⟩ kN
          have hyr : y ∈ rest := List.mem_of_mem_take (List.mem_of_getElem? hy)
          refine ⟨rfl, _, rfl, _, rfl, _, rfl, _, rfl, _, _, _, rfl, rfl, hz1 rest rl, by rw [S_list, Int.zero_add]; exact atI_nat e, a, n, ps, y, c, rfl, hC.same (s06.trans s7), hG, hsub y hyr, hsub c (List.mem_of_getElem? e), fun H8 s8 => ⟨_, rfl, ?_⟩⟩
          have kN := kN H8 s8
          rw [hy] at kN
          by_cases e' : FF ps y c = true
          · refine ifT e' ?_
            refine ⟨_, rfl, ?_⟩
            simpa [e'] using kN
          · refine ifF (by simpa using e') ?_
            simpa [e'] using kN
        · intro H7 s7 hD
          rw [made_filter] at hD
          have fl7 : ((rest.take j).filter fun y => FF ps y c).length ≤ N := Nat.le_trans (List.length_filter_le _ _) tl
          have cod : ∀ y ∈ ((rest.take j).filter fun y => FF ps y c), y < 200 := fun y hy => by
            have := mem_letters.mp (hsub y (List.mem_of_mem_take (List.mem_filter.mp hy).1))
            omega
          refine ⟨by decide, fun q nq => ?_⟩
          have sq := same_upd (o := .lst []) nq
          have s08 := (s06.trans s7).trans sq
          refine ⟨_, _, .lst (SqL.of (sq _ _ hD)) (dp_signs _), .lst (SqL.of upd_same) .nil, shaped_list cod, by decide, _, rfl, ?_⟩
          have hfre : fre (FF ps) rest c = (((rest.take j).filter fun y => FF ps y c).isEmpty) := by
            unfold fre
            rw [ca, Bool.eq_iff_iff, List.all_eq_true, List.isEmpty_iff, List.filter_eq_nil_iff]
            constructor
            · intro h y hy z
              have := h y hy
              rw [FF_comm] at z
              rw [z] at this
              cases this
            · intro h y hy
              have := h y hy
              rw [FF_comm] at this
              simpa using this
          have nd0 : H d = none := s04.free nd5
          cases eL : (rest.take j).filter fun y => FF ps y c with
          | nil =>
            rw [eL] at hfre
            have hfre : fre (FF ps) rest c = true := hfre
            refine ifT (by simp [PyData.eqv, PyData.eqvAll]) ?_
            have lf : ((rest.take j).filter (fre (FF ps) rest)).length ≤ N := Nat.le_trans (List.length_filter_le _ _) tl
            have lf2 : ((rest.take j).filter (fre (FF ps) rest)).length ≤ j := Nat.le_trans (List.length_filter_le _ _) (by rw [List.length_take]; omega)
            refine ⟨hk2, d, (rest.take j).filter (fre (FF ps) rest), rest, j, c, rfl, sq _ _ (s7 _ _ (s6 _ _ hd)), rfl, by show some (some (V.int (0 + (j : Int)))) = _; rw [Int.zero_add], e, by omega, by omega, fun m hm2 => ?_⟩
            rw [if_pos hfre] at tk
            refine ⟨Nat.le_trans hk2 hm2, _, rfl, same_put nd0 s08, ?_⟩
            rw [upd_same, tk]
          | cons y0 yr =>
            rw [eL] at hfre
            have hfre : fre (FF ps) rest c = false := hfre
            refine ifF (by simp [PyData.eqv, PyData.eqvAll]) ?_
            rw [hfre] at tk
            have tk : (rest.take (j + 1)).filter (fre (FF ps) rest) = (rest.take j).filter (fre (FF ps) rest) := by rw [tk]; simp
            refine ⟨hk2, _, rfl, s08, ?_⟩
            rw [tk]
            exact sq _ _ (s7 _ _ (s6 _ _ hd))
      · rintro k2 σ H5 ⟨hk2, v6', rfl, s5, hd⟩
        rw [List.take_length] at hd
        have ms := mf_is (F := FF ps) rne
        cases eF : rest.filter (fre (FF ps) rest) with
        | nil =>
          have : mf (FF ps) rest ∈ rest.filter (fre (FF ps) rest) := List.mem_filter.mpr ⟨ms.mem, ms.fr⟩
          rw [eF] at this
          cases this
        | cons x r =>
          have em := mf_lmin eF
          rw [eF] at hd
          rw [em] at ms
          have hdl := del_len nr ms.mem
          refine ⟨d, found, rest, x, r, rfl, rfl, rfl, hd, by omega, by omega, fun m H6 hm6 s6 => ?_⟩
          refine ⟨Nat.le_trans hk2 hm6, _, _, _, del rest (lmin x r), found ++ [lmin x r], rfl, del_nodup _ nr, by omega, by rw [List.length_append, hfl]; rfl, fun y hy => hsub y (mem_del.mp hy).1, ?_, s5.trans s6⟩
          rw [← heq, ← hdl, List.append_assoc]
          show found ++ (lmin x r :: kd (FF ps) (del rest (lmin x r)).length (del rest (lmin x r))) = found ++ (mf (FF ps) rest :: kd (FF ps) (del rest (lmin x r)).length (del rest (mf (FF ps) rest)))
          rw [em]
    · rintro k1 σ H3 ⟨hk1, v4, v5, v6, rest, found, rfl, nr, hlen, hfl, hsub, heq, s3⟩
      have er : rest = [] := List.eq_nil_of_length_eq_zero (by omega)
      subst er
      have ez : found = kind (FF ps) l := by
        have : found ++ [] = kd (FF ps) N (fst l) := heq
        rw [List.append_nil] at this
        rw [this, ← hN]
        rfl
      rw [ez]
      exact ⟨_, rfl, k H3 s3⟩
end
end Ow

end OwKind
section OwRow
set_option linter.all false
set_option maxRecDepth 100000
set_option maxHeartbeats 8000000
namespace Ow
open PySem PySem.Spec PyProof.Rows L2
theorem SB.seq {K : PySem.W.Frag} {r a : Addr} {H H' : Hp} {xs : List V} (e : SB r H H') (n : a ≠ r) (h : SqL K H a xs) : SqL K H' a xs := by
  rcases h with (h | ⟨o, h⟩) | h
  · exact .inl (.inl (e _ _ n h))
  · exact .inl (.inr ⟨o, e _ _ n h⟩)
  · exact .inr h
/-- the script's list, another object than the row (or one of the module's) -/
def ScrAt (K : PySem.W.Frag) (a : Addr) (H : Hp) (r : Addr) (ns : List Int) : Prop := (a ≠ r ∧ SqL K H a (ns.map V.int)) ∨ ∀ H' : Hp, SqL K H' a (ns.map V.int)
theorem ScrAt.sq {K : PySem.W.Frag} {a : Addr} {H : Hp} {r : Addr} {ns : List Int} (h : ScrAt K a H r ns) : SqL K H a (ns.map V.int) := h.elim (fun h => h.2) fun h => h H
theorem ScrAt.sb {K : PySem.W.Frag} {a : Addr} {H H' : Hp} {r : Addr} {ns : List Int} (h : ScrAt K a H r ns) (e : SB r H H') : ScrAt K a H' r ns := h.elim (fun h => .inl ⟨h.1, e.seq h.1 h.2⟩) fun h => .inr h
theorem ScrAt.new {K : PySem.W.Frag} {a : Addr} {H H' : Hp} {r : Addr} {ns : List Int} (e : Same H H') (nr : H r = none) (h : SqL K H a (ns.map V.int)) : ScrAt K a H' r ns := by
  rcases h with (h | ⟨o, h⟩) | h
  · exact .inl ⟨ne_of_none h nr, e.seq (.inl (.inl h))⟩
  · exact .inl ⟨ne_of_none h nr, e.seq (.inl (.inr ⟨o, h⟩))⟩
  · exact .inr fun H' => .inr h
def RowAt (K : PySem.W.Frag) (a : Addr) (H : Hp) (r : Addr) : Prop := ∃ (ns : List Int) (i : Nat) (st cell : Int), H r = some (.lst [.ref a, .int (i : Nat), .int st, .int cell]) ∧ ScrAt K a H r ns
theorem RowAt.same {K : PySem.W.Frag} {a : Addr} {H H' : Hp} {r : Addr} (e : Same H H') (h : RowAt K a H r) : RowAt K a H' r := by
  obtain ⟨ns, i, st, cell, h1, h3⟩ := h
  exact ⟨ns, i, st, cell, e _ _ h1, h3.sb (SB.of e)⟩
theorem RowAt.here {K : PySem.W.Frag} {a : Addr} {H : Hp} {r : Addr} (h : RowAt K a H r) : ∃ xs, H r = some (.lst xs) := by
  obtain ⟨ns, i, st, cell, h1, h3⟩ := h
  exact ⟨_, h1⟩
/-- a new object aside -/
theorem RowAt.put {K : PySem.W.Frag} {a D : Addr} {H3 H : Hp} {r : Addr} {o : HO} (h3 : RowAt K a H3 r) (nD : H3 D = none) (h : RowAt K a H r) : RowAt K a (upd H D o) r := by
  obtain ⟨ns, i, st, cell, g1, g3⟩ := h3
  obtain ⟨ns', i', st', cell', k1, k3⟩ := h
  have nr : r ≠ D := ne_of_none g1 nD
  refine ⟨if a = D then ns else ns', i', st', cell', by rw [upd_ne nr]; exact k1, ?_⟩
  by_cases q : a = D
  · rw [if_pos q]
    rcases g3 with ⟨_, (z | ⟨o, z⟩) | z⟩ | z
    · rw [q, nD] at z
      cases z
    · rw [q, nD] at z
      cases z
    · exact .inr fun H' => .inr z
    · exact .inr z
  · rw [if_neg q]
    rcases k3 with ⟨k3, k4⟩ | k3
    · exact .inl ⟨k3, SB.put.seq q k4⟩
    · exact .inr k3
theorem SB.tup {r a : Addr} {H H' : Hp} {xs ys : List V} (e : SB r H H') (hr : H r = some (.lst ys)) (h : H a = some (.tup xs)) : H' a = some (.tup xs) := e _ _ (ne_of h hr (by intro z; cases z)) h
theorem SB.co {r a : Addr} {H H' : Hp} {n : Nat} {ps : List (Nat × Nat)} {ys : List V} (e : SB r H H') (hr : H r = some (.lst ys)) (h : CoAt H a n ps) : CoAt H' a n ps := by
  obtain ⟨pt, h1, ls, h2, h3, h4⟩ := h
  exact ⟨pt, e.tup hr h1, ls, e.tup hr h2, h3, fun i t p a b => e.tup hr (h4 i t p a b)⟩
section
variable {P : Program} {w : World} {K : PySem.W.Frag} {mg : Str → Option Value} {base : Heap}
theorem scBegins : FnScope ["_law_company_here", "_law_one", "_law_other"] ["_law_company_here", "_law_one", "_law_other"] (defScope sBegins) := ⟨rfl, rfl, rfl, by decide +kernel, rfl, by decide +kernel, by decide +kernel⟩
def spBegins : Sp := fun vs H Q _ => ∃ (a : Addr) (n : Nat) (ps : List (Nat × Nat)) (x y : List Nat), vs = [.ref a, .str (S x), .str (S y)] ∧ CoAt H a n ps ∧ Good n ps ∧ KO n ps x ∧ KO n ps y ∧ ∀ H', Same H H' → Q (.bl (decide (kind (FF ps) (x ++ y) = y))) H'
theorem ok_begins {f : Addr} {fd : FuncData} (F : Fun K "_law_begins" "_law_begins" sBegins f fd) (cK : Cal P w K mg base 2 "_law_kind" ["_law_company_here", "_law_word_here"] spKind) : FnOk P w K mg base CX0 3 f fd ["_law_company_here", "_law_one", "_law_other"] spBegins := by
  refine F.ok scBegins (fun vs H Q E h => ?_) (fun cdv A outer s H vs Q E hr h => ?_)
  · obtain ⟨a, n, ps, x, y, rfl, _⟩ := h
    rfl
  · obtain ⟨a, n, ps, x, y, rfl, hC, hG, kx, ky, k⟩ := h
    refine ⟨_, pss_one (ps_ret (pe_cmpR op_eq (pe_cl cK hr rfl (pa_cons (pv 0) (pa_cons (pe_op op_add_str (pv 1) (pv 2)) pa_nil))) (pv 2) (nomark _))), ?_⟩
    have lx := kx.len
    have ly := ky.len
    have h7 := hG.most
    have big : 1000 ≤ sizeLine := by decide
    refine ⟨_, rfl, _, rfl, _, rfl, _, _, rfl, rfl, by rw [S_len, S_len]; omega, ?_⟩
    rw [S_app]
    refine ⟨a, n, ps, x ++ y, rfl, hC, hG, kx.app ky, by rw [List.length_append]; omega, fun H2 s2 => ⟨_, rfl, rfl, ?_⟩⟩
    have e : decide (V.str (S (kind (FF ps) (x ++ y))) = V.str (S y)) = decide (kind (FF ps) (x ++ y) = y) := decide_eq_decide.mpr ⟨fun z => by injection z with z; exact S_inj z, fun z => by rw [z]⟩
    show Q (.bl (decide (V.str (S (kind (FF ps) (x ++ y))) = V.str (S y)))) H2
    rw [e]
    exact k H2 s2
theorem scCommonL : FnScope ["_law_company_here", "_law_one", "_law_other", "_law_found", "_law_sign"] ["_law_company_here", "_law_one", "_law_other"] (defScope sCommonL) := ⟨rfl, rfl, rfl, by decide +kernel, rfl, by decide +kernel, by decide +kernel⟩
def spCommonL : Sp := fun vs H Q _ => ∃ (a : Addr) (n : Nat) (ps : List (Nat × Nat)) (x y : List Nat), vs = [.ref a, .str (S x), .str (S y)] ∧ CoAt H a n ps ∧ Good n ps ∧ KO n ps x ∧ KO n ps y ∧ ∀ H', Same H H' → Q (.str (S (common (FF ps) x y))) H'
theorem ok_commonL {f : Addr} {fd : FuncData} (F : Fun K "_law_common" "_law_common" sCommonL f fd) (cK : Cal P w K mg base 2 "_law_kind" ["_law_company_here", "_law_word_here"] spKind) (cB : Cal P w K mg base 3 "_law_begins" ["_law_company_here", "_law_one", "_law_other"] spBegins) : FnOk P w K mg base CX0 4 f fd ["_law_company_here", "_law_one", "_law_other"] spCommonL := by
  refine F.ok scCommonL (fun vs H Q E h => ?_) (fun cdv A outer s H vs Q E hr h => ?_)
  · obtain ⟨a, n, ps, x, y, rfl, _⟩ := h
    rfl
  · obtain ⟨a, n, ps, x, y, rfl, hC, hG, kx, ky, k⟩ := h
    have nd := scCommonL.nd
    have hr2 := hr.mono (j := 2) (by decide)
    refine ⟨_, pss_cons (ps_set (i := 3) nd rfl (.inl rfl) pe_str)
      (pss_cons (ps_for PassesOwn.never rfl (pi_str (pv 1)) (pg_name (i := 4) nd rfl (.inl rfl))
        (pss_one (ps_if (PW.pt (pw_and (pt_cmpR op_in_sign (pv 4) (pv 2) rfl) (pw_and1 (pt_val (pe_cl cB hr rfl (pa_cons (pv 0) (pa_cons (pe_cl cK hr2 rfl (pa_cons (pv 0) (pa_cons (pe_op op_add_str (pv 3) (pv 4)) pa_nil))) (pa_cons (pv 1) pa_nil))))))))
          (pss_one (ps_set (i := 3) nd rfl (.inl rfl) (pe_op op_add_str (pv 3) (pe_ifExp (pt_val (pe_cl cB hr rfl (pa_cons (pv 0) (pa_cons (pe_cl cK hr2 rfl (pa_cons (pv 0) (pa_cons (pe_op op_add_str (pv 3) (pv 4)) pa_nil))) (pa_cons (pv 2) pa_nil))))) (pv 4) pe_str)))) pss_nil)))
      (pss_one (ps_ret (pe_cl cK hr2 rfl (pa_cons (pv 0) (pa_cons (pv 3) pa_nil)))))), ?_⟩
    have lx := kx.len
    have ly := ky.len
    have h7 := hG.most
    have big : 1000 ≤ sizeLine := by decide
    refine ⟨_, rfl, _, rfl, ?_⟩
    refine for_gen (over_str x H) (fun i σ H2 => ∃ v4 f, σ = [some (.ref a), some (.str (S x)), some (.str (S y)), some (.str (S f)), v4] ∧ f = (x.take i).foldl (turnL (FF ps) x y) [] ∧ f.length ≤ i ∧ (∀ c ∈ f, c ∈ letters n) ∧ Same H H2) ⟨none, [], by rw [← S_nil]; rfl, rfl, Nat.le_refl _, fun c hc => by simp at hc, Same.refl _⟩ (fun i σ H2 ⟨_, _, _, _, _, _, h⟩ => h) ?_ ?_
    · rintro i z σ H2 H3 hi ⟨v4, f, rfl, ef, hl, hf, s2⟩ s3 ⟨c, hc, rfl⟩
      have cx : c ∈ x := List.mem_of_getElem? hc
      have uc := kx.mem c cx
      have s23 := s2.trans s3
      have stp : (x.take (i + 1)).foldl (turnL (FF ps) x y) [] = turnL (FF ps) x y f c := by
        rw [List.take_add_one, hc, Option.toList_some, List.foldl_append, ← ef]
        rfl
      have hfc : ∀ q ∈ f ++ [c], q ∈ letters n := fun q hq => (List.mem_append.mp hq).elim (hf q) fun h => by rw [List.mem_singleton.mp h]; exact uc
      have kf : KO n ps (kind (FF ps) (f ++ [c])) := KO.kind hfc
      have fcl : (f ++ [c]).length ≤ 1000 := by rw [List.length_append]; show f.length + 1 ≤ 1000; omega
      have fcs : (S f).length + (S [c]).length ≤ sizeLine := by rw [S_len, S_len]; show f.length + 1 ≤ _; omega
      refine ⟨_, rfl, _, rfl, _, _, rfl, rfl, _, rfl, ?_⟩
      rw [S_list]
      by_cases cy : c ∈ y
      · refine dT cy ?_
        refine ⟨_, rfl, _, rfl, _, rfl, _, rfl, _, _, rfl, rfl, fcs, ?_⟩
        rw [S_app]
        refine ⟨a, n, ps, f ++ [c], rfl, hC.same s23, hG, hfc, fcl, fun H4 s4 => ⟨_, rfl, a, n, ps, _, x, rfl, hC.same (s23.trans s4), hG, kf, kx, fun H5 s5 => ⟨_, rfl, ?_⟩⟩⟩
        have s25 := (s23.trans s4).trans s5
        by_cases b1 : kind (FF ps) (kind (FF ps) (f ++ [c]) ++ x) = x
        · refine dT b1 ?_
          refine ⟨_, rfl, _, rfl, _, rfl, _, rfl, _, rfl, _, _, rfl, rfl, fcs, ?_⟩
          rw [S_app]
          refine ⟨a, n, ps, f ++ [c], rfl, hC.same s25, hG, hfc, fcl, fun H6 s6 => ⟨_, rfl, a, n, ps, _, y, rfl, hC.same (s25.trans s6), hG, kf, ky, fun H7 s7 => ⟨_, rfl, ?_⟩⟩⟩
          have s27 := (s25.trans s6).trans s7
          by_cases b2 : kind (FF ps) (kind (FF ps) (f ++ [c]) ++ y) = y
          · refine dT b2 ?_
            refine ⟨_, rfl, _, _, rfl, rfl, fcs, ?_⟩
            rw [S_app]
            exact ⟨_, _, rfl, by rw [stp, turnL, if_pos ⟨cy, b1⟩, if_pos b2], by rw [List.length_append]; show f.length + 1 ≤ i + 1; omega, hfc, s27⟩
          · refine dF b2 ?_
            refine ⟨_, _, rfl, rfl, by rw [S_len]; show f.length + 0 ≤ _; omega, ?_⟩
            rw [S_nil, S_app]
            exact ⟨_, _, rfl, by rw [stp, turnL, if_pos ⟨cy, b1⟩, if_neg b2], by rw [List.append_nil]; omega, by rw [List.append_nil]; exact hf, s27⟩
        · refine dF b1 ?_
          exact ⟨_, _, rfl, by rw [stp, turnL, if_neg fun z => b1 z.2], by omega, hf, s25⟩
      · refine dF cy ?_
        exact ⟨_, _, rfl, by rw [stp, turnL, if_neg fun z => cy z.1], by omega, hf, s23⟩
    · rintro σ H2 ⟨v4, f, rfl, ef, hl, hf, s2⟩
      rw [List.take_length] at ef
      refine ⟨_, rfl, _, rfl, a, n, ps, f, rfl, hC.same s2, hG, hf, by omega, fun H3 s3 => ?_⟩
      rw [ef]
      exact k H3 (s2.trans s3)
theorem scTaken : FnScope ["_law_row", "_law_many", "_law_found", "_law_cell"] ["_law_row", "_law_many"] (defScope sTaken) := ⟨rfl, rfl, rfl, by decide +kernel, rfl, by decide +kernel, by decide +kernel⟩
def spTaken (K : PySem.W.Frag) : Sp := fun vs H Q _ => ∃ (r a : Addr) (m : Nat), vs = [.ref r, .int (m : Nat)] ∧ 1 ≤ m ∧ m ≤ 1000 ∧ RowAt K a H r ∧ ∀ (v : Nat) H', v < m → SB r H H' → RowAt K a H' r → Q (.int (v : Nat)) H'
theorem ok_taken {f : Addr} {fd : FuncData} (F : Fun K "_law_taken" "_law_taken" sTaken f fd) (mI : mg "int" = none) (mL : mg "len" = none) : FnOk P w K mg base CX0 1 f fd ["_law_row", "_law_many"] (spTaken K) := by
  refine F.ok scTaken (fun vs H Q E h => ?_) (fun cdv A outer s H vs Q E hr h => ?_)
  · obtain ⟨r, a, m, rfl, _⟩ := h
    rfl
  · obtain ⟨r, a, m, rfl, hm1, hm2, ⟨ns, i, st, cell, h1, h3⟩, k⟩ := h
    have nd := scTaken.nd
    refine ⟨_, pss_cons (ps_if (pt_cmpR op_gt (pe_ix ix_list (pv 0) pe_int (fun _ _ => rfl)) pe_int (nomark _))
        (pss_cons (ps_set (i := 2) nd rfl (.inl rfl) (pe_op op_mod (pe_callTy call_int1 rfl mI (by decide +kernel) (pa_cons (pe_ix ix_list (pv 0) pe_int (fun _ _ => rfl)) pa_nil)) (pv 1)))
        (pss_cons (ps_asg (pe_op op_fdivN (pe_ix ix_list (pv 0) pe_int (fun _ _ => rfl)) (pv 1)) (pg_sub (pv 0) pe_int set_list))
        (pss_one (ps_ret (pv 2))))) pss_nil)
      (pss_cons (ps_asg (pe_op op_add (pe_ix ix_list (pv 0) pe_int (fun _ _ => rfl)) pe_int) (pg_sub (pv 0) pe_int set_list))
      (pss_cons (ps_if (pt_cmpR op_gt (pe_ix ix_list (pv 0) pe_int (fun _ _ => rfl)) (pe_callB call_len_seq (by rfl) mL PySem.boot_len (pa_cons (pe_ix ix_list (pv 0) pe_int (fun _ _ => rfl)) pa_nil)) (nomark _))
        (pss_cons (ps_asg (pe_op op_mod (pe_callTy call_int1 rfl mI (by decide +kernel) (pa_cons (pe_op op_add (pe_op op_mul (pe_ix ix_list (pv 0) pe_int (fun _ _ => rfl)) pe_int) pe_int) pa_nil)) pe_int) (pg_sub (pv 0) pe_int set_list))
        (pss_one (ps_ret (pe_op op_mod (pe_callTy call_int1 rfl mI (by decide +kernel) (pa_cons (pe_op op_fdiv (pe_ix ix_list (pv 0) pe_int (fun _ _ => rfl)) pe_int) pa_nil)) (pv 1))))) pss_nil)
      (pss_cons (ps_set (i := 3) nd rfl (.inl rfl) (pe_ix ix_list (pe_ix ix_list (pv 0) pe_int (fun _ _ => rfl)) (pe_op op_sub (pe_ix ix_list (pv 0) pe_int (fun _ _ => rfl)) pe_int) (fun _ _ => rfl)))
      (pss_cons (ps_asg (pe_op op_mod (pe_callTy call_int1 rfl mI (by decide +kernel) (pa_cons (pe_op op_add (pe_op op_add (pe_op op_mul (pe_ix ix_list (pv 0) pe_int (fun _ _ => rfl)) pe_int) (pv 3)) pe_int) pa_nil)) pe_int) (pg_sub (pv 0) pe_int set_list))
      (pss_cons (ps_if (pt_cmpR op_ge (pv 3) (pe_op op_pow pe_int pe_int) (nomark _)) (pss_one (ps_asg (pe_op op_fdivN (pv 3) (pv 1)) (pg_sub (pv 0) pe_int set_list))) pss_nil)
      (pss_one (ps_ret (pe_op op_mod (pe_callTy call_int1 rfl mI (by decide +kernel) (pa_cons (pv 3) pa_nil)) (pv 1))))))))), ?_⟩
    have mp : (0 : Int) < (m : Int) := by omega
    have md : ∀ c : Int, ∃ v : Nat, c % (m : Int) = (v : Nat) ∧ v < m := fun c => by
      have a1 := Int.emod_nonneg c (show (m : Int) ≠ 0 by omega)
      have a2 := Int.emod_lt_of_pos c mp
      exact ⟨(c % (m : Int)).toNat, by omega, by omega⟩
    have fin : ∀ (c : Int) (H2 : Hp) (i' : Nat) (st' cell' : Int), SB r H H2 → H2 r = some (.lst [.ref a, .int (i' : Nat), .int st', .int cell']) → Q (.int (c % (m : Int))) H2 := fun c H2 i' st' cell' s2 hr2 => by
      obtain ⟨v, e, hv⟩ := md c
      rw [e]
      exact k v H2 hv s2 ⟨ns, i', st', cell', hr2, h3.sb s2⟩
    have dv : (m : Int) ≠ 0 ∧ (m : Int).natAbs < 1073741824 := ⟨by omega, by omega⟩
    refine ⟨_, rfl, r, _, _, _, rfl, rfl, SqL.of h1, atI_nat (j := 3) rfl, _, _, rfl, rfl, _, rfl, ?_⟩
    by_cases c0 : cell > 0
    · refine dT c0 ?_
      refine ⟨_, rfl, r, _, _, _, rfl, rfl, SqL.of h1, atI_nat (j := 3) rfl, .inl ⟨_, rfl, _, rfl, _, _, rfl, rfl, mp, ?_⟩⟩
      refine ⟨_, rfl, r, _, _, _, rfl, rfl, SqL.of h1, atI_nat (j := 3) rfl, _, rfl, _, _, rfl, rfl, dv, _, rfl, r, _, _, 3, rfl, rfl, h1, rfl, ?_⟩
      refine ⟨_, rfl, ?_⟩
      exact fin cell _ i st _ SB.put upd_same
    · refine dF c0 ?_
      refine ⟨_, rfl, r, _, _, _, rfl, rfl, SqL.of h1, atI_nat (j := 1) rfl, _, _, rfl, rfl, _, rfl, r, _, _, 1, rfl, rfl, h1, rfl, ?_⟩
      have e1 : (upd H r (.lst ([V.ref a, .int (i : Nat), .int st, .int cell].set 1 (.int ((i : Nat) + 1))))) r = some (.lst [.ref a, .int ((i + 1 : Nat) : Int), .int st, .int cell]) := upd_same
      have sb1 : SB r H (upd H r (.lst ([V.ref a, .int (i : Nat), .int st, .int cell].set 1 (.int ((i : Nat) + 1))))) := SB.put
      generalize (upd H r (.lst ([V.ref a, .int (i : Nat), .int st, .int cell].set 1 (.int ((i : Nat) + 1))))) = H1 at e1 sb1
      have h3' := (h3.sb sb1).sq
      refine ⟨_, rfl, r, _, _, _, rfl, rfl, SqL.of e1, atI_nat (j := 1) rfl, _, rfl, r, _, _, _, rfl, rfl, SqL.of e1, atI_nat (j := 0) rfl, a, _, rfl, .inl h3', _, _, rfl, rfl, _, rfl, ?_⟩
      by_cases c1 : ((i + 1 : Nat) : Int) > ((ns.map V.int).length : Int)
      · refine dT c1 ?_
        refine ⟨_, rfl, r, _, _, _, rfl, rfl, SqL.of e1, atI_nat (j := 2) rfl, _, _, rfl, rfl, .inr (by decide), _, _, rfl, rfl, .inl ⟨_, rfl, _, _, rfl, rfl, (by show (0 : Int) < 2147483647; decide), _, rfl, r, _, _, 2, rfl, rfl, e1, rfl, ?_⟩⟩
        refine ⟨_, rfl, r, _, _, _, rfl, rfl, SqL.of upd_same, atI_nat (j := 2) rfl, _, _, rfl, rfl, ⟨by decide, by decide⟩, .inl ⟨_, rfl, _, rfl, _, _, rfl, rfl, mp, ?_⟩⟩
        exact fin _ _ (i + 1) _ cell (sb1.trans SB.put) upd_same
      · refine dF c1 ?_
        have hi : i < ns.length := by rw [List.length_map] at c1; omega
        have ei : (ns.map V.int)[i]? = some (.int ns[i]) := by rw [List.getElem?_map, List.getElem?_eq_getElem hi]; rfl
        have ea : atI (ns.map V.int) (((i + 1 : Nat) : Int) - 1) = some (.int ns[i]) := by
          rw [show ((i + 1 : Nat) : Int) - 1 = (i : Nat) by omega]
          exact atI_nat ei
        generalize ns[i] = cl at ea
        refine ⟨_, rfl, r, _, _, _, rfl, rfl, SqL.of e1, atI_nat (j := 0) rfl, _, rfl, r, _, _, _, rfl, rfl, SqL.of e1, atI_nat (j := 1) rfl, _, _, rfl, rfl, a, _, _, _, rfl, rfl, h3', ea, ?_⟩
        refine ⟨_, rfl, r, _, _, _, rfl, rfl, SqL.of e1, atI_nat (j := 2) rfl, _, _, rfl, rfl, .inr (by decide), _, rfl, _, _, rfl, rfl, _, _, rfl, rfl, .inl ⟨_, rfl, _, _, rfl, rfl, (by show (0 : Int) < 2147483647; decide), _, rfl, r, _, _, 2, rfl, rfl, e1, rfl, ?_⟩⟩
        refine ⟨_, rfl, _, _, rfl, rfl, ⟨by decide, by decide, by decide⟩, _, _, rfl, rfl, _, rfl, ?_⟩
        refine ite2 (fun _ => ?_) fun _ => ?_
        · refine ⟨_, rfl, _, rfl, _, _, rfl, rfl, dv, _, rfl, r, _, _, 3, rfl, rfl, upd_same, rfl, ?_⟩
          refine ⟨_, rfl, .inl ⟨_, rfl, _, rfl, _, _, rfl, rfl, mp, ?_⟩⟩
          exact fin _ _ (i + 1) _ _ ((sb1.trans SB.put).trans SB.put) upd_same
        · refine ⟨_, rfl, .inl ⟨_, rfl, _, rfl, _, _, rfl, rfl, mp, ?_⟩⟩
          exact fin _ _ (i + 1) _ cell (sb1.trans SB.put) upd_same
end
end Ow

end OwRow
section OwDraw
set_option linter.all false
set_option maxRecDepth 100000
set_option maxHeartbeats 8000000
namespace Ow
open PySem PySem.Spec PyProof.Rows L2
section
variable {P : Program} {w : World} {K : PySem.W.Frag} {mg : Str → Option Value} {base : Heap}
/-- all pairs of the letters below n, the first below i -/
def allP (n i : Nat) : List (Nat × Nat) := (List.range i).flatMap fun a => (List.range (n - (a + 1))).map fun k => (a, a + 1 + k)
theorem allP_succ (n i : Nat) : allP n (i + 1) = allP n i ++ (List.range (n - (i + 1))).map fun k => (i, i + 1 + k) := by
  unfold allP
  rw [List.range_succ, List.flatMap_append]
  simp
theorem mem_allP {n i : Nat} {p : Nat × Nat} (h : p ∈ allP n i) : p.1 < i ∧ p.1 < p.2 ∧ p.2 < n := by
  unfold allP at h
  obtain ⟨a, ha, hp⟩ := List.mem_flatMap.mp h
  obtain ⟨k, hk, rfl⟩ := List.mem_map.mp hp
  have := List.mem_range.mp ha
  have := List.mem_range.mp hk
  exact ⟨by omega, by show a < a + 1 + k; omega, by show a + 1 + k < n; omega⟩
theorem allP_asc (n : Nat) : ∀ i, (allP n i).Pairwise fun p q => p.1 < q.1 ∨ (p.1 = q.1 ∧ p.2 < q.2)
  | 0 => by simp [allP]
  | i + 1 => by
    rw [allP_succ]
    refine List.pairwise_append.mpr ⟨allP_asc n i, ?_, fun p hp q hq => ?_⟩
    · rw [List.pairwise_map]
      exact List.pairwise_lt_range.imp fun h => .inr ⟨rfl, by omega⟩
    · obtain ⟨k, _, rfl⟩ := List.mem_map.mp hq
      exact .inl (mem_allP hp).1
theorem allP_len : ∀ n, n ≤ 7 → (allP n n).length ≤ 21 := by decide
theorem scPairs : FnScope ["_law_many", "_law_found", "_law_one", "_law_other"] ["_law_many"] (defScope sPairs) := ⟨rfl, rfl, rfl, by decide +kernel, rfl, by decide +kernel, by decide +kernel⟩
def LPairs (H : Hp) (D : Addr) (ps : List (Nat × Nat)) : Prop := ∃ ls : List Addr, H D = some (.lst (ls.map V.ref)) ∧ ls.length = ps.length ∧ ∀ (i : Nat) (t : Addr) (p : Nat × Nat), ls[i]? = some t → ps[i]? = some p → H t = some (.tup [.int (p.1 : Nat), .int (p.2 : Nat)])
theorem LPairs.sb {r D : Addr} {H H' : Hp} {ps : List (Nat × Nat)} {ys : List V} (e : SB r H H') (hr : H r = some (.lst ys)) (nD : D ≠ r) (h : LPairs H D ps) : LPairs H' D ps := by
  obtain ⟨ls, h1, h2, h3⟩ := h
  exact ⟨ls, e _ _ nD h1, h2, fun i t p a b => e.tup hr (h3 i t p a b)⟩
theorem LPairs.same {D : Addr} {H H' : Hp} {ps : List (Nat × Nat)} (e : Same H H') (h : LPairs H D ps) : LPairs H' D ps := by
  obtain ⟨ls, h1, h2, h3⟩ := h
  exact ⟨ls, e _ _ h1, h2, fun i t p a b => e _ _ (h3 i t p a b)⟩
def spPairs : Sp := fun vs H Q _ => ∃ n : Nat, vs = [.int (n : Nat)] ∧ n ≤ 7 ∧ ∀ H' D, Same H H' → H D = none → LPairs H' D (allP n n) → Q (.ref D) H'
theorem ok_pairs {f : Addr} {fd : FuncData} (F : Fun K "_law_pairs" "_law_pairs" sPairs f fd) (mR : mg "range" = none) : FnOk P w K mg base CX0 1 f fd ["_law_many"] spPairs := by
  refine F.ok scPairs (fun vs H Q E h => ?_) (fun cdv A outer s H vs Q E hr h => ?_)
  · obtain ⟨n, rfl, _⟩ := h
    rfl
  · obtain ⟨n, rfl, h7, k⟩ := h
    have nd := scPairs.nd
    refine ⟨_, pss_cons (ps_set (i := 1) nd rfl (.inl rfl) (pe_lst pa_nil))
      (pss_cons (ps_for PassesOwn.never rfl (pi_range1 rfl mR (pa_cons (pv 0) pa_nil)) (pg_name (i := 2) nd rfl (.inr rfl))
        (pss_one (ps_set (i := 1) nd rfl (.inl rfl) (pe_op op_cat (pv 1) (pe_lc (own := [("_law_other", 3)]) (g := gName 3) (tt := tYes) rfl nd (pi_range2 rfl mR (pa_cons (pe_op op_add (pv 2) pe_int) (pa_cons (pv 0) pa_nil))) (blkOk_by (N := ["_law_many", "_law_found", "_law_one", "_law_other"]) (sc := defScope sPairs) (by decide +kernel)) (fun _ _ _ _ _ => pg_name (i := 3) nd rfl (Or.inl rfl)) (fun _ _ _ _ _ => pts_nil) (fun _ _ _ _ _ => pe_tup (pa_cons (pv 2) (pa_cons (pv 3) pa_nil))))))))
      (pss_one (ps_ret (pv 1)))), ?_⟩
    have big : 1000 ≤ sizeLine := by decide
    refine ⟨by decide, fun D0 nD0 => ?_⟩
    refine ⟨_, rfl, _, rfl, by omega, by omega, ?_⟩
    rw [Int.toNat_natCast]
    refine for_gen over_range (fun i σ H2 => ∃ D v2, σ = [some (.int (n : Nat)), some (.ref D), v2, none] ∧ Same H H2 ∧ H D = none ∧ LPairs H2 D (allP n i)) ⟨D0, none, rfl, same_upd nD0, nD0, [], upd_same, rfl, fun i t p a => by simp at a⟩ (H0 := H) (fun i σ H2 ⟨_, _, _, h, _⟩ => h) ?_ ?_
    · rintro i x σ H2 H3 hi ⟨D, v2, rfl, s2, nD, hL⟩ s3 rfl
      have s23 := s2.trans s3
      have hL3 := hL.same s3
      obtain ⟨ls, hD, hll, hit⟩ := id hL3
      have hlen : ls.length ≤ 100 := by
        rw [hll]
        have h1 := allP_len n h7
        have h2 : (allP n i).length ≤ (allP n n).length := by
          have : ∀ j, i ≤ j → (allP n i).length ≤ (allP n j).length := by
            intro j hj
            induction hj with
            | refl => exact Nat.le_refl _
            | step hj ih => rw [allP_succ, List.length_append]; omega
          exact this n (by omega)
        omega
      refine ⟨_, rfl, _, rfl, _, _, rfl, rfl, _, rfl, _, _, rfl, ⟨by omega, by omega, by omega, by omega⟩, fun D1 nD1 => ?_⟩
      have en : ((n : Int) - (0 + (i : Int) + 1)).toNat = n - (i + 1) := by omega
      rw [en]
      refine lc_raw (n := n - (i + 1)) (fun j acc H5 => Same H3 H5 ∧ ∃ us, acc = us.map V.ref ∧ us.length = j ∧ ∀ (q : Nat) (t : Addr), us[q]? = some t → H5 t = some (.tup [.int (i : Nat), .int ((i + 1 + q : Nat) : Int)])) ⟨same_upd nD1, [], rfl, rfl, fun q t a => by simp at a⟩ (fun j acc H5 hj _ => hj) (fun acc H5 _ => Nat.le_refl _) (fun j acc H5 hj ⟨_, us, e, hu, _⟩ => by rw [e, List.length_map, hu]; omega) ?_ ?_
      · rintro j z H5 H6 acc Nx hj ⟨s5, us, rfl, hul, hut⟩ hD5 ⟨rfl, rfl⟩ kS kN
        refine ⟨rfl, _, rfl, _, rfl, (by show 2 ≤ sizeLine; decide), fun t nt => ?_⟩
        have st := same_upd (o := .tup [.int (0 + (i : Int)), .int (0 + (i : Int) + 1 + (j : Int))]) nt
        refine kS _ _ (st _ _ hD5) ⟨same_put nD1 (s5.trans st), us ++ [t], by rw [List.map_append]; rfl, by rw [List.length_append, hul]; rfl, fun q u hq => ?_⟩
        have hh : (upd H6 t (.tup [.int (0 + (i : Int)), .int (0 + (i : Int) + 1 + (j : Int))])) u = some (.tup [.int (i : Nat), .int ((i + 1 + q : Nat) : Int)]) := by
          by_cases c : q < j
          · rw [List.getElem?_append_left (by omega)] at hq
            exact st _ _ (hut q u hq)
          · have eq : q = j := by
              have := (List.getElem?_eq_some_iff.mp hq).1
              rw [List.length_append, hul] at this
              have h1 : ([t] : List Addr).length = 1 := rfl
              omega
            subst eq
            rw [List.getElem?_append_right (by omega), hul] at hq
            simp at hq
            rw [← hq, upd_same]
            congr 5
            · omega
            · congr 1
              omega
        rw [upd_ne (ne_of hh (st _ _ hD5) (by intro z; cases z))]
        exact hh
      · rintro H5 acc ⟨s5, us, rfl, hul, hut⟩ hD5
        have hL5 := hL3.same s5
        obtain ⟨ls', hD', hll', hit'⟩ := hL5
        have els : ls' = ls := by
          have := hD'.symm.trans (s5 _ _ hD)
          injection this with this
          injection this with this
          exact (List.map_inj_right fun a b e => by injection e).mp this
        subst els
        refine ⟨_, _, _, _, rfl, rfl, hD', hD5, by rw [List.length_map, List.length_map]; omega, fun p np => ?_⟩
        have sp := same_upd (o := .lst (ls'.map V.ref ++ us.map V.ref)) np
        have s35 := (s23.trans s5).trans sp
        refine ⟨p, _, rfl, s35, (s23.trans s5).free np, ls' ++ us, by rw [upd_same, List.map_append], by rw [allP_succ, List.length_append, List.length_append, hll, hul, List.length_map, List.length_range], fun q t pq hq hp => ?_⟩
        rw [allP_succ] at hp
        by_cases c : q < ls'.length
        · rw [List.getElem?_append_left c] at hq
          rw [List.getElem?_append_left (by omega)] at hp
          exact sp _ _ (hit' q t pq hq hp)
        · rw [List.getElem?_append_right (by omega)] at hq
          rw [List.getElem?_append_right (by omega), ← hll] at hp
          have hu := sp _ _ (hut _ t hq)
          rw [List.getElem?_map] at hp
          cases e : (List.range (n - (i + 1)))[q - ls'.length]? with
          | none => rw [e] at hp; cases hp
          | some w =>
            rw [e] at hp
            cases hp
            have ew : w = q - ls'.length := by
              obtain ⟨h1, h2⟩ := List.getElem?_eq_some_iff.mp e
              rw [List.getElem_range] at h2
              exact h2.symm
            rw [ew]
            exact hu
    · rintro σ H2 ⟨D, v2, rfl, s2, nD, hL⟩
      exact ⟨_, rfl, k H2 D s2 nD hL⟩
end
end Ow

end OwDraw
section OwDraw2
set_option linter.all false
set_option maxRecDepth 100000
set_option maxHeartbeats 8000000
namespace Ow
open PySem PySem.Spec PyProof.Rows L2
def LP (H : Hp) (ls : List Addr) (ps : List (Nat × Nat)) : Prop := ls.length = ps.length ∧ ∀ (i : Nat) (t : Addr) (p : Nat × Nat), ls[i]? = some t → ps[i]? = some p → H t = some (.tup [.int (p.1 : Nat), .int (p.2 : Nat)])
theorem LP.sb {r : Addr} {H H' : Hp} {ls : List Addr} {ps : List (Nat × Nat)} {ys : List V} (e : SB r H H') (hr : H r = some (.lst ys)) (h : LP H ls ps) : LP H' ls ps := ⟨h.1, fun i t p a b => e.tup hr (h.2 i t p a b)⟩
theorem LP.upd {D : Addr} {H : Hp} {ls : List Addr} {ps : List (Nat × Nat)} {ys zs : List V} (hD : H D = some (.lst ys)) (h : LP H ls ps) : LP (upd H D (.lst zs)) ls ps := ⟨h.1, fun i t p a b => by
  have e := h.2 i t p a b
  rw [upd_ne (ne_of e hD (by intro z; cases z))]
  exact e⟩
theorem LP.snoc {H : Hp} {ls : List Addr} {ps : List (Nat × Nat)} {t : Addr} {p : Nat × Nat} (h : LP H ls ps) (ht : H t = some (.tup [.int (p.1 : Nat), .int (p.2 : Nat)])) : LP H (ls ++ [t]) (ps ++ [p]) := by
  refine ⟨by rw [List.length_append, List.length_append, h.1]; rfl, fun i u q a b => ?_⟩
  by_cases c : i < ls.length
  · rw [List.getElem?_append_left c] at a
    rw [List.getElem?_append_left (by rw [← h.1]; exact c)] at b
    exact h.2 i u q a b
  · rw [List.getElem?_append_right (by omega)] at a
    rw [List.getElem?_append_right (by rw [← h.1]; omega), ← h.1] at b
    cases e : i - ls.length with
    | zero =>
      rw [e] at a b
      cases a
      cases b
      exact ht
    | succ k =>
      rw [e] at a
      simp at a
theorem lc_pick {K : PySem.W.Frag} {r D0 a : Addr} {ls : List Addr} {qs : List (Nat × Nat)} {H3 : Hp} {g : TG} {tt : TT} {te : TE} {vs : List Nat} {σ : L2.St} {D : Addr} {Qd : Hp → Prop} (h0 : H3 D0 = some (.lst (ls.map V.ref))) (nr : D0 ≠ r) (hl : LP H3 ls qs) (hR : RowAt K a H3 r) (nD : H3 D = none) (few : ls.length < sizeLine)
    (hs : ∀ (t : Addr) (p : Nat × Nat) H5 (Nx : Option V → Hp → Prop), SB r H3 H5 → RowAt K a H5 r → H5 t = some (.tup [.int (p.1 : Nat), .int (p.2 : Nat)]) → (∀ H6, SB r H5 H6 → RowAt K a H6 r → Nx (some (.ref t)) H6) → (∀ H6, SB r H5 H6 → RowAt K a H6 r → Nx none H6) →
      g (.ref t) (wipe σ vs) H5 fun σ2 H2 => wipe σ2 vs = wipe σ vs ∧ tt σ2 H2 fun b H3 => if b = true then te σ2 H3 fun y H4 => Nx (some y) H4 else Nx none H3)
    (hd : ∀ H us ps, SB r H3 H → RowAt K a H r → H D = some (.lst (us.map V.ref)) → LP H us ps → ps.Sublist qs → Qd H) :
    ∃ W : Nat → Nat → Hp → Prop, (∃ m, W 0 m (upd H3 D (.lst []))) ∧ ∀ i m H, W i m H →
      ((Itl K D0).stop i H ∧ Qd H) ∨ ((Itl K D0).go i H ∧ ∃ Nx : Hp → Prop, (∀ H', Nx H' → ∃ m', m' < m ∧ W (i + 1) m' H') ∧ ∀ x H', (Itl K D0).yld i H x H' → g x (wipe σ vs) H' fun σ2 H2 => wipe σ2 vs = wipe σ vs ∧ tt σ2 H2 fun b H3 =>
        if b = true then te σ2 H3 fun y H4 => ∃ acc, H4 D = some (.lst acc) ∧ acc.length < sizeLine ∧ Nx (upd H4 D (.lst (acc ++ [y]))) else Nx H3) := by
  obtain ⟨yr, hr⟩ := hR.here
  have nDr : D ≠ r := fun z => by rw [z, hr] at nD; cases nD
  have n0D : D0 ≠ D := fun z => by rw [z, nD] at h0; cases h0
  have sD : ∀ H5, SB r H3 H5 → SqL K H5 D0 (ls.map V.ref) := fun H5 e => SqL.of (e _ _ nr h0)
  refine lc_raw (n := ls.length) (fun i acc H5 => SB r H3 H5 ∧ RowAt K a H5 r ∧ ∃ us ps, acc = us.map V.ref ∧ LP H5 us ps ∧ ps.Sublist (qs.take i)) ⟨SB.of (same_upd nD), hR.same (same_upd nD), [], [], rfl, ⟨rfl, fun i t p a => by simp at a⟩, by simp⟩
    (fun i acc H5 hi h => ⟨_, .ref ls[i], sD H5 h.1, by rw [List.getElem?_map, List.getElem?_eq_getElem hi]; rfl⟩) (fun acc H5 h => ⟨_, sD H5 h.1, by rw [List.length_map]; exact Nat.le_refl _⟩) (fun i acc H5 hi h => ?_) ?_ ?_
  · obtain ⟨_, _, us, ps, rfl, hlp, hsub⟩ := h
    have := hsub.length_le
    rw [List.length_take] at this
    rw [List.length_map, hlp.1]
    omega
  · rintro i x H5 H5' acc Nx hi ⟨s5, R5, us, ps, rfl, hlp, hsub⟩ hD5 ⟨rfl, hx⟩ kS kN
    have hx := hx _ (sD _ s5)
    have e1 : ls[i]? = some ls[i] := List.getElem?_eq_getElem hi
    have iq : i < qs.length := by rw [← hl.1]; exact hi
    have e2 : qs[i]? = some qs[i] := List.getElem?_eq_getElem iq
    rw [List.getElem?_map, e1] at hx
    cases hx
    generalize ls[i] = t at e1
    generalize qs[i] = p at e2
    have ht5 := s5.tup hr (hl.2 i t p e1 e2)
    obtain ⟨y5, hr5⟩ := R5.here
    refine hs t p H5' Nx s5 R5 ht5 (fun H7 s57 R7 => ?_) fun H7 s57 R7 => ?_
    · have hD7 := s57 _ _ nDr hD5
      refine kS _ _ hD7 ⟨fun b o nb e => ?_, hR.put nD R7, us ++ [t], ps ++ [p], by rw [List.map_append]; rfl, ((hlp.sb s57 hr5).snoc (s57.tup hr5 ht5)).upd hD7, ?_⟩
      · rw [upd_ne (ne_of_none e nD)]
        exact s57 b o nb (s5 b o nb e)
      · rw [List.take_add_one, e2]
        exact List.Sublist.append hsub (List.Sublist.refl _)
    · refine kN _ (s57 _ _ nDr hD5) ⟨s5.trans s57, R7, us, ps, rfl, hlp.sb s57 hr5, ?_⟩
      rw [List.take_add_one, e2]
      exact hsub.trans (List.sublist_append_left _ _)
  · rintro H5 acc ⟨s5, R5, us, ps, rfl, hlp, hsub⟩ hD5
    exact hd H5 us ps s5 R5 hD5 hlp (hsub.trans (List.take_sublist _ _))
section
variable {P : Program} {w : World} {K : PySem.W.Frag} {mg : Str → Option Value} {base : Heap}
theorem scCompany : FnScope ["_law_row", "_law_most", "_law_many", "_law_ways", "_law_pairs_here", "_law_pair"] ["_law_row", "_law_most"] (defScope sCompany) := ⟨rfl, rfl, rfl, by decide +kernel, rfl, by decide +kernel, by decide +kernel⟩
def spCompany (K : PySem.W.Frag) : Sp := fun vs H Q _ => ∃ r a : Addr, vs = [.ref r, .int 7] ∧ RowAt K a H r ∧ ∀ c n ps H', SB r H H' → RowAt K a H' r → CoAt H' c n ps → Good n ps → Q (.ref c) H'
theorem ok_company {f : Addr} {fd : FuncData} (F : Fun K "_law_company" "_law_company" sCompany f fd) (mT : mg "tuple" = none) (cT : Cal P w K mg base 1 "_law_taken" ["_law_row", "_law_many"] (spTaken K)) (cP : Cal P w K mg base 1 "_law_pairs" ["_law_many"] spPairs) : FnOk P w K mg base CX0 2 f fd ["_law_row", "_law_most"] (spCompany K) := by
  refine F.ok scCompany (fun vs H Q E h => ?_) (fun cdv A outer s H vs Q E hr h => ?_)
  · obtain ⟨r, a, rfl, _⟩ := h
    rfl
  · obtain ⟨r, a, rfl, hR, k⟩ := h
    have nd := scCompany.nd
    refine ⟨_, pss_cons (ps_asg (pe_tup (pa_cons (pe_op op_add pe_int (pe_cl cT hr rfl (pa_cons (pv 0) (pa_cons (pv 1) pa_nil)))) (pa_cons (pe_ix ix_list (pe_lst (pa_cons pe_int (pa_cons pe_int (pa_cons pe_int pa_nil)))) (pe_cl cT hr rfl (pa_cons (pv 0) (pa_cons pe_int pa_nil))) (fun _ _ => rfl)) pa_nil))) (pg_tup rfl (pgs_cons (pg_name (i := 2) nd rfl (.inl rfl)) (pgs_cons (pg_name (i := 3) nd rfl (.inr rfl)) pgs_nil))))
      (pss_cons (ps_setLc (i := 4) (own := [("_law_pair", 5)]) (g := gName 5) rfl nd rfl rfl (sw_true rfl rfl rfl (by decide +kernel)) (pi_list (pe_cl cP hr rfl (pa_cons (pv 2) pa_nil))) (blkOk_by (N := ["_law_row", "_law_most", "_law_many", "_law_ways", "_law_pairs_here", "_law_pair"]) (sc := defScope sCompany) (by decide +kernel)) (fun _ _ _ _ _ => pg_name (i := 5) nd rfl (Or.inl rfl)) (fun _ _ _ _ _ => pts_one (pt_cmpR op_gt (pe_cl cT hr rfl (pa_cons (pv 0) (pa_cons (pv 3) pa_nil))) pe_int (nomark _))) (fun _ _ _ _ _ => pv 5))
      (pss_cons (ps_if (pt_cmpR op_eq (pe_cl cT hr rfl (pa_cons (pv 0) (pa_cons pe_int pa_nil))) pe_int (nomark _))
        (pss_one (ps_setLc (i := 4) (own := [("_law_pair", 5)]) (g := gName 5) rfl nd rfl rfl (sw_true rfl rfl rfl (by decide +kernel)) (pi_list (pv 4)) (blkOk_by (N := ["_law_row", "_law_most", "_law_many", "_law_ways", "_law_pairs_here", "_law_pair"]) (sc := defScope sCompany) (by decide +kernel)) (fun _ _ _ _ _ => pg_name (i := 5) nd rfl (Or.inl rfl)) (fun _ _ _ _ _ => pts_one (pt_cmpR op_lt (pe_op op_sub (pe_ix (r := rIxT K) ix_tup (pv 5) pe_int (fun _ _ => rfl)) (pe_ix (r := rIxT K) ix_tup (pv 5) pe_int (fun _ _ => rfl))) pe_int (nomark _))) (fun _ _ _ _ _ => pv 5))) pss_nil)
      (pss_one (ps_ret (pe_tup (pa_cons (pv 2) (pa_cons (pe_callTy call_tuple_of rfl mT (by decide +kernel) (pa_cons (pv 4) pa_nil)) pa_nil))))))), ?_⟩
    have big : 1000 ≤ sizeLine := by decide
    refine ⟨_, rfl, _, rfl, r, a, 7, rfl, by decide, by decide, hR, fun v H1 hv s1 R1 => ⟨_, _, rfl, rfl, (by show 3 ≤ sizeLine; decide), fun D0 nD0 => ?_⟩⟩
    obtain ⟨y1, hr1⟩ := R1.here
    have n0r : D0 ≠ r := fun z => by rw [z, hr1] at nD0; cases nD0
    have hD0 : (upd H1 D0 (.lst [.int 2, .int 3, .int 5])) D0 = some (.lst [.int 2, .int 3, .int 5]) := upd_same
    have t1 := same_upd (o := .lst [V.int 2, .int 3, .int 5]) nD0
    refine ⟨_, rfl, r, a, 3, rfl, by decide, by decide, R1.same t1, fun v3 H2 hv3 s2 R2 => ?_⟩
    obtain ⟨wy, ew, hw1, hw2⟩ : ∃ wy : Nat, ([V.int 2, .int 3, .int 5] : List V)[v3]? = some (.int (wy : Nat)) ∧ 1 ≤ wy ∧ wy ≤ 1000 := by
      match v3, hv3 with
      | 0, _ => exact ⟨2, rfl, by decide, by decide⟩
      | 1, _ => exact ⟨3, rfl, by decide, by decide⟩
      | 2, _ => exact ⟨5, rfl, by decide, by decide⟩
    refine ⟨D0, _, _, _, rfl, rfl, SqL.of (s2 _ _ n0r hD0), atI_nat ew, (by show 2 ≤ sizeLine; decide), fun t nt => ?_⟩
    have t2 := same_upd (o := .tup [.int (1 + (v : Int)), .int (wy : Nat)]) nt
    have s02 : SB r H (upd H2 t (.tup [.int (1 + (v : Int)), .int (wy : Nat)])) := ((s1.trans (SB.of t1)).trans s2).trans (SB.of t2)
    have R3 := R2.same t2
    refine ⟨_, _, rfl, SqT.of upd_same, rfl, _, _, rfl, _, _, rfl, rfl, ?_⟩
    generalize (upd H2 t (.tup [.int (1 + (v : Int)), .int (wy : Nat)])) = H3 at s02 R3
    have en : (1 : Int) + (v : Int) = ((v + 1 : Nat) : Int) := by omega
    refine ⟨_, rfl, v + 1, by show [V.int (1 + (v : Int))] = _; rw [en], by omega, fun H4 D s4 nD hL => ?_⟩
    obtain ⟨ls, hD, hlp⟩ := id hL
    have R4 := R3.same s4
    obtain ⟨y3, hr3⟩ := R3.here
    have nr : D ≠ r := fun z => by rw [z, hr3] at nD; cases nD
    have few : ls.length ≤ 21 := by rw [hlp.1]; exact allP_len _ (by omega)
    have s04 := s02.trans (SB.of s4)
    refine ⟨D, rfl, ⟨_, SqL.of hD⟩, fun D1 nD1 => lc_pick (a := a) hD nr hlp R4 nD1 (by omega) ?_ ?_⟩
    · rintro t' p H5 Nx s5 R5 ht5 kS kN
      refine ⟨rfl, _, rfl, _, rfl, r, a, wy, rfl, hw1, hw2, R5, fun v6 H6 hv6 s6 R6 => ⟨_, _, rfl, rfl, _, rfl, ?_⟩⟩
      refine ite2 (fun _ => ?_) fun _ => ?_
      · exact ⟨_, rfl, kS H6 s6 R6⟩
      · exact kN H6 s6 R6
    · intro H5 us ps s5 R5 hD1 lp5 sub5
      have nD1r : D1 ≠ r := fun z => by
        obtain ⟨y4, hr4⟩ := R4.here
        rw [z, hr4] at nD1
        cases nD1
      have s05 := s04.trans s5
      have good : ∀ qs : List (Nat × Nat), qs.Sublist (allP (v + 1) (v + 1)) → Good (v + 1) qs := fun qs hq => ⟨by omega, by omega, Nat.le_trans hq.length_le (allP_len _ (by omega)), fun p hp => (mem_allP (hq.subset hp)).2, (allP_asc _ _).sublist hq⟩
      have fin : ∀ (D2 : Addr) (us2 : List Addr) (qs : List (Nat × Nat)) (v5 : Option V) (H6 : Hp), SB r H H6 → RowAt K a H6 r → H6 D2 = some (.lst (us2.map V.ref)) → LP H6 us2 qs → qs.Sublist (allP (v + 1) (v + 1)) →
          tRet (tTup (tCons (tVar 2) (tCons (tCB (fun xs H Q => ∃ p ys, xs = [V.ref p] ∧ ((SqL K H p ys ∧ ∀ l, H l = none → Q (.ref l) (upd H l (.tup ys))) ∨ (SqT K H p ys ∧ Q (.ref p) H))) (tCons (tVar 4) tNil)) tNil))) { nx := fun _ H' => Q .non H', rt := Q } [some (.ref r), some (.int 7), some (.int (1 + (v : Int))), some (.int (wy : Nat)), some (.ref D2), v5] H6 := by
        intro D2 us2 qs v5 H6 s6 R6 hD2 lp6 sub6
        refine ⟨_, rfl, _, rfl, D2, _, rfl, .inl ⟨SqL.of hD2, fun pt npt => ⟨(by show 2 ≤ sizeLine; decide), fun c nc => ?_⟩⟩⟩
        have u1 := same_upd (o := .tup (us2.map V.ref)) npt
        have u2 := same_upd (o := .tup [.int (1 + (v : Int)), .ref pt]) nc
        refine k c (v + 1) qs _ ((s6.trans (SB.of u1)).trans (SB.of u2)) ((R6.same u1).same u2) ⟨pt, by rw [upd_same, en], us2, u2 _ _ upd_same, lp6.1, fun i t p x y => u2 _ _ (u1 _ _ (lp6.2 i t p x y))⟩ (good qs sub6)
      refine ⟨_, rfl, r, a, 4, rfl, by decide, by decide, R5, fun v6 H6 hv6 s6 R6 => ⟨rfl, _, rfl, ?_⟩⟩
      obtain ⟨y5, hr5⟩ := R5.here
      have hD1' := s6 _ _ nD1r hD1
      have lp6 := lp5.sb s6 hr5
      refine ite2 (fun hc => ?_) fun hc => ?_
      · have few2 : us.length ≤ 21 := by
          rw [lp6.1]
          have := sub5.length_le
          rw [← hlp.1] at this
          omega
        refine ⟨_, rfl, D1, rfl, ⟨_, SqL.of hD1'⟩, fun D2 nD2 => lc_pick (a := a) hD1' nD1r lp6 R6 nD2 (by omega) ?_ ?_⟩
        · rintro t' p H7 Nx s7 R7 ht7 kS kN
          refine ⟨rfl, _, rfl, _, _, _, _, rfl, rfl, SqT.of ht7, atI_nat (j := 1) rfl, _, rfl, _, _, _, _, rfl, rfl, SqT.of ht7, atI_nat (j := 0) rfl, _, _, rfl, rfl, _, _, rfl, rfl, _, rfl, ?_⟩
          refine ite2 (fun _ => ?_) fun _ => ?_
          · exact ⟨_, rfl, kS H7 (SB.refl r H7) R7⟩
          · exact kN H7 (SB.refl r H7) R7
        · intro H7 us2 qs s7 R7 hD2 lp7 sub7
          exact fin D2 us2 qs _ H7 ((s05.trans s6).trans s7) R7 hD2 lp7 (sub7.trans sub5)
      · exact fin D1 us ps _ H6 (s05.trans s6) R6 hD1' lp6 sub5
end
end Ow

end OwDraw2
section OwWord
set_option linter.all false
set_option maxRecDepth 100000
set_option maxHeartbeats 8000000
namespace Ow
open PySem PySem.Spec PyProof.Rows L2
section
variable {P : Program} {w : World} {K : PySem.W.Frag} {mg : Str → Option Value} {base : Heap}
theorem scWord : FnScope ["_law_row", "_law_company_here", "_law_most", "_law_at"] ["_law_row", "_law_company_here", "_law_most"] (defScope sWord) := ⟨rfl, rfl, rfl, by decide +kernel, rfl, by decide +kernel, by decide +kernel⟩
def spWord (K : PySem.W.Frag) : Sp := fun vs H Q _ => ∃ (r a c : Addr) (n : Nat) (ps : List (Nat × Nat)) (m : Nat), vs = [.ref r, .ref c, .int (m : Nat)] ∧ 1 ≤ m ∧ m ≤ 100 ∧ RowAt K a H r ∧ CoAt H c n ps ∧ Good n ps ∧ ∀ (l : List Nat) H', (∀ x ∈ l, x ∈ letters n) → l.length ≤ 100 → SB r H H' → RowAt K a H' r → Q (.str (S l)) H'
theorem ok_word {f : Addr} {fd : FuncData} (F : Fun K "_law_word" "_law_word" sWord f fd) (mR : mg "range" = none) (cT : Cal P w K mg base 1 "_law_taken" ["_law_row", "_law_many"] (spTaken K)) : FnOk P w K mg base CX0 2 f fd ["_law_row", "_law_company_here", "_law_most"] (spWord K) := by
  refine F.ok scWord (fun vs H Q E h => ?_) (fun cdv A outer s H vs Q E hr h => ?_)
  · obtain ⟨r, a, c, n, ps, m, rfl, _⟩ := h
    rfl
  · obtain ⟨r, a, c, n, ps, m, rfl, hm1, hm2, hR, hC, hG, k⟩ := h
    have nd := scWord.nd
    refine ⟨_, pss_one (ps_ret (pe_join pe_str (pe_lc (own := [("_law_at", 3)]) (g := gName 3) (tt := tYes) rfl nd (pi_range1 rfl mR (pa_cons (pe_op op_add pe_int (pe_cl cT hr rfl (pa_cons (pv 0) (pa_cons (pv 2) pa_nil)))) pa_nil)) (blkOk_by (N := ["_law_row", "_law_company_here", "_law_most", "_law_at"]) (sc := defScope sWord) (by decide +kernel)) (fun _ _ _ _ _ => pg_name (i := 3) nd rfl (Or.inl rfl)) (fun _ _ _ _ _ => pts_nil)
      (fun _ _ _ _ _ => pe_ix ix_str pe_str (pe_cl cT hr rfl (pa_cons (pv 0) (pa_cons (pe_ix (r := rIxT K) ix_tup (pv 1) pe_int (fun _ _ => rfl)) pa_nil))) (fun _ _ => rfl))))), ?_⟩
    have big : 1000 ≤ sizeLine := by decide
    have h7 := hG.most
    have h1 := hG.one
    obtain ⟨y0, hr0⟩ := hR.here
    refine ⟨⟨_, rfl⟩, _, rfl, _, rfl, r, a, m, rfl, hm1, by omega, hR, fun v H1 hv s1 R1 => ⟨_, _, rfl, rfl, _, rfl, by show -(2 ^ 62) ≤ (1 : Int) + (v : Int); omega, by show (1 : Int) + (v : Int) < 2 ^ 62; omega, fun D nD => ?_⟩⟩
    have en : ((1 : Int) + (v : Int)).toNat = v + 1 := by omega
    have hD0r : D ≠ r := fun z => by
      obtain ⟨y, hy⟩ := R1.here
      rw [z, hy] at nD
      cases nD
    have hC1 := s1.co hr0 hC
    obtain ⟨y1, hr1⟩ := R1.here
    rw [en]
    refine lc_raw (n := v + 1) (fun j acc H5 => SB r H1 H5 ∧ RowAt K a H5 r ∧ ∃ l : List Nat, acc = l.map (fun c => .str (S [c])) ∧ (∀ x ∈ l, x ∈ letters n) ∧ l.length = j) ⟨SB.of (same_upd nD), R1.same (same_upd nD), [], rfl, fun x hx => by simp at hx, rfl⟩ (fun j acc H5 hj _ => hj) (fun acc H5 _ => Nat.le_refl _) (fun j acc H5 hj ⟨_, _, l, e, _, hl⟩ => by rw [e, List.length_map, hl]; omega) ?_ ?_
    · rintro j z H5 H6 acc Nx hj ⟨s5, R5, l, rfl, hm, hl⟩ hD5 ⟨rfl, rfl⟩ kS kN
      have hC5 := s5.co hr1 hC1
      obtain ⟨pt, hc5, _⟩ := id hC5
      refine ⟨rfl, _, rfl, _, rfl, _, _, _, _, rfl, rfl, SqT.of hc5, atI_nat (j := 0) rfl, r, a, n, rfl, h1, by omega, R5, fun v6 H7 hv6 s7 R7 => ⟨_, _, _, rfl, rfl, abc_len, abc_at (by omega), ?_⟩⟩
      have hD7 := s7 _ _ hD0r hD5
      refine kS _ _ hD7 ⟨fun b o nb e => ?_, R1.put nD R7, l ++ [97 + v6], by rw [List.map_append]; rfl, fun x hx => ?_, by rw [List.length_append, hl]; rfl⟩
      · rw [upd_ne (ne_of_none e nD)]
        exact s7 b o nb (s5 b o nb e)
      · rcases List.mem_append.mp hx with q | q
        · exact hm x q
        · rw [List.mem_singleton.mp q]
          exact mem_letters.mpr (by omega)
    · rintro H5 acc ⟨s5, R5, l, rfl, hm, hl⟩ hD5
      rw [← signs_map] at hD5
      refine ⟨"", D, l.map fun c => S [c], rfl, rfl, .inl (SqL.of hD5), by rw [glued_size _ _ rfl]; omega, ?_⟩
      rw [S_nil, glued_signs]
      exact k l H5 hm (by omega) (s1.trans s5) R5
end
end Ow

end OwWord
section OwWord2
set_option linter.all false
set_option maxRecDepth 100000
set_option maxHeartbeats 8000000
namespace Ow
open PySem PySem.Spec PyProof.Rows L2
theorem signs_S (l : List Nat) : PyProof.Rows.signs (S l) = l.map fun c => S [c] := by
  unfold PyProof.Rows.signs
  rw [S_list]
  rfl
/-- over a range, the heap as it goes -/
theorem for_genR {lo : Int} {n : Nat} {g : TG} {tb : TS} {D : Ends} {σ : L2.St} {H : Hp} (Pv : Nat → L2.St → Hp → Prop) (h0 : Pv 0 σ H) (hs : ∀ i σ H, i < n → Pv i σ H → g (.int (lo + i)) σ H fun σ2 H2 => tb { D with nx := Pv (i + 1), ct := Pv (i + 1), bk := D.nx } σ2 H2) (hd : ∀ σ H, Pv n σ H → D.nx σ H) :
    ∃ W : Nat → Nat → L2.St → Hp → Prop, (∃ m, W 0 m σ H) ∧ ∀ i m σ H, W i m σ H →
      ((Itr lo n).stop i H ∧ D.nx σ H) ∨ ((Itr lo n).go i H ∧ ∃ N : L2.St → Hp → Prop, (∀ σ' H', N σ' H' → ∃ m', m' < m ∧ W (i + 1) m' σ' H') ∧ ∀ x H', (Itr lo n).yld i H x H' → g x σ H' fun σ2 H2 => tb { D with nx := N, ct := N, bk := D.nx } σ2 H2) := for_range Pv h0 hs hd
theorem sg_vals : ∀ {ys : List Nat} {vs : List Value}, PySem.W.EachIs (fun (v : Value) (c : Nat) => ∃ t, v = .str (S [c]) t) vs ys → Vals (ys.map fun c => V.str (S [c])) vs
  | _, _, .nil => .nil
  | _, _, .cons r t => .cons r (sg_vals t)
section
variable {X : Cx}
theorem mt_joinT (hc : X.calm = true) : MtR X "str.join" (fun x xs H Q => ∃ l : List Nat, x = .str "" ∧ xs = [.str (S l)] ∧ l.length ≤ 1000 ∧ Q (.str (S l)) H) := by
  intro pins s σ H x xs v us Q I rx rxs h
  obtain ⟨l, rfl, rfl, hl, q⟩ := h
  obtain ⟨t, rfl⟩ := rx
  obtain ⟨u, rfl, t', rfl⟩ := vals1 rxs
  refine PySem.SC.joinStr (I.ok.hd hc) (PyProof.Rows.joinOk_signsN (N := 1000) (S := 0) (by rw [S_len]; exact hl) (Nat.le_refl 0) (by decide)) fun h' k t2 kp => ⟨.str (S l), H, I.kept (t' := k) kp, ⟨t2, ?_⟩, q⟩
  rw [signs_S, S_nil, glued_signs]
theorem cr_listT (hc : X.calm = true) : CallR X (.type "list") (fun vs H Q => ∃ l : List Nat, vs = [.str (S l)] ∧ l.length ≤ 1000 ∧ ∀ p, H p = none → Q (.ref p) (upd H p (.lst (l.map fun c => .str (S [c]))))) := by
  intro pins s σ H vs us Q I r h
  obtain ⟨l, rfl, hl, q⟩ := h
  obtain ⟨u, rfl, t, rfl⟩ := vals1 r
  have big : 1000 ≤ sizeLine := by decide
  refine call_list_str (hn := by rw [S_size]; omega) (I.ok.hd hc) (S l) t fun h' tk acc c kp hg hacc => ?_
  have hal : acc.toList.length = l.length := by rw [Array.length_toList, hacc.1, S_size]
  have hv : Vals (l.map fun c => V.str (S [c])) acc.toList := sg_vals (each_of hal fun j v e => by
    obtain ⟨c, u, e1, e2⟩ := hacc.2 j v (by rw [← Array.getElem?_toList]; exact e)
    exact ⟨c, S_get.mp e1, u, e2⟩)
  refine ⟨.ref s.heap.objs.size, _, I.laid (a := s.heap.objs.size) (o := .lst (l.map fun c => .str (S [c]))) (t' := tk) kp (Nat.le_refl _) ⟨by rw [List.length_map]; omega, acc.toList, c, hv, by rw [hg]⟩, rfl, q _ (I.hok.fresh (Nat.le_refl _))⟩
end
section
variable {P : Program} {w : World} {K : PySem.W.Frag} {mg : Str → Option Value} {base : Heap}
theorem scDrawnKind : FnScope ["_law_row", "_law_company_here"] ["_law_row", "_law_company_here"] (defScope sDrawnKind) := ⟨rfl, rfl, rfl, by decide +kernel, rfl, by decide +kernel, by decide +kernel⟩
def spDrawnKind (K : PySem.W.Frag) : Sp := fun vs H Q _ => ∃ (r a c : Addr) (n : Nat) (ps : List (Nat × Nat)), vs = [.ref r, .ref c] ∧ RowAt K a H r ∧ CoAt H c n ps ∧ Good n ps ∧ ∀ (l : List Nat) H', KO n ps l → SB r H H' → RowAt K a H' r → Q (.str (S l)) H'
theorem ok_drawnKind {f : Addr} {fd : FuncData} (F : Fun K "_law_drawn_kind" "_law_drawn_kind" sDrawnKind f fd) (mI : mg "int" = none) (cT : Cal P w K mg base 1 "_law_taken" ["_law_row", "_law_many"] (spTaken K)) (cW : Cal P w K mg base 2 "_law_word" ["_law_row", "_law_company_here", "_law_most"] (spWord K)) (cK : Cal P w K mg base 2 "_law_kind" ["_law_company_here", "_law_word_here"] spKind) : FnOk P w K mg base CX0 3 f fd ["_law_row", "_law_company_here"] (spDrawnKind K) := by
  refine F.ok scDrawnKind (fun vs H Q E h => ?_) (fun cdv A outer s H vs Q E hr h => ?_)
  · obtain ⟨r, a, c, n, ps, rfl, _⟩ := h
    rfl
  · obtain ⟨r, a, c, n, ps, rfl, hR, hC, hG, k⟩ := h
    have nd := scDrawnKind.nd
    refine ⟨_, pss_one (ps_ret (pe_cl cK hr rfl (pa_cons (pv 1) (pa_cons (pe_m1 PySem.F.slot_str_join PySem.F.type_str_join (mt_joinT rfl) pe_str (pe_ix ix_list (pe_lst (pa_cons pe_str (pa_cons (pe_cl cW hr rfl (pa_cons (pv 0) (pa_cons (pv 1) (pa_cons (pe_op op_mul pe_int (pe_ix ix_tup (pv 1) pe_int (fun _ _ => rfl))) pa_nil)))) pa_nil)))
      (pe_callTy call_int1 rfl mI (by decide +kernel) (pa_cons (pe_cmpR op_gt (pe_cl cT (hr.mono (by decide)) rfl (pa_cons (pv 0) (pa_cons pe_int pa_nil))) pe_int (nomark _)) pa_nil)) (fun _ _ => rfl)) rfl rfl rfl) pa_nil)))), ?_⟩
    obtain ⟨pt, hc, _⟩ := id hC
    have h7 := hG.most
    have h1 := hG.one
    obtain ⟨y0, hr0⟩ := hR.here
    refine ⟨_, rfl, ⟨_, rfl⟩, _, rfl, _, rfl, _, rfl, _, _, _, _, rfl, rfl, SqT.of hc, atI_nat (j := 0) rfl, _, _, rfl, rfl, .inl ⟨by decide, by decide⟩, r, a, c, n, ps, 2 * n, by push_cast; rfl, by omega, by omega, hR, hC, hG, fun l H1 hm hl s1 R1 => ⟨(by show 2 ≤ sizeLine; decide), fun D nD => ?_⟩⟩
    have t1 := same_upd (o := .lst [V.str "", .str (S l)]) nD
    have hD : (upd H1 D (.lst [V.str "", .str (S l)])) D = some (.lst [V.str "", .str (S l)]) := upd_same
    have R1' := R1.same t1
    obtain ⟨y1, hr1⟩ := R1'.here
    have nDr : D ≠ r := fun z => by
      obtain ⟨y, hy⟩ := R1.here
      rw [z, hy] at nD
      cases nD
    refine ⟨_, rfl, r, a, 9, rfl, by decide, by decide, R1', fun v H2 hv s2 R2 => ⟨_, _, rfl, rfl, .inr ⟨_, rfl, ?_⟩⟩⟩
    have s02 := (s1.trans (SB.of t1)).trans s2
    have hD2 := s2 _ _ nDr hD
    have hC2 := s02.co hr0 hC
    have fin : ∀ l2 : List Nat, (∀ x ∈ l2, x ∈ letters n) → l2.length ≤ 1000 → (spKind [.ref c, .str (S l2)] H2 Q E0) := fun l2 hm2 hl2 => ⟨c, n, ps, l2, rfl, hC2, hG, hm2, hl2, fun H3 s3 => k _ H3 (KO.kind hm2) (s02.trans (SB.of s3)) (R2.same s3)⟩
    generalize decide ((v : Int) > 0) = b
    cases b with
    | false =>
      refine ⟨D, _, _, .str "", rfl, rfl, SqL.of hD2, atI_nat (j := 0) rfl, [], rfl, by rw [S_nil], by decide, ?_⟩
      exact fin [] (fun x hx => by simp at hx) (by decide)
    | true =>
      refine ⟨D, _, _, .str (S l), rfl, rfl, SqL.of hD2, atI_nat (j := 1) rfl, l, rfl, rfl, by omega, ?_⟩
      exact fin l hm (by omega)
theorem scDrawnKinds : FnScope ["_law_row", "_law_company_here", "_law_most", "_law_turn"] ["_law_row", "_law_company_here", "_law_most"] (defScope sDrawnKinds) := ⟨rfl, rfl, rfl, by decide +kernel, rfl, by decide +kernel, by decide +kernel⟩
def spDrawnKinds (K : PySem.W.Frag) : Sp := fun vs H Q _ => ∃ (r a c : Addr) (n : Nat) (ps : List (Nat × Nat)), vs = [.ref r, .ref c, .int 5] ∧ RowAt K a H r ∧ CoAt H c n ps ∧ Good n ps ∧ ∀ (b : Addr) (ks : List (List Nat)) H', ks.length ≤ 5 → SB r H H' → RowAt K a H' r → KindsAt H' b n ps ks → Q (.ref b) H'
theorem ok_drawnKinds {f : Addr} {fd : FuncData} (F : Fun K "_law_drawn_kinds" "_law_drawn_kinds" sDrawnKinds f fd) (mT : mg "tuple" = none) (mR : mg "range" = none) (cT : Cal P w K mg base 1 "_law_taken" ["_law_row", "_law_many"] (spTaken K)) (cD : Cal P w K mg base 3 "_law_drawn_kind" ["_law_row", "_law_company_here"] (spDrawnKind K)) : FnOk P w K mg base CX0 4 f fd ["_law_row", "_law_company_here", "_law_most"] (spDrawnKinds K) := by
  refine F.ok scDrawnKinds (fun vs H Q E h => ?_) (fun cdv A outer s H vs Q E hr h => ?_)
  · obtain ⟨r, a, c, n, ps, rfl, _⟩ := h
    rfl
  · obtain ⟨r, a, c, n, ps, rfl, hR, hC, hG, k⟩ := h
    have nd := scDrawnKinds.nd
    refine ⟨_, pss_one (ps_ret (pe_callTy call_tuple_of rfl mT (by decide +kernel) (pa_cons (pe_lc (own := [("_law_turn", 3)]) (g := gName 3) (tt := tYes) rfl nd (pi_range1 rfl mR (pa_cons (pe_cl cT (hr.mono (by decide)) rfl (pa_cons (pv 0) (pa_cons (pe_op op_add (pv 2) pe_int) pa_nil))) pa_nil)) (blkOk_by (N := ["_law_row", "_law_company_here", "_law_most", "_law_turn"]) (sc := defScope sDrawnKinds) (by decide +kernel)) (fun _ _ _ _ _ => pg_name (i := 3) nd rfl (Or.inl rfl)) (fun _ _ _ _ _ => pts_nil)
      (fun _ _ _ _ _ => pe_cl cD hr rfl (pa_cons (pv 0) (pa_cons (pv 1) pa_nil)))) pa_nil))), ?_⟩
    obtain ⟨y0, hr0⟩ := hR.here
    have big : 1000 ≤ sizeLine := by decide
    refine ⟨_, rfl, _, rfl, _, _, rfl, rfl, r, a, 6, rfl, by decide, by decide, hR, fun v H1 hv s1 R1 => ⟨_, rfl, by omega, by omega, fun D nD => ?_⟩⟩
    rw [Int.toNat_natCast]
    have hD0r : D ≠ r := fun z => by
      obtain ⟨y, hy⟩ := R1.here
      rw [z, hy] at nD
      cases nD
    have hC1 := s1.co hr0 hC
    obtain ⟨y1, hr1⟩ := R1.here
    refine lc_raw (n := v) (fun j acc H5 => SB r H1 H5 ∧ RowAt K a H5 r ∧ ∃ ks : List (List Nat), acc = ks.map (fun k => .str (S k)) ∧ (∀ x ∈ ks, KO n ps x) ∧ ks.length = j) ⟨SB.of (same_upd nD), R1.same (same_upd nD), [], rfl, fun x hx => by simp at hx, rfl⟩ (fun j acc H5 hj _ => hj) (fun acc H5 _ => Nat.le_refl _) (fun j acc H5 hj ⟨_, _, l, e, _, hl⟩ => by rw [e, List.length_map, hl]; omega) ?_ ?_
    · rintro j z H5 H6 acc Nx hj ⟨s5, R5, ks, rfl, hm, hl⟩ hD5 ⟨rfl, rfl⟩ kS kN
      refine ⟨rfl, _, rfl, _, rfl, r, a, c, n, ps, rfl, R5, s5.co hr1 hC1, hG, fun l H7 kl s7 R7 => ?_⟩
      have hD7 := s7 _ _ hD0r hD5
      refine kS _ _ hD7 ⟨fun b o nb e => ?_, R1.put nD R7, ks ++ [l], by rw [List.map_append]; rfl, fun x hx => ?_, by rw [List.length_append, hl]; rfl⟩
      · rw [upd_ne (ne_of_none e nD)]
        exact s7 b o nb (s5 b o nb e)
      · rcases List.mem_append.mp hx with q | q
        · exact hm x q
        · rw [List.mem_singleton.mp q]
          exact kl
    · rintro H5 acc ⟨s5, R5, ks, rfl, hm, hl⟩ hD5
      refine ⟨D, _, rfl, .inl ⟨SqL.of hD5, fun b nb => ?_⟩⟩
      have tb := same_upd (o := .tup (ks.map fun k => .str (S k))) nb
      exact k b ks _ (by omega) ((s1.trans s5).trans (SB.of tb)) (R5.same tb) ⟨upd_same, by omega, hm⟩
theorem scWholeK : FnScope ["_law_row", "_law_company_here", "_law_left", "_law_found", "_law_turn"] ["_law_row", "_law_company_here"] (defScope sWholeK) := ⟨rfl, rfl, rfl, by decide +kernel, rfl, by decide +kernel, by decide +kernel⟩
theorem ok_wholeK {f : Addr} {fd : FuncData} (F : Fun K "_law_whole" "_law_whole" sWholeK f fd) (mT : mg "list" = none) (mR : mg "range" = none) (mL : mg "len" = none) (cT : Cal P w K mg base 1 "_law_taken" ["_law_row", "_law_many"] (spTaken K)) (cK : Cal P w K mg base 2 "_law_kind" ["_law_company_here", "_law_word_here"] spKind) : FnOk P w K mg base CX0 3 f fd ["_law_row", "_law_company_here"] (spDrawnKind K) := by
  refine F.ok scWholeK (fun vs H Q E h => ?_) (fun cdv A outer s H vs Q E hr h => ?_)
  · obtain ⟨r, a, c, n, ps, rfl, _⟩ := h
    rfl
  · obtain ⟨r, a, c, n, ps, rfl, hR, hC, hG, k⟩ := h
    have nd := scWholeK.nd
    refine ⟨_, pss_cons (ps_par (i := 2) (j := 3) rfl nd rfl rfl (by decide) rfl rfl (pa_cons (pe_callTy (cr_listT rfl) rfl mT (by decide +kernel) (pa_cons (pe_slice sl_str pe_str po_none (po_some (pe_ix ix_tup (pv 1) pe_int (fun _ _ => rfl)))) pa_nil)) (pa_cons pe_str pa_nil)) (by rfl))
      (pss_cons (ps_for PassesOwn.never rfl (pi_range1 rfl mR (pa_cons (pe_ix ix_tup (pv 1) pe_int (fun _ _ => rfl)) pa_nil)) (pg_name (i := 4) nd rfl (.inl rfl))
        (pss_one (ps_set (i := 3) nd rfl (.inl rfl) (pe_op op_add_str (pv 3) (pe_bm PySem.F.plainAttrs_list PySem.F.slot_list_pop PySem.F.type_list_pop mt_popAt (pv 2) (pa_cons (pe_cl cT (hr.mono (by decide)) rfl (pa_cons (pv 0) (pa_cons (pe_callB call_len_seq (by rfl) mL PySem.boot_len (pa_cons (pv 2) pa_nil)) pa_nil))) pa_nil))))))
      (pss_one (ps_ret (pe_cl cK hr rfl (pa_cons (pv 1) (pa_cons (pv 3) pa_nil)))))), ?_⟩
    obtain ⟨pt, hc, _⟩ := id hC
    have h7 := hG.most
    have h1 := hG.one
    have big : 1000 ≤ sizeLine := by decide
    obtain ⟨y0, hr0⟩ := hR.here
    refine ⟨_, rfl, _, _, _, _, rfl, rfl, SqT.of hc, atI_nat (j := 0) rfl, _, rfl, _, rfl, abc_len, letters n, by rw [abc_cut h7], by rw [letters_len]; omega, fun L nL => ?_⟩
    have t1 := same_upd (o := .lst ((letters n).map fun c => V.str (S [c]))) nL
    have hLr : L ≠ r := fun z => by rw [z, hr0] at nL; cases nL
    refine ⟨_, _, rfl, ?_⟩
    refine ⟨_, rfl, _, _, _, _, rfl, rfl, SqT.of (t1 _ _ hc), atI_nat (j := 0) rfl, _, rfl, by omega, by omega, ?_⟩
    rw [Int.toNat_natCast]
    refine for_genR (fun i σ H2 => ∃ (v4 : Option V) (left found : List Nat), σ = [some (.ref r), some (.ref c), some (.ref L), some (.str (S found)), v4] ∧ SB r H H2 ∧ RowAt K a H2 r ∧ H2 L = some (.lst (left.map fun c => .str (S [c]))) ∧ left.length + i = n ∧ found.length = i ∧ (∀ x ∈ left, x ∈ letters n) ∧ ∀ x ∈ found, x ∈ letters n)
      ⟨none, letters n, [], by rw [← S_nil]; rfl, SB.of t1, hR.same t1, upd_same, by rw [letters_len]; omega, rfl, fun x hx => hx, fun x hx => by simp at hx⟩ ?_ ?_
    · rintro i σ H2 hi ⟨v4, left, found, rfl, s2, R2, hL, hll, hfl, hm, hf⟩
      obtain ⟨y2, hr2⟩ := R2.here
      refine ⟨_, rfl, _, rfl, .inl ⟨rfl, _, SqL.of hL⟩, _, rfl, _, rfl, L, _, rfl, .inl (SqL.of hL), ?_⟩
      refine ⟨r, a, left.length, by show [V.ref r, V.int (((left.map fun c => V.str (S [c])).length : Nat) : Int)] = _; rw [List.length_map], by omega, by omega, R2, fun v H3 hv s3 R3 => ?_⟩
      have hL3 := s3 _ _ hLr hL
      have ev : left[v]? = some left[v] := List.getElem?_eq_getElem hv
      generalize left[v] = x at ev
      refine ⟨L, _, _, v, .str (S [x]), rfl, rfl, hL3, by omega, by omega, PySem.StrLaws.seqIndex_nonneg (by omega) (by rw [List.length_map]; omega), by rw [List.getElem?_map, ev]; rfl, _, _, rfl, rfl, by rw [S_len, S_len]; show found.length + 1 ≤ _; omega, ?_⟩
      rw [S_app]
      have nr : r ≠ L := hLr.symm
      have eE : (left.map fun c => V.str (S [c])).eraseIdx v = (left.eraseIdx v).map fun c => V.str (S [c]) := by rw [List.eraseIdx_eq_take_drop_succ, List.eraseIdx_eq_take_drop_succ, List.map_append, List.map_take, List.map_drop]
      refine ⟨_, left.eraseIdx v, found ++ [x], rfl, fun b o nb e => ?_, hR.put nL R3, by rw [upd_same, eE], by rw [List.length_eraseIdx_of_lt hv]; omega, by rw [List.length_append, hfl]; rfl, fun y hy => hm y (List.mem_of_mem_eraseIdx hy), fun y hy => ?_⟩
      · rw [upd_ne (ne_of_none e nL)]
        exact s3 b o nb (s2 b o nb e)
      · rcases List.mem_append.mp hy with q | q
        · exact hf y q
        · rw [List.mem_singleton.mp q]
          exact hm x (List.mem_of_getElem? ev)
    · rintro σ H2 ⟨v4, left, found, rfl, s2, R2, hL, hll, hfl, hm, hf⟩
      exact ⟨_, rfl, _, rfl, c, n, ps, found, rfl, s2.co hr0 hC, hG, hf, by omega, fun H3 s3 => k _ H3 (KO.kind hf) (s2.trans (SB.of s3)) (R2.same s3)⟩
end
end Ow

end OwWord2
section OwAlike
set_option linter.all false
set_option maxRecDepth 100000
set_option maxHeartbeats 8000000
namespace Ow
open PySem PySem.Spec PyProof.Rows L2
/-- None, a text or a whole number -/
def Plain (v : V) : Prop := v = .non ∨ (∃ z, v = .str z) ∨ ∃ i, v = .int i
section
variable {P : Program} {w : World} {K : PySem.W.Frag} {mg : Str → Option Value} {base : Heap}
theorem scAlike : FnScope ["_law_found", "_law_due", "_law_k"] ["_law_found", "_law_due"] (defScope sAlike) := ⟨rfl, rfl, rfl, by decide +kernel, rfl, by decide +kernel, by decide +kernel⟩
def spAl1 : Sp := fun vs H Q _ => ∃ v : V, vs = [v, v] ∧ Plain v ∧ ∀ H', Same H H' → Q (.bl true) H'
def spAl2 : Sp := fun vs H Q _ => ∃ (p q : Addr) (xs : List V), vs = [.ref p, .ref q] ∧ ((H p = some (.lst xs) ∧ H q = some (.lst xs)) ∨ (H p = some (.tup xs) ∧ H q = some (.tup xs))) ∧ xs.length ≤ 100000 ∧ (∀ x ∈ xs, Plain x) ∧ ∀ H', Same H H' → Q (.bl true) H'
theorem paired_tl : Paired ClsV [V.ty "tuple", .ty "list"] [Value.type "tuple", .type "list"] := .cons (.ty _) (.cons (.ty _) .nil)
theorem ok_alike1 {f : Addr} {fd : FuncData} (F : Fun K "_law_alike" "_law_alike" sAlike f fd) (mI : mg "isinstance" = none) (mT : mg "tuple" = none) (mL : mg "list" = none) (mS : mg "str" = none) (mN : mg "int" = none) (mB : mg "bool" = none) : FnOk P w K mg base CX0 1 f fd ["_law_found", "_law_due"] spAl1 := by
  refine F.ok scAlike (fun vs H Q E h => ?_) (fun cdv A outer s H vs Q E hr h => ?_)
  · obtain ⟨v, rfl, _⟩ := h
    rfl
  · obtain ⟨v, rfl, hv, k⟩ := h
    refine ⟨_, pss_cons (ps_if (pt_val (pe_callB call_isiT rfl mI (by decide +kernel) (pa_cons (pv 1) (pa_cons (pe_tup (pa_cons (pe_ty "tuple" rfl mT (by decide +kernel)) (pa_cons (pe_ty "list" rfl mL (by decide +kernel)) pa_nil))) pa_nil)))) pss_never pss_nil)
      (pss_cons (ps_if (PW.pt (pw_or (pt_cmpR op_isN (pv 1) pe_non (nomark _)) (pw_or1 (pt_val (pe_callB call_isi rfl mI (by decide +kernel) (pa_cons (pv 1) (pa_cons (pe_ty "str" rfl mS (by decide +kernel)) pa_nil)))))))
        (pss_one (ps_ret (pe_and (pe_cmpR op_eq (pv 0) (pv 1) (nomark _)) (pe_one (pe_cmpR op_eq (pe_callB call_isi rfl mI (by decide +kernel) (pa_cons (pv 0) (pa_cons (pe_ty "str" rfl mS (by decide +kernel)) pa_nil))) (pe_callB call_isi rfl mI (by decide +kernel) (pa_cons (pv 1) (pa_cons (pe_ty "str" rfl mS (by decide +kernel)) pa_nil))) (nomark _)))))) pss_nil)
      (pss_one (ps_ret (pe_and (pe_callB call_isi rfl mI (by decide +kernel) (pa_cons (pv 0) (pa_cons (pe_ty "int" rfl mN (by decide +kernel)) pa_nil)))
        (pe_and (pe_cmpR op_eq (pe_callB call_isi rfl mI (by decide +kernel) (pa_cons (pv 0) (pa_cons (pe_ty "bool" rfl mB (by decide +kernel)) pa_nil))) (pe_callB call_isi rfl mI (by decide +kernel) (pa_cons (pv 1) (pa_cons (pe_ty "bool" rfl mB (by decide +kernel)) pa_nil))) (nomark _)) (pe_one (pe_cmpR op_eq (pv 0) (pv 1) (nomark _)))))))), ?_⟩
    rcases hv with rfl | ⟨z, rfl⟩ | ⟨i, rfl⟩
    · refine ⟨_, rfl, (by show 2 ≤ sizeLine; decide), fun t nt => ⟨_, _, _, _, _, false, rfl, upd_same, paired_tl, .base .non, kitAny_cons (b := false) (kit_ty (by decide +kernel)) (fun _ => kitAny_cons (b := false) (kit_ty (by decide +kernel)) (fun _ => kitAny_nil) (fun h => by cases h)) (fun h => by cases h), _, rfl, ?_⟩⟩
      refine iteF ?_
      have st := same_upd (o := .tup [.ty "tuple", .ty "list"]) nt
      refine ⟨_, rfl, rfl, _, rfl, ?_⟩
      refine iteT ?_
      refine ⟨_, rfl, _, rfl, rfl, _, rfl, ?_⟩
      refine iteT ?_
      refine ⟨_, rfl, _, _, _, _, false, rfl, .ty "str", .base .non, kit_ty (by decide +kernel), _, rfl, _, _, _, _, false, rfl, .ty "str", .base .non, kit_ty (by decide +kernel), rfl, ?_⟩
      exact k _ st
    · refine ⟨_, rfl, (by show 2 ≤ sizeLine; decide), fun t nt => ⟨_, _, _, _, _, false, rfl, upd_same, paired_tl, .base (.str z), kitAny_cons (b := false) (kit_ty (by decide +kernel)) (fun _ => kitAny_cons (b := false) (kit_ty (by decide +kernel)) (fun _ => kitAny_nil) (fun h => by cases h)) (fun h => by cases h), _, rfl, ?_⟩⟩
      refine iteF ?_
      have st := same_upd (o := .tup [.ty "tuple", .ty "list"]) nt
      refine ⟨_, rfl, rfl, _, rfl, ?_⟩
      refine iteF ?_
      refine ⟨_, rfl, _, _, _, _, true, rfl, .ty "str", .base (.str z), kit_ty (by decide +kernel), _, rfl, ?_⟩
      refine iteT ?_
      refine ⟨_, rfl, _, rfl, rfl, _, rfl, ?_⟩
      refine ifT (decide_eq_true rfl) ?_
      refine ⟨_, rfl, _, _, _, _, true, rfl, .ty "str", .base (.str z), kit_ty (by decide +kernel), _, rfl, _, _, _, _, true, rfl, .ty "str", .base (.str z), kit_ty (by decide +kernel), rfl, ?_⟩
      exact k _ st
    · refine ⟨_, rfl, (by show 2 ≤ sizeLine; decide), fun t nt => ⟨_, _, _, _, _, false, rfl, upd_same, paired_tl, .base (.int i), kitAny_cons (b := false) (kit_ty (by decide +kernel)) (fun _ => kitAny_cons (b := false) (kit_ty (by decide +kernel)) (fun _ => kitAny_nil) (fun h => by cases h)) (fun h => by cases h), _, rfl, ?_⟩⟩
      refine iteF ?_
      have st := same_upd (o := .tup [.ty "tuple", .ty "list"]) nt
      refine ⟨_, rfl, rfl, _, rfl, ?_⟩
      refine iteF ?_
      refine ⟨_, rfl, _, _, _, _, false, rfl, .ty "str", .base (.int i), kit_ty (by decide +kernel), _, rfl, ?_⟩
      refine iteF ?_
      refine ⟨_, rfl, _, _, _, _, true, rfl, .ty "int", .base (.int i), kit_ty (by decide +kernel), _, rfl, ?_⟩
      refine iteT ?_
      refine ⟨_, rfl, _, _, _, _, false, rfl, .ty "bool", .base (.int i), kit_ty (by decide +kernel), _, rfl, _, _, _, _, false, rfl, .ty "bool", .base (.int i), kit_ty (by decide +kernel), rfl, _, rfl, ?_⟩
      refine iteT ?_
      refine ⟨_, rfl, _, rfl, rfl, ?_⟩
      have e : decide (V.int i = V.int i) = true := decide_eq_true rfl
      show Q (.bl (decide (V.int i = V.int i))) _
      rw [e]
      exact k _ st
theorem ok_alike2 {f : Addr} {fd : FuncData} (F : Fun K "_law_alike" "_law_alike" sAlike f fd) (mI : mg "isinstance" = none) (mT : mg "tuple" = none) (mL : mg "list" = none) (mR : mg "range" = none) (mE : mg "len" = none) (cA : Cal P w K mg base 1 "_law_alike" ["_law_found", "_law_due"] spAl1) : FnOk P w K mg base CX0 2 f fd ["_law_found", "_law_due"] spAl2 := by
  refine F.ok scAlike (fun vs H Q E h => ?_) (fun cdv A outer s H vs Q E hr h => ?_)
  · obtain ⟨p, q, xs, rfl, _⟩ := h
    rfl
  · obtain ⟨p, q, xs, rfl, hpq, hl, hx, k⟩ := h
    have nd := scAlike.nd
    have big : 100000 ≤ sizeLine := by decide
    refine ⟨_, pss_cons (ps_if (pt_val (pe_callB call_isiT rfl mI (by decide +kernel) (pa_cons (pv 1) (pa_cons (pe_tup (pa_cons (pe_ty "tuple" rfl mT (by decide +kernel)) (pa_cons (pe_ty "list" rfl mL (by decide +kernel)) pa_nil))) pa_nil))))
      (pss_cons (ps_if (PW.pt (pw_or (pt_not (pt_val (pe_callB call_isiT rfl mI (by decide +kernel) (pa_cons (pv 0) (pa_cons (pe_tup (pa_cons (pe_ty "tuple" rfl mT (by decide +kernel)) (pa_cons (pe_ty "list" rfl mL (by decide +kernel)) pa_nil))) pa_nil)))))
          (pw_or1 (pt_cmpR op_ne (pe_callB call_isi rfl mI (by decide +kernel) (pa_cons (pv 0) (pa_cons (pe_ty "list" rfl mL (by decide +kernel)) pa_nil))) (pe_callB call_isi rfl mI (by decide +kernel) (pa_cons (pv 1) (pa_cons (pe_ty "list" rfl mL (by decide +kernel)) pa_nil))) (nomark _))))) (pss_one (ps_ret pe_bl)) pss_nil)
      (pss_cons (ps_if (pt_cmpR op_ne (pe_callB call_len_seq (by rfl) mE PySem.boot_len (pa_cons (pv 0) pa_nil)) (pe_callB call_len_seq (by rfl) mE PySem.boot_len (pa_cons (pv 1) pa_nil)) (nomark _)) (pss_one (ps_ret pe_bl)) pss_nil)
      (pss_one (ps_ret (pe_cmpR (op_eqD hr.units) (pe_lc (own := [("_law_k", 2)]) (g := gName 2) rfl nd (pi_range1 rfl mR (pa_cons (pe_callB call_len_seq (by rfl) mE PySem.boot_len (pa_cons (pv 1) pa_nil)) pa_nil)) (blkOk_by (N := ["_law_found", "_law_due", "_law_k"]) (sc := defScope sAlike) (by decide +kernel)) (fun _ _ _ _ _ => pg_name (i := 2) nd rfl (Or.inl rfl))
        (fun _ _ _ _ _ => pts_one (pt_not (pt_val (pe_cl cA hr rfl (pa_cons (pe_ix (r := rIx K) ix_seq (pv 0) (pv 2) (fun _ _ => rfl)) (pa_cons (pe_ix (r := rIx K) ix_seq (pv 1) (pv 2) (fun _ _ => rfl)) pa_nil)))))) (fun _ _ _ _ _ => pv 2)) (pe_lst pa_nil) (nomark _)))))) pss_nil) pss_never, ?_⟩
    rcases hpq with ⟨hp, hq⟩ | ⟨hp, hq⟩
    · refine ⟨_, rfl, (by show 2 ≤ sizeLine; decide), fun t nt => ⟨_, _, _, _, _, true, rfl, upd_same, paired_tl, .base (.lst (same_upd nt _ _ hq)), kitAny_cons (b := false) (kit_ty (by decide +kernel)) (fun _ => kitAny_cons (b := true) (kit_ty (by decide +kernel)) (fun h => by cases h) (fun _ => rfl)) (fun h => by cases h), _, rfl, ?_⟩⟩
      have st := same_upd (o := .tup [.ty "tuple", .ty "list"]) nt
      have hp1 := st _ _ hp
      have hq1 := st _ _ hq
      refine iteT ?_
      generalize upd H t (.tup [.ty "tuple", .ty "list"]) = H1 at st hp1 hq1
      refine ⟨_, rfl, (by show 2 ≤ sizeLine; decide), fun t2 nt2 => ⟨_, _, _, _, _, true, rfl, upd_same, paired_tl, .base (.lst (same_upd nt2 _ _ hp1)), kitAny_cons (b := false) (kit_ty (by decide +kernel)) (fun _ => kitAny_cons (b := true) (kit_ty (by decide +kernel)) (fun h => by cases h) (fun _ => rfl)) (fun h => by cases h), _, rfl, ?_⟩⟩
      have st2 := same_upd (o := .tup [.ty "tuple", .ty "list"]) nt2
      have hp2 := st2 _ _ hp1
      have hq2 := st2 _ _ hq1
      refine iteF ?_
      generalize upd H1 t2 (.tup [.ty "tuple", .ty "list"]) = H2 at st2 hp2 hq2
      refine ⟨_, rfl, _, _, _, _, true, rfl, .ty "list", .base (.lst hp2), kit_ty (by decide +kernel), _, rfl, _, _, _, _, true, rfl, .ty "list", .base (.lst hq2), kit_ty (by decide +kernel), rfl, _, rfl, ?_⟩
      refine iteF ?_
      refine ⟨_, rfl, p, _, rfl, .inl (SqL.of hp2), _, rfl, q, _, rfl, .inl (SqL.of hq2), rfl, _, rfl, ?_⟩
      refine ifF (by simp) ?_
      refine ⟨_, rfl, q, _, rfl, .inl (SqL.of hq2), _, rfl, by omega, by omega, fun D nD => ?_⟩
      rw [Int.toNat_natCast]
      refine lc_gen over_range (fun _ => none) nD (by omega) ?_ ?_
      · rintro i x H4 Nx hi s4 rfl kN
        have e : xs[i]? = some xs[i] := List.getElem?_eq_getElem hi
        have ea : atI xs (0 + (i : Int)) = some xs[i] := by rw [Int.zero_add]; exact atI_nat e
        refine ⟨rfl, _, rfl, _, rfl, .inl ⟨_, _, _, _, rfl, rfl, SqL.of (s4 _ _ hp2), ea, ?_⟩⟩
        refine ⟨_, rfl, _, rfl, .inl ⟨_, _, _, _, rfl, rfl, SqL.of (s4 _ _ hq2), ea, ?_⟩⟩
        refine ⟨xs[i], rfl, hx _ (List.getElem_mem hi), fun H5 s5 => ⟨_, rfl, ?_⟩⟩
        refine iteF ?_
        exact kN H5 s5
      · intro H4 s4 hD
        have em : made (fun _ => none) xs.length = [] := by simp [made]
        rw [em] at hD
        refine ⟨by decide, fun z nz => ?_⟩
        have sz := same_upd (o := .lst []) nz
        refine ⟨_, _, .lst (SqL.of (sz _ _ hD)) .nil, .lst (SqL.of upd_same) .nil, by decide, by decide, ?_⟩
        exact k _ (((st.trans st2).trans s4).trans sz)
    · refine ⟨_, rfl, (by show 2 ≤ sizeLine; decide), fun t nt => ⟨_, _, _, _, _, true, rfl, upd_same, paired_tl, .base (.tup (same_upd nt _ _ hq)), kitAny_cons (b := true) (kit_ty (by decide +kernel)) (fun h => by cases h) (fun _ => rfl), _, rfl, ?_⟩⟩
      have st := same_upd (o := .tup [.ty "tuple", .ty "list"]) nt
      have hp1 := st _ _ hp
      have hq1 := st _ _ hq
      refine iteT ?_
      generalize upd H t (.tup [.ty "tuple", .ty "list"]) = H1 at st hp1 hq1
      refine ⟨_, rfl, (by show 2 ≤ sizeLine; decide), fun t2 nt2 => ⟨_, _, _, _, _, true, rfl, upd_same, paired_tl, .base (.tup (same_upd nt2 _ _ hp1)), kitAny_cons (b := true) (kit_ty (by decide +kernel)) (fun h => by cases h) (fun _ => rfl), _, rfl, ?_⟩⟩
      have st2 := same_upd (o := .tup [.ty "tuple", .ty "list"]) nt2
      have hp2 := st2 _ _ hp1
      have hq2 := st2 _ _ hq1
      refine iteF ?_
      generalize upd H1 t2 (.tup [.ty "tuple", .ty "list"]) = H2 at st2 hp2 hq2
      refine ⟨_, rfl, _, _, _, _, false, rfl, .ty "list", .base (.tup hp2), kit_ty (by decide +kernel), _, rfl, _, _, _, _, false, rfl, .ty "list", .base (.tup hq2), kit_ty (by decide +kernel), rfl, _, rfl, ?_⟩
      refine iteF ?_
      refine ⟨_, rfl, p, _, rfl, .inr (SqT.of hp2), _, rfl, q, _, rfl, .inr (SqT.of hq2), rfl, _, rfl, ?_⟩
      refine ifF (by simp) ?_
      refine ⟨_, rfl, q, _, rfl, .inr (SqT.of hq2), _, rfl, by omega, by omega, fun D nD => ?_⟩
      rw [Int.toNat_natCast]
      refine lc_gen over_range (fun _ => none) nD (by omega) ?_ ?_
      · rintro i x H4 Nx hi s4 rfl kN
        have e : xs[i]? = some xs[i] := List.getElem?_eq_getElem hi
        have ea : atI xs (0 + (i : Int)) = some xs[i] := by rw [Int.zero_add]; exact atI_nat e
        refine ⟨rfl, _, rfl, _, rfl, .inr (.inl ⟨_, _, _, _, rfl, rfl, SqT.of (s4 _ _ hp2), ea, ?_⟩)⟩
        refine ⟨_, rfl, _, rfl, .inr (.inl ⟨_, _, _, _, rfl, rfl, SqT.of (s4 _ _ hq2), ea, ?_⟩)⟩
        refine ⟨xs[i], rfl, hx _ (List.getElem_mem hi), fun H5 s5 => ⟨_, rfl, ?_⟩⟩
        refine iteF ?_
        exact kN H5 s5
      · intro H4 s4 hD
        have em : made (fun _ => none) xs.length = [] := by simp [made]
        rw [em] at hD
        refine ⟨by decide, fun z nz => ?_⟩
        have sz := same_upd (o := .lst []) nz
        refine ⟨_, _, .lst (SqL.of (sz _ _ hD)) .nil, .lst (SqL.of upd_same) .nil, by decide, by decide, ?_⟩
        exact k _ (((st.trans st2).trans s4).trans sz)
end
end Ow

end OwAlike
section OwUpd
set_option linter.all false
set_option maxRecDepth 100000
set_option maxHeartbeats 4000000
/-! d.update(e); sorted(pairs of a length and its text); that order's one sorted list. -/
namespace Ow
open PySem PySem.Spec PyProof.Rows L2
section
variable {X : Cx}
def rUpd : V → List V → Hp → VK → Prop := fun x xs H Q => ∃ (a b : Addr) (kvs more : List (Key × V)), x = .ref a ∧ xs = [.ref b] ∧ H a = some (.dK kvs) ∧ H b = some (.dK more) ∧ a ≠ b ∧ kvs.length + more.length ≤ sizeLine ∧ Q .non (upd H a (.dK (mergeK kvs more)))
theorem mt_updateD : MtR X "dict.update" rUpd := by
  intro pins s σ H x xs v us Q I rx rxs h
  obtain ⟨a, b, kvs, more, rfl, rfl, ha, hb, hab, hz, q⟩ := h
  obtain rfl : v = Value.ref a := rx
  obtain ⟨u, rfl, ru⟩ := vals1 rxs
  obtain rfl : u = Value.ref b := ru
  obtain ⟨z1, lo1, vs1, rel1, dd1⟩ := dk_of I.hok ha
  obtain ⟨z2, lo2, vs2, rel2, dd2⟩ := dk_of I.hok hb
  refine call_meetsIn PySem.F.slot_dict_update dd1.typeIs PySem.F.entry_dict_update (PySem.F.args_dict_update_2 _ _) (meets_dict_update (mixKind X.prog X.w) a b hab lo2) ⟨vs1, vs2, dd1, dd2, by rw [← rel1.length, ← rel2.length]; exact hz, fun h' dd' dd2' sb => ?_⟩
  have he : ∃ q, h'.get? a = some q := let ⟨q, _, _, hq, _⟩ := dd'; ⟨q, hq⟩
  have hl : (mergeK kvs more).length ≤ sizeLine := Nat.le_trans (length_mergeK more kvs) hz
  exact ⟨.non, _, d_write I (by rw [ha]; exact True.intro) sb he (dk_new hl lo1 (KV.merge rel2 rel1) dd'), rfl, q⟩
/-- at ls the pairs (length, text) of bs -/
def TP (H : Hp) (ls : List Addr) (bs : List (List Nat)) : Prop := ls.length = bs.length ∧ ∀ (i : Nat) (t : Addr) (k : List Nat), ls[i]? = some t → bs[i]? = some k → H t = some (.tup [.int ((S k).length : Nat), .str (S k)])
theorem lenKey_depth (k : List Nat) : (lenKey k).depth = 1 := by simp [lenKey, PyData.depth, PyData.depthAll]
theorem each_ix {α β : Type} {R : α → β → Prop} : ∀ {xs : List α} {ys : List β}, PySem.W.EachIs R xs ys → ∀ (i : Nat) x y, xs[i]? = some x → ys[i]? = some y → R x y
  | _, _, .nil, i, x, y, e, _ => by simp at e
  | _, _, .cons r t, 0, x, y, e1, e2 => by
    simp at e1 e2
    rw [← e1, ← e2]
    exact r
  | _, _, .cons r t, i + 1, x, y, e1, e2 => each_ix t i x y (by simpa using e1) (by simpa using e2)
theorem each_refs {Z : Addr → List Nat → Prop} : ∀ {out : List Value} {ys : List (List Nat)}, PySem.W.EachIs (fun v k => ∃ t, v = .ref t ∧ Z t k) out ys → ∃ ls : List Addr, out = ls.map Value.ref ∧ PySem.W.EachIs Z ls ys
  | _, _, .nil => ⟨[], rfl, .nil⟩
  | _, _, .cons ⟨t, e, z⟩ r => by
    obtain ⟨ls, e2, h2⟩ := each_refs r
    exact ⟨t :: ls, by rw [e, e2]; rfl, .cons z h2⟩
theorem refs_vals : ∀ ls : List Addr, Vals (ls.map V.ref) (ls.map Value.ref)
  | [] => .nil
  | a :: r => .cons rfl (refs_vals r)
theorem cr_sortPairs (hu : X.A.units + 64 < cLine) : CallR X (.builtin "sorted") (fun vs H Q => ∃ (a : Addr) (ls : List Addr) (bs : List (List Nat)), vs = [.ref a] ∧ H a = some (.lst (ls.map V.ref)) ∧ TP H ls bs ∧ bs.length ≤ 100000 ∧
    ∀ p ls', H p = none → ls'.length = bs.length → TP H ls' (sortK bs) → Q (.ref p) (upd H p (.lst (ls'.map V.ref)))) := by
  intro pins s σ H vs us Q I r h
  obtain ⟨a, ls, bs, rfl, ha, hT, hn, q⟩ := h
  obtain ⟨u, rfl, ru⟩ := vals1 r
  obtain rfl : u = Value.ref a := ru
  obtain ⟨its, rv, pl, hz⟩ := I.list (SqL.of ha)
  have ei : its = ls.map Value.ref := refs_at rv
  subst ei
  have big : 100000 ≤ sizeLine := by decide
  have hE : PySem.W.EachIs (fun (v : Value) (k : List Nat) => ∃ t, v = .ref t ∧ H t = some (.tup [.int ((S k).length : Nat), .str (S k)])) (ls.map Value.ref) bs := each_of (by rw [List.length_map]; exact hT.1) fun j v e => by
    rw [List.getElem?_map] at e
    cases e1 : ls[j]? with
    | none => rw [e1] at e; cases e
    | some t =>
      rw [e1] at e
      cases e
      have hj := (List.getElem?_eq_some_iff.mp e1).1
      have e2 : bs[j]? = some (bs[j]'(by rw [← hT.1]; exact hj)) := List.getElem?_eq_getElem _
      exact ⟨_, e2, t, rfl, hT.2 j t _ e1 e2⟩
  have hRd : PySem.W.EachIs (fun (v : Value) (k : List Nat) => ∃ as, Reads s.heap v (lenKey k) as) (ls.map Value.ref) bs := hE.mono fun v k ⟨t, e, ht⟩ => by
    rw [e]
    exact Dp.reads I (lenKey k) (.ref t) (.ref t) (.tup (SqT.of ht) (.cons (.int _) (.cons (.str _) .nil))) rfl
  refine PySem.W.sorted_data (bs := bs) (enc := lenKey) pl.isList hE hRd (PySem.W.AllAlike.of lenKey_alike) (PySem.W.Sortable.tuples fun b => ⟨_, _, rfl⟩) (by omega) (fun b _ => by rw [lenKey_depth]; omega) fun out hlo ho => ?_
  obtain ⟨ls', rfl, hE'⟩ := each_refs ho
  rw [List.length_map] at hlo
  obtain ⟨ep, he'⟩ := PyProof.Rows.sortedAll_at s.heap (ls.map Value.ref) (ls'.map Value.ref).toArray
  refine ⟨.ref _, upd H (s.heap.objs.size + 1) (.lst (ls'.map V.ref)), I.laid (t' := s.toks) (fun _ _ => PyProof.Rows.sortedAll_old) (Nat.le_succ _) ⟨by rw [List.length_map]; omega, ls'.map Value.ref, ep, refs_vals ls', he'⟩, rfl, q _ ls' (I.hok.fresh (Nat.le_succ _)) hlo ⟨?_, fun i t k e1 e2 => each_ix hE' i t k e1 e2⟩⟩
  unfold sortK
  rw [List.length_mergeSort]
  exact hlo
end
/-- the order: by the length, then by the signs -/
def le2 (a b : List Nat) : Prop := a.length < b.length ∨ (a.length = b.length ∧ a ≤ b)
theorem dataLe_le2 (a b : List Nat) : PySem.W.dataLe false lenKey a b = true ↔ le2 a b := by
  have e : PySem.W.dataLe false lenKey a b = !PySem.W.dataLt (lenKey b) (lenKey a) := rfl
  rw [e]
  have h1 : PySem.W.dataLt (lenKey b) (lenKey a) = if PyData.eqv (.int ((S b).length : Nat)) (.int ((S a).length : Nat)) = true then (if PyData.eqv (.str (S b)) (.str (S a)) = true then false else PySem.W.dataLt (.str (S b)) (.str (S a))) else PySem.W.dataLt (.int ((S b).length : Nat)) (.int ((S a).length : Nat)) := PySem.W.dataLt_pair rfl rfl
  have i1 : PyData.eqv (.int (b.length : Nat)) (.int (a.length : Nat)) = decide (b.length = a.length) := by
    simp only [PyData.eqv]
    rw [Bool.eq_iff_iff]
    simp
    omega
  have i2 : PyData.eqv (.str (S b)) (.str (S a)) = decide (b = a) := by
    simp only [PyData.eqv]
    rw [Bool.eq_iff_iff]
    simp
    exact ⟨S_inj, fun z => by rw [z]⟩
  rw [h1, PySem.W.dataLt_int, PySem.W.dataLt_str, S_list, S_list, S_len, S_len, i1, i2]
  unfold le2
  by_cases c : b.length = a.length
  · rw [decide_eq_true c, if_pos rfl]
    by_cases d : b = a
    · subst d
      rw [decide_eq_true rfl, if_pos rfl]
      simp
    · rw [decide_eq_false d, if_neg Bool.false_ne_true]
      rw [Bool.not_eq_true', decide_eq_false_iff_not, List.not_lt]
      exact ⟨fun z => .inr ⟨c.symm, z⟩, fun z => z.elim (fun h => by omega) fun h => h.2⟩
  · rw [decide_eq_false c, if_neg Bool.false_ne_true, Bool.not_eq_true', decide_eq_false_iff_not]
    omega
theorem le2_anti {a b : List Nat} (h1 : le2 a b) (h2 : le2 b a) : a = b := by
  unfold le2 at h1 h2
  rcases h1 with h1 | ⟨e, h1⟩
  · omega
  · rcases h2 with h2 | ⟨_, h2⟩
    · omega
    · exact List.le_antisymm h1 h2
theorem sortK_perm {l m : List (List Nat)} (h : l.Perm m) : sortK l = sortK m := by
  have tr : ∀ a b c : List Nat, PySem.W.dataLe false lenKey a b = true → PySem.W.dataLe false lenKey b c = true → PySem.W.dataLe false lenKey a c = true := fun a b c h1 h2 => by
    rw [dataLe_le2] at h1 h2 ⊢
    unfold le2 at *
    rcases h1 with h1 | ⟨e1, h1⟩
    · rcases h2 with h2 | ⟨e2, h2⟩
      · left; omega
      · left; omega
    · rcases h2 with h2 | ⟨e2, h2⟩
      · left; omega
      · exact .inr ⟨by omega, List.le_trans h1 h2⟩
  have tot : ∀ a b : List Nat, (PySem.W.dataLe false lenKey a b || PySem.W.dataLe false lenKey b a) = true := fun a b => by
    rw [Bool.or_eq_true, dataLe_le2, dataLe_le2]
    unfold le2
    rcases Nat.lt_trichotomy a.length b.length with q | q | q
    · exact .inl (.inl q)
    · rcases List.le_total a b with z | z
      · exact .inl (.inr ⟨q, z⟩)
      · exact .inr (.inr ⟨q.symm, z⟩)
    · exact .inr (.inl q)
  have hp : (sortK l).Perm (sortK m) := ((List.mergeSort_perm _ _).trans h).trans (List.mergeSort_perm _ _).symm
  refine List.Perm.eq_of_pairwise (le := fun a b => PySem.W.dataLe false lenKey a b = true) (fun a b _ _ h1 h2 => le2_anti ((dataLe_le2 a b).mp h1) ((dataLe_le2 b a).mp h2)) (List.pairwise_mergeSort tr tot l) (List.pairwise_mergeSort tr tot m) hp
end Ow

end OwUpd
section OwLaw0
set_option linter.all false
set_option maxRecDepth 100000
set_option maxHeartbeats 8000000
namespace Ow
open PySem PySem.Spec PyProof.Rows L2
theorem SqL.extN {K : PySem.W.Frag} {H H' : Hp} {a : Addr} {xs : List V} (e : LamX.ExtN H H') (h : SqL K H a xs) : SqL K H' a xs := by
  rcases h with (h | ⟨o, h⟩) | h
  · exact .inl (.inl (e _ _ h fun ps z => by cases z))
  · exact .inl (.inr ⟨o, e _ _ h fun ps z => by cases z⟩)
  · exact .inr h
theorem tup_extN {H H' : Hp} {a : Addr} {xs : List V} (e : LamX.ExtN H H') (h : H a = some (.tup xs)) : H' a = some (.tup xs) := e _ _ h fun ps z => by cases z
theorem CoAt.extN {H H' : Hp} {a : Addr} {n : Nat} {ps : List (Nat × Nat)} (e : LamX.ExtN H H') (h : CoAt H a n ps) : CoAt H' a n ps := by
  obtain ⟨pt, h1, ls, h2, h3, h4⟩ := h
  exact ⟨pt, tup_extN e h1, ls, tup_extN e h2, h3, fun i t p a b => tup_extN e (h4 i t p a b)⟩
theorem KindsAt.extN {H H' : Hp} {a : Addr} {n : Nat} {ps : List (Nat × Nat)} {ks : List (List Nat)} (e : LamX.ExtN H H') (h : KindsAt H a n ps ks) : KindsAt H' a n ps ks := ⟨tup_extN e h.1, h.2⟩
theorem KindsAt.sb {r : Addr} {H H' : Hp} {a : Addr} {n : Nat} {ps : List (Nat × Nat)} {ks : List (List Nat)} {ys : List V} (e : SB r H H') (hr : H r = some (.lst ys)) (h : KindsAt H a n ps ks) : KindsAt H' a n ps ks := ⟨e.tup hr h.1, h.2⟩
theorem RowAt.extN {K : PySem.W.Frag} {a : Addr} {H H' : Hp} {r : Addr} (e : LamX.ExtN H H') (h : RowAt K a H r) : RowAt K a H' r := by
  obtain ⟨ns, i, st, cell, h1, h3⟩ := h
  exact ⟨ns, i, st, cell, e _ _ h1 (fun ps z => by cases z), h3.elim (fun h => .inl ⟨h.1, SqL.extN e h.2⟩) fun h => .inr h⟩
theorem tabs_sb {T : List (Addr × Str)} {r : Addr} {H H' : Hp} {ys : List V} (e : SB r H H') (hr : H r = some (.lst ys)) (h : LamX.Tabs T H) : LamX.Tabs T H' := fun p hp => by
  obtain ⟨ps, h1, h2, h3⟩ := h p hp
  refine ⟨ps, e _ _ (ne_of h1 hr (by intro z; cases z)) h1, h2, fun pos cv hc => ?_⟩
  obtain ⟨c, e1, e2⟩ := h3 pos cv hc
  exact ⟨c, e1, e _ _ (ne_of e2 hr (by intro z; unfold LamX.CodeO at z; cases z)) e2⟩
/-- the law's way to the bound -/
def duStep (F : Nat → Nat → Bool) (d : Option (List Nat)) (k : List Nat) : Option (List Nat) := d.bind fun f => bnd F f k
theorem bndAll_eq (F : Nat → Nat → Bool) : ∀ (ks : List (List Nat)) (f : List Nat), bndAll F ks f = ks.foldl (duStep F) (some f)
  | [], f => rfl
  | k :: r, f => by
    show (bnd F f k).bind (fun g => bndAll F r g) = r.foldl (duStep F) (duStep F (some f) k)
    have e : duStep F (some f) k = bnd F f k := rfl
    rw [e]
    cases h : bnd F f k with
    | none =>
      have : ∀ l : List (List Nat), l.foldl (duStep F) none = none := fun l => by
        induction l with
        | nil => rfl
        | cons a l ih => exact ih
      rw [this]
      rfl
    | some g => exact bndAll_eq F r g
theorem metAll_snoc (F : Nat → Nat → Bool) (ks : List (List Nat)) (k : List Nat) : metAll F (ks ++ [k]) = some (match metAll F ks with | none => k | some m => common F m k) := by
  cases ks with
  | nil => rfl
  | cons a r =>
    show some ((r ++ [k]).foldl (common F) a) = some (common F (r.foldl (common F) a) k)
    rw [List.foldl_append]
    rfl
/-- keys put one after another -/
theorem keys_merge : ∀ (L : List (List Nat)) (kvs : List (Key × V)) (ds : List (List Nat)), KeysAre kvs ds → KeysAre (mergeK kvs (L.map fun k => (Sum.inr (S k), V.bl true))) (L.foldl ins ds)
  | [], _, _, h => h
  | k :: r, kvs, ds, h => keys_merge r (putK kvs (Sum.inr (S k)) (.bl true)) (ins ds k) (keys_put k _ h)
theorem mergeK_map {kvs more : List (Key × V)} {ds L : List (List Nat)} (h : KeysAre kvs ds) (hm : KeysAre more L) : KeysAre (mergeK kvs more) (L.foldl ins ds) := by
  induction more generalizing kvs ds L with
  | nil =>
    cases L with
    | nil => exact h
    | cons k r => cases hm
  | cons p r ih =>
    cases L with
    | nil => cases hm
    | cons k L =>
      have e1 : p.1 = Sum.inr (S k) := by
        have := congrArg (fun z => z.head?) hm
        simpa using this
      have e2 : KeysAre r L := by
        have := congrArg List.tail hm
        unfold KeysAre
        simpa using this
      have h2 := keys_put (v := p.2) k h
      rw [← e1] at h2
      show KeysAre (mergeK (putK kvs p.1 p.2) r) (L.foldl ins (ins ds k))
      exact ih h2 e2
theorem foldl_ins_mem : ∀ (L ds : List (List Nat)) (x : List Nat), x ∈ L.foldl ins ds ↔ x ∈ ds ∨ x ∈ L
  | [], ds, x => by simp
  | k :: r, ds, x => by
    rw [List.foldl_cons, foldl_ins_mem r, ins_mem, List.mem_cons]
    constructor
    · rintro ((h | h) | h)
      · exact .inl h
      · exact .inr (.inl h)
      · exact .inr (.inr h)
    · rintro (h | h | h)
      · exact .inl (.inl h)
      · exact .inl (.inr h)
      · exact .inr h
theorem foldl_ins_nodup : ∀ (L ds : List (List Nat)), ds.Nodup → (L.foldl ins ds).Nodup
  | [], ds, h => h
  | k :: r, ds, h => foldl_ins_nodup r _ (ins_nodup h)
theorem foldl_ins_len : ∀ (L ds : List (List Nat)), (L.foldl ins ds).length ≤ ds.length + L.length
  | [], ds => Nat.le_refl _
  | k :: r, ds => by
    have h1 := foldl_ins_len r (ins ds k)
    have h2 := ins_len ds k
    rw [List.foldl_cons, List.length_cons]
    omega
theorem togIn_eq (F : Nat → Nat → Bool) (k : List Nat) (L ds : List (List Nat)) : togIn F k L ds = (L.map fun s => common F s k).foldl ins ds := by
  unfold togIn
  rw [List.foldl_map]
theorem togStep_mem (F : Nat → Nat → Bool) (ds : List (List Nat)) (k x : List Nat) : x ∈ togStep F ds k ↔ x ∈ ds ∨ x ∈ ds.map (fun s => common F s k) ∨ x = k := by
  unfold togStep
  rw [ins_mem, togIn_eq, foldl_ins_mem]
  exact or_assoc
theorem togStep_nodup {F : Nat → Nat → Bool} {ds : List (List Nat)} {k : List Nat} (h : ds.Nodup) : (togStep F ds k).Nodup := by
  unfold togStep
  rw [togIn_eq]
  exact ins_nodup (foldl_ins_nodup _ _ h)
/-- the law's step over its own dict -/
def lawStep (F : Nat → Nat → Bool) (ds : List (List Nat)) (k : List Nat) : List (List Nat) := (((ds.map fun s => common F s k) ++ [k]).foldl ins []).foldl ins ds
theorem lawStep_mem (F : Nat → Nat → Bool) (ds : List (List Nat)) (k x : List Nat) : x ∈ lawStep F ds k ↔ x ∈ ds ∨ x ∈ ds.map (fun s => common F s k) ∨ x = k := by
  unfold lawStep
  rw [foldl_ins_mem, foldl_ins_mem, List.mem_append, List.mem_singleton]
  simp
theorem law_tog (F : Nat → Nat → Bool) : ∀ (ks ds es : List (List Nat)), ds.Nodup → es.Nodup → (∀ x, x ∈ ds ↔ x ∈ es) → (ks.foldl (lawStep F) ds).Perm (ks.foldl (togStep F) es)
  | [], ds, es, h1, h2, h => (List.perm_ext_iff_of_nodup h1 h2).mpr h
  | k :: r, ds, es, h1, h2, h => law_tog F r _ _ (foldl_ins_nodup _ _ h1) (togStep_nodup h2) fun x => by
    rw [lawStep_mem, togStep_mem, h x]
    have : x ∈ ds.map (fun s => common F s k) ↔ x ∈ es.map (fun s => common F s k) := by
      rw [List.mem_map, List.mem_map]
      exact ⟨fun ⟨y, hy, e⟩ => ⟨y, (h y).mp hy, e⟩, fun ⟨y, hy, e⟩ => ⟨y, (h y).mpr hy, e⟩⟩
    rw [this]
theorem same_sorted (F : Nat → Nat → Bool) (ks : List (List Nat)) : sortK (ks.foldl (lawStep F) []) = sortK (togAll F ks) := sortK_perm (law_tog F ks [] [] List.nodup_nil List.nodup_nil fun x => Iff.rfl)
end Ow

end OwLaw0
section OwLaw1
set_option linter.all false
set_option maxRecDepth 100000
set_option maxHeartbeats 16000000
namespace Ow
open PySem PySem.Spec PyProof.Rows L2
abbrev lawN : List Str := ["_law_script", "_law_row", "_law_company_here", "_law_kinds", "_law_base", "_law_met", "_law_kind_here", "_law_found", "_law_due", "_law_more", "_law_some", "_law_one", "_law_sizes", "_law_turn", "_law_told"]
theorem scLaw : FnScope lawN ["_law_script"] (defScope sLaw) := ⟨rfl, rfl, rfl, by decide +kernel, rfl, by decide +kernel, by decide +kernel⟩
section
variable {P : Program} {w : World} {K : PySem.W.Frag} {mg : Str → Option Value} {base : Heap}
/-- what the law's text takes -/
structure Txt (P : Program) (w : World) (K : PySem.W.Frag) (mg : Str → Option Value) (base : Heap) (T C : Addr) : Prop where
  company : Cal P w K mg base 2 "_law_company" ["_law_row", "_law_most"] (spCompany K)
  drawns : Cal P w K mg base 4 "_law_drawn_kinds" ["_law_row", "_law_company_here", "_law_most"] (spDrawnKinds K)
  taken : Cal P w K mg base 1 "_law_taken" ["_law_row", "_law_many"] (spTaken K)
  whole : Cal P w K mg base 3 "_law_whole" ["_law_row", "_law_company_here"] (spDrawnKind K)
  drawn : Cal P w K mg base 3 "_law_drawn_kind" ["_law_row", "_law_company_here"] (spDrawnKind K)
  kind : Cal P w K mg base 2 "_law_kind" ["_law_company_here", "_law_word_here"] spKind
  comm : Cal P w K mg base 4 "_law_common" ["_law_company_here", "_law_one", "_law_other"] spCommonL
  al1 : Cal P w K mg base 1 "_law_alike" ["_law_found", "_law_due"] spAl1
  al2 : Cal P w K mg base 2 "_law_alike" ["_law_found", "_law_due"] spAl2
  alB : Cal P w K mg base 2 "_law_alike" ["_law_found", "_law_due"] (fun vs H Q E => spAl1 vs H Q E ∨ spAl2 vs H Q E)
  all_ : Cal P w K mg base 4 "common_of_all" ["company", "kinds"] spCommonAll
  tog : Cal P w K mg base 4 "together" ["company", "kinds"] (spTogether T)
  great : Cal P w K mg base 4 "greatest_meet" ["company", "one", "kinds"] spGreatest
  bound : ∃ f fd, FnOk P w K mg base (L2.CX P w) 4 f fd ["company", "kinds"] (spBoundAll C) ∧ mg "bound_of_all" = some (.ref f) ∧ PySem.W.keepIn K (.ref f) = true ∧ Binds K fd ["company", "kinds"] []
  gC : mg "NoBound" = some (.ref C)
  eC : PySem.W.exmOne K (.ref C) (.ref C) = some true
  mT : mg "tuple" = none
  mR : mg "range" = none
  mL : mg "len" = none
  mD : mg "dict" = none
  mI : mg "list" = none
  mS : mg "sorted" = none
  mM : mg "max" = none
theorem dp_ints {H : Hp} : ∀ l : List Int, DpAll K H (l.map V.int) (l.map PyData.int)
  | [] => .nil
  | c :: r => .cons (.int _) (dp_ints r)
theorem lay_ints : ∀ l : List Int, PyData.canLayAll0 (l.map PyData.int) = true ∧ PyData.depthAll (l.map PyData.int) = 0
  | [] => ⟨rfl, rfl⟩
  | c :: r => by
    obtain ⟨h1, h2⟩ := lay_ints r
    exact ⟨by simp only [List.map_cons, PyData.canLayAll0, PyData.canLay0, h1]; rfl, by simp only [List.map_cons, PyData.depthAll, PyData.depth, h2]; rfl⟩
theorem shaped_ints (l : List Int) : SeqAt.shaped (.list (l.map PyData.int)) = true := by
  obtain ⟨h1, h2⟩ := lay_ints l
  unfold SeqAt.shaped
  rw [show PyData.canLay0 (.list (l.map PyData.int)) = true from h1, show PyData.depth (.list (l.map PyData.int)) = 1 by rw [PyData.depth, h2]]
  rfl
abbrev lawX (P : Program) (w : World) (K : PySem.W.Frag) (mg : Str → Option Value) (base : Heap) (f : Addr) (cdv : Value) (A : Around) (outer : List Env) (s : Shared) (H : Hp) (E : XK) : Cx :=
  (cxOf CX0 P w K mg base lawN "law" (defScope sLaw) f cdv A outer s H E).nox
theorem FnOk.or {CX : CXT} {k : Nat} {f : Addr} {fd : FuncData} {ps : List Str} {sp sp' : Sp} (F : FnOk P w K mg base CX k f fd ps sp) (G : FnOk P w K mg base CX k f fd ps sp') : FnOk P w K mg base CX k f fd ps (fun vs H Q E => sp vs H Q E ∨ sp' vs H Q E) :=
  ⟨fun vs H Q E h => h.elim (F.len vs H Q E) (G.len vs H Q E), fun A outer s H args us vs Q E hr he hb hv h => h.elim (F.run A outer s H args us vs Q E hr he hb hv) (G.run A outer s H args us vs Q E hr he hb hv)⟩
structure LawAt (K : PySem.W.Frag) (H : Hp) (r a c b : Addr) (n : Nat) (ps : List (Nat × Nat)) (ks : List (List Nat)) : Prop where
  row : RowAt K a H r
  co : CoAt H c n ps
  good : Good n ps
  kinds : KindsAt H b n ps ks
  few : ks.length ≤ 5
theorem LawAt.same {H H' : Hp} {r a c b : Addr} {n : Nat} {ps : List (Nat × Nat)} {ks : List (List Nat)} (e : Same H H') (h : LawAt K H r a c b n ps ks) : LawAt K H' r a c b n ps ks := ⟨h.row.same e, h.co.same e, h.good, h.kinds.same e, h.few⟩
theorem LawAt.extN {H H' : Hp} {r a c b : Addr} {n : Nat} {ps : List (Nat × Nat)} {ks : List (List Nat)} (e : LamX.ExtN H H') (h : LawAt K H r a c b n ps ks) : LawAt K H' r a c b n ps ks := ⟨h.row.extN e, h.co.extN e, h.good, h.kinds.extN e, h.few⟩
section
variable {f : Addr} {cdv : Value} {A : Around} {outer : List Env} {s : Shared} {H0 : Hp} {E0 : XK} {T C : Addr}
theorem law_4 (X : Txt P w K mg base T C) (hr : Room 4 (A.deeper (envOfC "law" (defScope sLaw) s.heap.objs.size f cdv))) : ∃ t, PSs (lawX P w K mg base f cdv A outer s H0 E0) ((defBody sLaw).drop 14) t ∧
    ∀ (D : Ends) (r a c b : Addr) (n : Nat) (ps : List (Nat × Nat)) (ks : List (List Nat)) (v0 v4 v5 v6 v7 v8 v9 v10 v11 v12 v13 v14 : Option V) (H : Hp), LawAt K H r a c b n ps ks → (∀ H', D.rt (.bl true) H') → t D [v0, some (.ref r), some (.ref c), some (.ref b), v4, v5, v6, v7, v8, v9, v10, v11, v12, v13, v14] H := by
  have nd := scLaw.nd
  have h2 := hr.mono (j := 2) (by decide)
  have h3 := hr.mono (j := 3) (by decide)
  refine ⟨_, pss_cons (ps_set (i := 11) nd rfl (.inr rfl) (pe_cl X.drawn h3 rfl (pa_cons (pv 1) (pa_cons (pv 2) pa_nil))))
      (pss_cons (ps_setLc (i := 12) (own := [("_law_kind_here", 6)]) (g := gName 6) (tt := tYes) rfl nd rfl rfl (sw_true rfl rfl rfl (by decide +kernel)) (pi_tup (pv 3)) (blkOk_by (N := lawN) (sc := defScope sLaw) (by decide +kernel)) (fun _ _ _ _ _ => pg_name (i := 6) nd rfl (Or.inl rfl)) (fun _ _ _ _ _ => pts_nil)
        (fun _ _ _ _ _ => pe_callB call_len_str rfl X.mL PySem.boot_len (pa_cons (pe_cl X.comm hr rfl (pa_cons (pv 2) (pa_cons (pv 11) (pa_cons (pv 6) pa_nil)))) pa_nil)))
      (pss_one (ps_ret (pe_cl X.alB h2 rfl (pa_cons (pe_cl X.great hr rfl (pa_cons (pv 2) (pa_cons (pv 11) (pa_cons (pv 3) pa_nil)))) (pa_cons (pe_ifExp (pt_cmpR (op_neD hr.units) (pv 12) (pe_lst pa_nil) (nomark _))
        (pe_tup (pa_cons (pe_callB (cr_max rfl) rfl X.mM (by decide +kernel) (pa_cons (pv 12) pa_nil)) (pa_cons (pe_bm PySem.F.plainAttrs_list PySem.F.slot_list_index PySem.F.type_list_index mt_index (pv 12) (pa_cons (pe_callB (cr_max rfl) rfl X.mM (by decide +kernel) (pa_cons (pv 12) pa_nil)) pa_nil)) pa_nil))) pe_non) pa_nil)))))), ?_⟩
  intro D r a c b n ps ks v0 v4 v5 v6 v7 v8 v9 v10 v11 v12 v13 v14 H hL k
  obtain ⟨y0, hr0⟩ := hL.row.here
  have h7 := hL.good.most
  have big : 100000 ≤ sizeLine := by decide
  refine ⟨_, rfl, _, rfl, r, a, c, n, ps, rfl, hL.row, hL.co, hL.good, fun x H1 kx s1 R1 => ?_⟩
  have hC1 := s1.co hr0 hL.co
  have hK1 := hL.kinds.sb s1 hr0
  have k1 := hK1.1
  have fewk : (ks.map fun k => V.str (S k)).length = ks.length := List.length_map ..
  have O := over_tup (K := K) k1
  rw [fewk] at O
  refine ⟨_, rfl, b, rfl, ⟨_, SqT.of k1⟩, fun L nL => lc_all O (fun i => ((ks[i]?.map fun k => V.int (((common (FF ps) x k).length : Nat) : Int))).getD .non) nL (by have := hL.few; omega) ?_ ?_⟩
  · rintro i z H2 Nx hi s2 hz kN
    rw [List.getElem?_map] at hz
    cases e : ks[i]? with
    | none => rw [e] at hz; cases hz
    | some l =>
      rw [e] at hz
      cases hz
      have kl := hK1.2.2 l (List.mem_of_getElem? e)
      rw [e] at kN
      refine ⟨rfl, _, rfl, _, rfl, _, rfl, c, n, ps, x, l, rfl, hC1.same s2, hL.good, kx, kl, fun H3 s3 => ⟨_, rfl, small (kx.common kl).len (by omega), ?_⟩⟩
      rw [S_len]
      exact kN H3 s3
  · intro H2 s2 hLs
    rw [range_get] at hLs
    have ez : (ks.map fun k => V.int (((common (FF ps) x k).length : Nat) : Int)) = ((sizes (FF ps) x ks).map fun z : Nat => (z : Int)).map V.int := by
      unfold sizes
      rw [List.map_map, List.map_map]
      rfl
    rw [ez] at hLs
    have hC2 := hC1.same s2
    have hK2 := hK1.same s2
    refine ⟨_, rfl, _, rfl, _, rfl, c, b, n, ps, x, ks, rfl, hC2, hL.good, kx, hK2, fun e0 H3 s3 => ?_, fun m j p H3 hB s3 np hp => ?_⟩
    · subst e0
      refine ⟨_, rfl, by decide, fun z nz => ?_⟩
      have sz := same_upd (o := .lst []) nz
      refine ⟨_, _, .lst (SqL.of (sz _ _ (s3 _ _ hLs))) (dp_ints _), .lst (SqL.of upd_same) .nil, shaped_ints _, by decide, _, rfl, ?_⟩
      refine ifF rfl ?_
      exact .inl ⟨.non, rfl, .inl rfl, fun H' _ => k H'⟩
    · have ne : (sizes (FF ps) x ks) ≠ [] := fun z => by
        have := hB.at_
        rw [z] at this
        simp at this
      generalize hzs : sizes (FF ps) x ks = zs at hLs hB ne
      refine ⟨_, rfl, by decide, fun z nz => ?_⟩
      have sz := same_upd (o := .lst []) nz
      have hL3 := sz _ _ (s3 _ _ hLs)
      have hp3 := sz _ _ hp
      refine ⟨_, _, .lst (SqL.of hL3) (dp_ints _), .lst (SqL.of upd_same) .nil, shaped_ints _, by decide, _, rfl, ?_⟩
      refine ifT (by
        cases zs with
        | nil => exact absurd rfl ne
        | cons z0 zr => simp [PyData.eqv, PyData.eqvAll]) ?_
      have pos : 0 < (zs.map fun z : Nat => (z : Int)).length := by
        rw [List.length_map]
        exact List.length_pos_iff.mpr ne
      have um : ∀ m2 : Int, m2 ∈ (zs.map fun z : Nat => (z : Int)) → (∀ y, y ∈ (zs.map fun z : Nat => (z : Int)) → y ≤ m2) → m2 = (m : Nat) := fun m2 h1 h2 => by
        obtain ⟨q, hq, rfl⟩ := List.mem_map.mp h1
        have a1 := hB.top q hq
        have a2 := h2 (m : Int) (List.mem_map.mpr ⟨m, List.mem_of_getElem? hB.at_, rfl⟩)
        omega
      refine ⟨_, rfl, L, _, rfl, SqL.of hL3, pos, fun m2 g1 g2 => ?_⟩
      obtain rfl := um m2 g1 g2
      refine ⟨_, rfl, .inl ⟨rfl, _, SqL.of hL3⟩, _, rfl, L, _, rfl, SqL.of hL3, pos, fun m3 g3 g4 => ?_⟩
      obtain rfl := um m3 g3 g4
      refine ⟨L, _, .int (m : Nat), j, .int (m : Nat), rfl, rfl, SqL.of hL3, rfl, by simp [flatV], ?_, ?_, ?_, (by show 2 ≤ sizeLine; decide), fun t nt => ?_⟩
      · rw [List.getElem?_map, List.getElem?_map, hB.at_]
        rfl
      · show (((m : Nat) : Int) == ((m : Nat) : Int)) = true
        simp
      · intro q z' hq hz'
        rw [List.getElem?_map, List.getElem?_map] at hz'
        cases e : zs[q]? with
        | none => rw [e] at hz'; cases hz'
        | some w =>
          rw [e] at hz'
          cases hz'
          show (((w : Nat) : Int) == ((m : Nat) : Int)) = false
          have nw : w ≠ m := fun z => hB.fst q hq (by rw [e, z])
          simp
          omega
      · refine .inr ⟨p, t, [.int (m : Nat), .int (j : Nat)], rfl, .inr ⟨same_upd nt _ _ hp3, upd_same⟩, (by show 2 ≤ 100000; decide), fun v hv => ?_, fun H' _ => k H'⟩
        rcases List.mem_cons.mp hv with q | q
        · exact .inr (.inr ⟨_, q⟩)
        · exact .inr (.inr ⟨_, List.mem_singleton.mp q⟩)
end
end
end Ow

end OwLaw1
section OwLaw2
set_option linter.all false
set_option maxRecDepth 100000
set_option maxHeartbeats 16000000
namespace Ow
open PySem PySem.Spec PyProof.Rows L2
/-- at us the tuples that Z tells of L -/
def AT (Z : List Nat → List V) (H : Hp) (us : List Addr) (L : List (List Nat)) : Prop := us.length = L.length ∧ ∀ (i : Nat) (t : Addr) (k : List Nat), us[i]? = some t → L[i]? = some k → H t = some (.tup (Z k))
theorem AT.same {Z : List Nat → List V} {H H' : Hp} {us : List Addr} {L : List (List Nat)} (e : Same H H') (h : AT Z H us L) : AT Z H' us L := ⟨h.1, fun i t k a b => e _ _ (h.2 i t k a b)⟩
theorem AT.upd {Z : List Nat → List V} {H : Hp} {D : Addr} {us : List Addr} {L : List (List Nat)} {ys zs : List V} (hD : H D = some (.lst ys)) (h : AT Z H us L) : AT Z (upd H D (.lst zs)) us L := ⟨h.1, fun i t k a b => by
  have e := h.2 i t k a b
  rw [upd_ne (ne_of e hD (by intro z; cases z))]
  exact e⟩
theorem AT.snoc {Z : List Nat → List V} {H : Hp} {us : List Addr} {L : List (List Nat)} {t : Addr} {k : List Nat} (h : AT Z H us L) (ht : H t = some (.tup (Z k))) : AT Z H (us ++ [t]) (L ++ [k]) := by
  refine ⟨by rw [List.length_append, List.length_append, h.1]; rfl, fun i u q a b => ?_⟩
  by_cases c : i < us.length
  · rw [List.getElem?_append_left c] at a
    rw [List.getElem?_append_left (by rw [← h.1]; exact c)] at b
    exact h.2 i u q a b
  · rw [List.getElem?_append_right (by omega)] at a
    rw [List.getElem?_append_right (by rw [← h.1]; omega), ← h.1] at b
    cases e : i - us.length with
    | zero =>
      rw [e] at a b
      cases a
      cases b
      exact ht
    | succ j =>
      rw [e] at a
      simp at a
theorem at_paired {K : PySem.W.Frag} {H : Hp} : ∀ {us : List Addr} {L : List (List Nat)}, AT (fun k => [.str (S k), .bl true]) H us L → Paired (fun p (kv : Key × V) => SqT K H p [kV kv.1, kv.2]) us (L.map fun k => (Sum.inr (S k), V.bl true))
  | [], [], _ => .nil
  | [], _ :: _, h => absurd h.1 (by simp)
  | _ :: _, [], h => absurd h.1 (by simp)
  | t :: us, k :: L, h => .cons (SqT.of (h.2 0 t k rfl rfl)) (at_paired ⟨by simpa using h.1, fun i t' k' a b => h.2 (i + 1) t' k' (by simpa using a) (by simpa using b)⟩)
theorem lc_tups {K : PySem.W.Frag} {q : Addr} {ds : List (List Nat)} {H1 : Hp} {g : TG} {te : TE} {vs : List Nat} {σ : L2.St} {D : Addr} {Qd : Hp → Prop} (Z : List Nat → List V) (G : List Nat → List Nat) (hq : H1 q = some (.lst (ds.map fun k => .str (S k)))) (nD : H1 D = none) (few : ds.length < sizeLine)
    (hs : ∀ k H5 (Nx : V → Hp → Prop), k ∈ ds → Same H1 H5 → (∀ t H6, Same H5 H6 → H6 t = some (.tup (Z (G k))) → Nx (.ref t) H6) → g (.str (S k)) (wipe σ vs) H5 fun σ2 H2 => wipe σ2 vs = wipe σ vs ∧ te σ2 H2 fun y H4 => Nx y H4)
    (hd : ∀ H us, Same H1 H → H D = some (.lst (us.map V.ref)) → AT Z H us (ds.map G) → Qd H) :
    ∃ W : Nat → Nat → Hp → Prop, (∃ m, W 0 m (upd H1 D (.lst []))) ∧ ∀ i m H, W i m H →
      ((Itl K q).stop i H ∧ Qd H) ∨ ((Itl K q).go i H ∧ ∃ Nx : Hp → Prop, (∀ H', Nx H' → ∃ m', m' < m ∧ W (i + 1) m' H') ∧ ∀ x H', (Itl K q).yld i H x H' → g x (wipe σ vs) H' fun σ2 H2 => wipe σ2 vs = wipe σ vs ∧ tYes σ2 H2 fun b H3 =>
        if b = true then te σ2 H3 fun y H4 => ∃ acc, H4 D = some (.lst acc) ∧ acc.length < sizeLine ∧ Nx (upd H4 D (.lst (acc ++ [y]))) else Nx H3) := by
  have O := over_list (K := K) hq
  rw [List.length_map] at O
  refine lc_raw (n := ds.length) (fun i acc H5 => Same H1 H5 ∧ ∃ us, acc = us.map V.ref ∧ AT Z H5 us ((ds.take i).map G)) ⟨same_upd nD, [], rfl, by simp, fun i t k a => by simp at a⟩ (fun i acc H5 hi h => O.go i H5 h.1 hi) (fun acc H5 h => O.stop H5 h.1) (fun i acc H5 hi h => ?_) ?_ ?_
  · obtain ⟨_, us, rfl, h, _⟩ := h
    rw [List.length_map, h, List.length_map, List.length_take]
    omega
  · rintro i x H5 H6 acc Nx hi ⟨s5, us, rfl, hu⟩ hD5 hy kS kN
    obtain ⟨s6, hx⟩ := O.yld i H5 x H6 s5 hi hy
    rw [List.getElem?_map] at hx
    cases e : ds[i]? with
    | none => rw [e] at hx; cases hx
    | some l =>
      rw [e] at hx
      cases hx
      refine hs l H6 (fun y H4 => Nx (some y) H4) (List.mem_of_getElem? e) (s5.trans s6) fun t H7 s7 ht => ?_
      have s57 := s6.trans s7
      refine kS _ _ (s57 _ _ hD5) ⟨same_put nD (s5.trans s57), us ++ [t], by rw [List.map_append]; rfl, ?_⟩
      rw [List.take_add_one, e, Option.toList_some, List.map_append]
      exact ((hu.same s57).snoc ht).upd (s57 _ _ hD5)
  · rintro H5 acc ⟨s5, us, rfl, hu⟩ hD5
    rw [List.take_length] at hu
    exact hd H5 us s5 hD5 hu
section
variable {P : Program} {w : World} {K : PySem.W.Frag} {mg : Str → Option Value} {base : Heap} {f : Addr} {cdv : Value} {A : Around} {outer : List Env} {s : Shared} {H0 : Hp} {E0 : XK} {T C : Addr}
theorem law_3 (X : Txt P w K mg base T C) (hr : Room 4 (A.deeper (envOfC "law" (defScope sLaw) s.heap.objs.size f cdv))) : ∃ t, PSs (lawX P w K mg base f cdv A outer s H0 E0) ((defBody sLaw).drop 11) t ∧
    ∀ (D : Ends) (r a c b : Addr) (n : Nat) (ps : List (Nat × Nat)) (ks : List (List Nat)) (v0 v4 v5 v6 v7 v8 v9 v10 v11 v12 v13 v14 : Option V) (H : Hp), LawAt K H r a c b n ps ks → LamX.Tabs (tabT T) H → (∀ H', D.rt (.bl true) H') → t D [v0, some (.ref r), some (.ref c), some (.ref b), v4, v5, v6, v7, v8, v9, v10, v11, v12, none, none] H := by
  have nd := scLaw.nd
  have h2 := hr.mono (j := 2) (by decide)
  obtain ⟨t4, p4, r4⟩ := law_4 (P := P) (w := w) (K := K) (mg := mg) (base := base) (f := f) (cdv := cdv) (A := A) (outer := outer) (s := s) (H0 := H0) (E0 := E0) X hr
  refine ⟨_, pss_cons (ps_set (i := 10) nd rfl (.inl rfl) pe_dnewK)
      (pss_cons (ps_for PassesOwn.never rfl (pi_tup (pv 3)) (pg_name (i := 6) nd rfl (.inr rfl))
        (pss_one (ps_expr (pe_bm PySem.F.plainAttrs_dict PySem.F.slot_dict_update PySem.F.type_dict_update mt_updateD (pv 10) (pa_cons (pe_callTy (call_dictP rfl) rfl X.mD (by decide +kernel) (pa_cons (pe_op op_cat
          (pe_lc (own := [("_law_told", 14)]) (g := gName 14) (tt := tYes) rfl nd (pi_list (pe_callTy (call_list_dK rfl) rfl X.mI (by decide +kernel) (pa_cons (pv 10) pa_nil))) (blkOk_by (N := lawN) (sc := defScope sLaw) (by decide +kernel)) (fun _ _ _ _ _ => pg_name (i := 14) nd rfl (Or.inl rfl)) (fun _ _ _ _ _ => pts_nil)
            (fun _ _ _ _ _ => pe_tup (pa_cons (pe_cl X.comm hr rfl (pa_cons (pv 2) (pa_cons (pv 14) (pa_cons (pv 6) pa_nil)))) (pa_cons pe_bl pa_nil))))
          (pe_lst (pa_cons (pe_tup (pa_cons (pv 6) (pa_cons pe_bl pa_nil))) pa_nil))) pa_nil)) pa_nil)))))
      (pss_cons (ps_if (pt_not (pt_val (pe_cl X.al2 h2 rfl (pa_cons (pe_cl X.tog hr rfl (pa_cons (pv 2) (pa_cons (pv 3) pa_nil)))
          (pa_cons (pe_lc (own := [("_law_told", 14)]) (g := gName 14) (tt := tYes) rfl nd (pi_list (pe_callB (cr_sortPairs hr.units) rfl X.mS (by decide +kernel) (pa_cons
            (pe_lc (own := [("_law_told", 14)]) (g := gName 14) (tt := tYes) rfl nd (pi_list (pe_callTy (call_list_dK rfl) rfl X.mI (by decide +kernel) (pa_cons (pv 10) pa_nil))) (blkOk_by (N := lawN) (sc := defScope sLaw) (by decide +kernel)) (fun _ _ _ _ _ => pg_name (i := 14) nd rfl (Or.inl rfl)) (fun _ _ _ _ _ => pts_nil)
              (fun _ _ _ _ _ => pe_tup (pa_cons (pe_callB call_len_str rfl X.mL PySem.boot_len (pa_cons (pv 14) pa_nil)) (pa_cons (pv 14) pa_nil)))) pa_nil))) (blkOk_by (N := lawN) (sc := defScope sLaw) (by decide +kernel)) (fun _ _ _ _ _ => pg_name (i := 14) nd rfl (Or.inl rfl)) (fun _ _ _ _ _ => pts_nil)
              (fun _ _ _ _ _ => pe_ix (r := rIxT K) ix_tup (pv 14) pe_int (fun _ _ => rfl))) pa_nil))))) (pss_one (ps_ret pe_bl)) pss_nil) p4)), ?_⟩
  intro D r a c b n ps ks v0 v4 v5 v6 v7 v8 v9 v10 v11 v12 v13 v14 H hL hT k
  have h7 := hL.good.most
  have hf := hL.few
  have big : 100000 < sizeLine := by decide
  obtain ⟨k1, k2, k3⟩ := id hL.kinds
  have keysL : ∀ (kvs : List (Key × V)) (ds : List (List Nat)), KeysAre kvs ds → (kvs.map fun kv => kV kv.1) = ds.map fun k => V.str (S k) := fun kvs ds hk => by
    have h2 := congrArg (List.map kV) hk
    rw [List.map_map, List.map_map] at h2
    exact h2
  intro d nd0
  refine ⟨_, rfl, b, rfl, ⟨_, SqT.of (same_upd nd0 _ _ k1)⟩, ?_⟩
  refine for_gen (over_tup k1) (fun i σ H4 => ∃ v6 ds kvs, σ = [v0, some (.ref r), some (.ref c), some (.ref b), v4, v5, v6, v7, v8, v9, some (.ref d), v11, v12, none, none] ∧ Same H H4 ∧ H4 d = some (.dK kvs) ∧ KeysAre kvs ds ∧ ds = (ks.take i).foldl (lawStep (FF ps)) [] ∧ (∀ x ∈ ds, KO n ps x) ∧ ds.length + 1 ≤ 2 ^ i) ⟨v6, [], [], rfl, same_upd nd0, upd_same, rfl, rfl, fun x hx => by simp at hx, by decide⟩ (fun i σ H2 ⟨_, _, _, _, h, _⟩ => h) ?_ ?_
  · rintro i x σ H4 H5 hi ⟨v6', ds, kvs, rfl, s4, hd, hk, eds, hko, hlen⟩ s5 hx
    rw [List.getElem?_map] at hx
    cases e : ks[i]? with
    | none => rw [e] at hx; cases hx
    | some l =>
      rw [e] at hx
      cases hx
      have kl := k3 l (List.mem_of_getElem? e)
      have i5 : i < 5 := by
        have := (List.getElem?_eq_some_iff.mp e).1
        omega
      have p5 : 2 ^ i ≤ 2 ^ 4 := Nat.pow_le_pow_right (by decide) (by omega)
      have stp : (ks.take (i + 1)).foldl (lawStep (FF ps)) [] = lawStep (FF ps) ds l := by
        rw [List.take_add_one, e, Option.toList_some, List.foldl_append, eds]
        rfl
      have hd5 := s5 _ _ hd
      have s05 := s4.trans s5
      refine ⟨_, rfl, .inr (.inr (.inl ⟨rfl, .inl ⟨_, hd5⟩⟩)), _, rfl, d, kvs, rfl, hd5, fun q nq => ?_⟩
      rw [keysL kvs ds hk]
      have t1 := same_upd (o := .lst (ds.map fun k => V.str (S k))) nq
      have hC := hL.co.same (s05.trans t1)
      refine ⟨q, rfl, ⟨_, SqL.of upd_same⟩, fun D1 nD1 => lc_tups (fun k => [.str (S k), .bl true]) (fun z => common (FF ps) z l) upd_same nD1 (by omega) ?_ ?_⟩
      · rintro z H6 Nx hz s6 kN
        refine ⟨rfl, _, rfl, _, rfl, _, rfl, c, n, ps, z, l, rfl, hC.same s6, hL.good, hko z hz, kl, fun H7 s7 => ⟨(by show 2 ≤ sizeLine; decide), fun t nt => ?_⟩⟩
        exact kN t _ (s7.trans (same_upd nt)) upd_same
      · intro H6 us s6 hD1 hus
        have s16 := t1.trans s6
        refine ⟨_, rfl, (by show 2 ≤ sizeLine; decide), fun t nt => ⟨(by show 1 ≤ sizeLine; decide), fun D2 nD2 => ?_⟩⟩
        have u1 := same_upd (o := .tup [.str (S l), .bl true]) nt
        have u2 := same_upd (o := .lst [.ref t]) nD2
        have hus2 := (hus.same (u1.trans u2)).snoc (u2 _ _ upd_same)
        refine ⟨_, _, _, _, rfl, rfl, u2 _ _ (u1 _ _ hD1), upd_same, by rw [List.length_map, hus.1, List.length_map]; show ds.length + 1 ≤ sizeLine; omega, fun p np => ?_⟩
        have u3 := same_upd (o := .lst (us.map V.ref ++ [.ref t])) np
        refine ⟨p, us ++ [t], _, rfl, SqL.of (by rw [upd_same, List.map_append]; rfl), at_paired (hus2.same u3), fun p2 np2 => ?_⟩
        have u4 := same_upd (o := .dK (mergeK [] (((ds.map fun z => common (FF ps) z l) ++ [l]).map fun k => (Sum.inr (S k), V.bl true)))) np2
        have s6f := ((s16.trans u1).trans u2).trans (u3.trans u4)
        have hd6 := s6f _ _ hd5
        have ndp : d ≠ p2 := ne_of_none ((s16.trans u1).trans u2 |>.trans u3 _ _ hd5) np2
        have km := keys_merge ((ds.map fun z => common (FF ps) z l) ++ [l]) [] [] rfl
        have lm := foldl_ins_len ((ds.map fun z => common (FF ps) z l) ++ [l]) []
        rw [List.length_append, List.length_map] at lm
        have lm : (((ds.map fun z => common (FF ps) z l) ++ [l]).foldl ins []).length ≤ 0 + (ds.length + 1) := lm
        refine ⟨d, p2, kvs, _, rfl, rfl, hd6, upd_same, ndp, by rw [hk.len, km.len]; omega, ?_⟩
        refine ⟨_, lawStep (FF ps) ds l, _, rfl, same_put nd0 (s05.trans s6f), upd_same, mergeK_map hk km, stp.symm, fun x hx => ?_, ?_⟩
        · rcases (lawStep_mem _ _ _ _).mp hx with h | h | h
          · exact hko x h
          · obtain ⟨y, hy, rfl⟩ := List.mem_map.mp h
            exact (hko y hy).common kl
          · rw [h]
            exact kl
        · have := foldl_ins_len (((ds.map fun z => common (FF ps) z l) ++ [l]).foldl ins []) ds
          have e3 : lawStep (FF ps) ds l = (((ds.map fun z => common (FF ps) z l) ++ [l]).foldl ins []).foldl ins ds := rfl
          rw [e3, Nat.pow_succ]
          omega
  · rintro σ H4 ⟨v6', ds, kvs, rfl, s4, hd, hk, eds, hko, hlen⟩
    rw [List.length_map] at hlen eds
    rw [List.take_length] at eds
    have p5 : 2 ^ ks.length ≤ 2 ^ 5 := Nat.pow_le_pow_right (by decide) hf
    have hL4 := hL.same s4
    have srt : sortK ds = sortK (togAll (FF ps) ks) := by rw [eds]; exact same_sorted (FF ps) ks
    refine ⟨_, rfl, _, rfl, c, b, n, ps, ks, rfl, hL4.co, hL.good, hL4.kinds, hT.ext s4, fun H5 p eN T5 hp => ?_⟩
    have hd5 : H5 d = some (.dK kvs) := eN _ _ hd fun ps z => by cases z
    refine ⟨_, rfl, d, kvs, rfl, hd5, fun q nq => ?_⟩
    rw [keysL kvs ds hk]
    have t1 := same_upd (o := .lst (ds.map fun k => V.str (S k))) nq
    refine ⟨q, rfl, ⟨_, SqL.of upd_same⟩, fun D1 nD1 => lc_tups (fun k => [.int ((S k).length : Nat), .str (S k)]) (fun z => z) upd_same nD1 (by omega) ?_ ?_⟩
    · rintro z H6 Nx hz s6 kN
      refine ⟨rfl, _, rfl, _, rfl, small (hko z hz).len (by omega), _, rfl, (by show 2 ≤ sizeLine; decide), fun t nt => ?_⟩
      exact kN t _ (same_upd nt) upd_same
    · intro H6 us s6 hD1 hus
      rw [List.map_id'] at hus
      refine ⟨D1, us, ds, rfl, hD1, hus, by omega, fun p2 ls' np2 hlen' TP' => ?_⟩
      have u1 := same_upd (o := .lst (ls'.map V.ref)) np2
      have hl2 : (upd H6 p2 (.lst (ls'.map V.ref))) p2 = some (.lst (ls'.map V.ref)) := upd_same
      have TP2 : AT (fun k => [.int ((S k).length : Nat), .str (S k)]) (upd H6 p2 (.lst (ls'.map V.ref))) ls' (sortK ds) := AT.same u1 TP'
      have O := over_list (K := K) hl2
      rw [List.length_map] at O
      refine ⟨p2, rfl, ⟨_, SqL.of hl2⟩, fun D2 nD2 => lc_all O (fun i => (((sortK ds)[i]?.map fun k => V.str (S k))).getD .non) nD2 (by omega) ?_ ?_⟩
      · rintro i z H7 Nx hi s7 hz kN
        rw [List.getElem?_map] at hz
        have e1 : ls'[i]? = some ls'[i] := List.getElem?_eq_getElem hi
        have hi2 : i < (sortK ds).length := by rw [← TP2.1]; exact hi
        have e2 : (sortK ds)[i]? = some (sortK ds)[i] := List.getElem?_eq_getElem hi2
        rw [e1] at hz
        cases hz
        have ht := s7 _ _ (TP2.2 i _ _ e1 e2)
        refine ⟨rfl, _, rfl, _, _, _, _, rfl, rfl, SqT.of ht, atI_nat (j := 1) rfl, ?_⟩
        have kN := kN H7 (Same.refl _)
        rw [e2] at kN
        exact kN
      · intro H7 s7 hD2
        have el : ls'.length = (sortK ds).length := TP2.1
        rw [el, range_get] at hD2
        have s57 := ((t1.trans s6).trans u1).trans s7
        rw [srt] at hD2
        have lz : ((sortK (togAll (FF ps) ks)).map fun k => V.str (S k)).length ≤ 100000 := by
          rw [List.length_map, ← srt, ← el, hlen']
          omega
        refine ⟨p, D2, _, rfl, .inl ⟨s57 _ _ hp, hD2⟩, lz, fun v hv => ?_, fun H8 s8 => ⟨_, rfl, ?_⟩⟩
        · obtain ⟨z, _, rfl⟩ := List.mem_map.mp hv
          exact .inr (.inl ⟨_, rfl⟩)
        · refine iteF ?_
          exact r4 D r a c b n ps ks _ _ _ _ _ _ _ _ _ _ _ _ H8 (((hL4.extN eN).same s57).same s8) k
end
end Ow

end OwLaw2
section OwLaw3
set_option linter.all false
set_option maxRecDepth 100000
set_option maxHeartbeats 16000000
namespace Ow
open PySem PySem.Spec PyProof.Rows L2
section
variable {P : Program} {w : World} {K : PySem.W.Frag} {mg : Str → Option Value} {base : Heap} {f : Addr} {cdv : Value} {A : Around} {outer : List Env} {s : Shared} {H0 : Hp} {E0 : XK} {T C : Addr}
def metNext (F : Nat → Nat → Bool) (m : Option (List Nat)) (k : List Nat) : List Nat := match m with
  | none => k
  | some q => common F q k
theorem law_2b (X : Txt P w K mg base T C) (hr : Room 4 (A.deeper (envOfC "law" (defScope sLaw) s.heap.objs.size f cdv))) : ∃ t, PSs (lawX P w K mg base f cdv A outer s H0 E0) ((defBody sLaw).drop 9) t ∧
    ∀ (D : Ends) (r a c b : Addr) (n : Nat) (ps : List (Nat × Nat)) (ks : List (List Nat)) (v0 v4 v5 v6 : Option V) (H : Hp), LawAt K H r a c b n ps ks → LamX.Tabs (tabT T) H → (∀ H', D.rt (.bl true) H') → t D [v0, some (.ref r), some (.ref c), some (.ref b), v4, v5, v6, some (oV (bndAll (FF ps) ks [])), some (.str (S [])), none, none, none, none, none, none] H := by
  have nd := scLaw.nd
  have h1 := hr.mono (j := 1) (by decide)
  have h2 := hr.mono (j := 2) (by decide)
  obtain ⟨t3, p3, r3⟩ := law_3 (P := P) (w := w) (K := K) (mg := mg) (base := base) (f := f) (cdv := cdv) (A := A) (outer := outer) (s := s) (H0 := H0) (E0 := E0) X hr
  refine ⟨_, pss_cons (ps_for PassesOwn.never rfl (pi_tup (pv 3)) (pg_name (i := 6) nd rfl (.inr rfl))
        (pss_cons (ps_set (i := 9) nd rfl (.inl rfl) (pe_ifExp (pt_cmpR op_isN (pv 8) pe_non (nomark _)) pe_non (pe_cl X.kind h2 rfl (pa_cons (pv 2) (pa_cons (pe_op op_add_str (pv 8) (pv 6)) pa_nil)))))
        (pss_one (ps_set (i := 8) nd rfl (.inl rfl) (pe_ifExp (PW.pt (pw_and (pt_cmpR op_notN (pv 9) pe_non (nomark _)) (pw_and1 (pt_cmpR op_eq (pe_cl X.kind h2 rfl (pa_cons (pv 2) (pa_cons (pe_op op_add_str (pv 6) (pv 8)) pa_nil))) (pv 9) (nomark _))))) (pv 9) pe_non)))))
      (pss_cons (ps_if (pt_not (pt_val (pe_cl X.al1 h1 rfl (pa_cons (pv 7) (pa_cons (pv 8) pa_nil))))) (pss_one (ps_ret pe_bl)) pss_nil) p3), ?_⟩
  intro D r a c b n ps ks v0 v4 v5 v6 H hL hT k
  have h7 := hL.good.most
  have hf := hL.few
  have big : 1000 ≤ sizeLine := by decide
  obtain ⟨k1, k2, k3⟩ := id hL.kinds
  have plain : ∀ o : Option (List Nat), Plain (oV o) := fun o => by
    cases o with
    | none => exact .inl rfl
    | some l => exact .inr (.inl ⟨_, rfl⟩)
  refine ⟨_, rfl, b, rfl, ⟨_, SqT.of k1⟩, ?_⟩
  refine for_gen (over_tup k1) (fun i σ H4 => ∃ v6 v9 m, σ = [v0, some (.ref r), some (.ref c), some (.ref b), v4, v5, v6, some (oV (bndAll (FF ps) ks [])), some (oV m), v9, none, none, none, none, none] ∧ Same H H4 ∧ m = (ks.take i).foldl (duStep (FF ps)) (some []) ∧ ∀ l, m = some l → KO n ps l) ⟨v6, none, some [], rfl, Same.refl _, rfl, fun l e => by cases e; exact KO.nil⟩ (fun i σ H2 ⟨_, _, _, _, h, _⟩ => h) ?_ ?_
  · rintro i x σ H4 H5 hi ⟨v6', v9', m, rfl, s4, em, hm⟩ s5 hx
    rw [List.getElem?_map] at hx
    cases e : ks[i]? with
    | none => rw [e] at hx; cases hx
    | some l =>
      rw [e] at hx
      cases hx
      have kl := k3 l (List.mem_of_getElem? e)
      have s05 := s4.trans s5
      have stp : (ks.take (i + 1)).foldl (duStep (FF ps)) (some []) = duStep (FF ps) m l := by
        rw [List.take_add_one, e, Option.toList_some, List.foldl_append, ← em]
        rfl
      rw [stp]
      cases m with
      | none =>
        refine ⟨_, rfl, rfl, _, rfl, ?_⟩
        refine ifT (decide_eq_true rfl) ?_
        refine ⟨_, rfl, rfl, _, rfl, ?_⟩
        refine ifF (by simp) ?_
        exact ⟨_, _, none, rfl, s05, rfl, fun l' e' => by cases e'⟩
      | some q =>
        have kq := hm q rfl
        have lq := kq.len
        have ll := kl.len
        refine ⟨_, rfl, rfl, _, rfl, ?_⟩
        refine ifF (by simp [oV]) ?_
        refine ⟨_, rfl, _, rfl, _, rfl, _, _, rfl, rfl, by rw [S_len, S_len]; omega, ?_⟩
        rw [S_app]
        refine ⟨c, n, ps, q ++ l, rfl, hL.co.same s05, hL.good, kq.app kl, by rw [List.length_append]; omega, fun H6 s6 => ?_⟩
        refine ⟨_, rfl, rfl, _, rfl, ?_⟩
        refine ifT (by simp) ?_
        refine ⟨_, rfl, _, rfl, _, rfl, _, _, rfl, rfl, by rw [S_len, S_len]; omega, ?_⟩
        rw [S_app]
        refine ⟨c, n, ps, l ++ q, rfl, hL.co.same (s05.trans s6), hL.good, kl.app kq, by rw [List.length_append]; omega, fun H7 s7 => ⟨_, rfl, rfl, _, rfl, ?_⟩⟩
        have s07 := (s05.trans s6).trans s7
        have eb : duStep (FF ps) (some q) l = if kind (FF ps) (l ++ q) = kind (FF ps) (q ++ l) then some (kind (FF ps) (q ++ l)) else none := by
          show bnd (FF ps) q l = _
          unfold bnd
          rw [bound_eq (FF_comm ps)]
        rw [eb]
        by_cases ec : kind (FF ps) (l ++ q) = kind (FF ps) (q ++ l)
        · rw [if_pos ec]
          refine dT (congrArg (fun z => V.str (S z)) ec) ?_
          refine ⟨_, rfl, _, _, some (kind (FF ps) (q ++ l)), rfl, s07, rfl, fun l' e' => ?_⟩
          cases e'
          exact KO.kind (kq.app kl)
        · rw [if_neg ec]
          refine dF (fun z => ec (by injection z with z; exact S_inj z)) ?_
          exact ⟨_, _, none, rfl, s07, rfl, fun l' e' => by cases e'⟩
  · rintro σ H4 ⟨v6', v9', m, rfl, s4, em, hm⟩
    rw [List.length_map, List.take_length, ← bndAll_eq] at em
    rw [← em]
    refine ⟨_, rfl, _, rfl, oV m, rfl, plain m, fun H6 s6 => ⟨_, rfl, ?_⟩⟩
    refine iteF ?_
    exact r3 D r a c b n ps ks _ _ _ _ _ _ _ _ _ _ none none H6 ((hL.same s4).same s6) (hT.ext (s4.trans s6)) k
theorem law_2 (X : Txt P w K mg base T C) (hr : Room 4 (A.deeper (envOfC "law" (defScope sLaw) s.heap.objs.size f cdv))) : ∃ t, PSs (lawX P w K mg base f cdv A outer s H0 E0) ((defBody sLaw).drop 4) t ∧
    ∀ (D : Ends) (r a c b : Addr) (n : Nat) (ps : List (Nat × Nat)) (ks : List (List Nat)) (v0 v4 : Option V) (H : Hp), LawAt K H r a c b n ps ks → LamX.Tabs (tabT T) H → (∀ H', D.rt (.bl true) H') → t D [v0, some (.ref r), some (.ref c), some (.ref b), v4, none, none, none, none, none, none, none, none, none, none] H := by
  have nd := scLaw.nd
  have h1 := hr.mono (j := 1) (by decide)
  have h2 := hr.mono (j := 2) (by decide)
  obtain ⟨fB, fdB, GB, gB, kB, bB⟩ := X.bound
  obtain ⟨t9, p9, r9⟩ := law_2b (P := P) (w := w) (K := K) (mg := mg) (base := base) (f := f) (cdv := cdv) (A := A) (outer := outer) (s := s) (H0 := H0) (E0 := E0) X hr
  refine ⟨_, pss_cons (ps_set (i := 5) nd rfl (.inl rfl) pe_non)
      (pss_cons (ps_for PassesOwn.never rfl (pi_tup (pv 3)) (pg_name (i := 6) nd rfl (.inr rfl))
        (pss_one (ps_set (i := 5) nd rfl (.inl rfl) (pe_ifExp (pt_cmpR op_isN (pv 5) pe_non (nomark _)) (pv 6) (pe_cl X.comm hr rfl (pa_cons (pv 2) (pa_cons (pv 5) (pa_cons (pv 6) pa_nil))))))))
      (pss_cons (ps_if (pt_not (pt_val (pe_cl X.al1 h1 rfl (pa_cons (pe_cl X.all_ hr rfl (pa_cons (pv 2) (pa_cons (pv 3) pa_nil))) (pa_cons (pv 5) pa_nil))))) (pss_one (ps_ret pe_bl)) pss_nil)
      (pss_cons (ps_asg (pe_tup (pa_cons pe_non (pa_cons pe_str pa_nil))) (pg_tup rfl (pgs_cons (pg_name (i := 7) nd rfl (.inl rfl)) (pgs_cons (pg_name (i := 8) nd rfl (.inl rfl)) pgs_nil))))
      (pss_cons (ps_try_only rfl rfl ⟨rfl, by decide, .inl X.gC⟩ takes0 (fun W pn xe tk _ => pss_one (ps_set (i := 7) nd rfl (.inl rfl) (pe_callS GB hr rfl gB kB bB (fun σ => passAt tk σ) (by exact (pa_cons (pv 2) (pa_cons (pv 3) pa_nil))))))
        (fun _ _ _ _ _ _ _ => pss_one (ps_set (i := 7) nd rfl (.inl rfl) pe_non)))
      p9)))), ?_⟩
  intro D r a c b n ps ks v0 v4 H hL hT k
  have h7 := hL.good.most
  have hf := hL.few
  have big : 1000 ≤ sizeLine := by decide
  obtain ⟨k1, k2, k3⟩ := id hL.kinds
  have plain : ∀ o : Option (List Nat), Plain (oV o) := fun o => by
    cases o with
    | none => exact .inl rfl
    | some l => exact .inr (.inl ⟨_, rfl⟩)
  refine ⟨_, rfl, b, rfl, ⟨_, SqT.of k1⟩, ?_⟩
  refine for_gen (over_tup k1) (fun i σ H4 => ∃ v6 m, σ = [v0, some (.ref r), some (.ref c), some (.ref b), v4, some (oV m), v6, none, none, none, none, none, none, none, none] ∧ Same H H4 ∧ m = metAll (FF ps) (ks.take i) ∧ ∀ l, m = some l → KO n ps l) ⟨none, none, rfl, Same.refl _, rfl, fun l e => by cases e⟩ (fun i σ H2 ⟨_, _, _, h, _⟩ => h) ?_ ?_
  · rintro i x σ H4 H5 hi ⟨v6', m, rfl, s4, em, hm⟩ s5 hx
    rw [List.getElem?_map] at hx
    cases e : ks[i]? with
    | none => rw [e] at hx; cases hx
    | some l =>
      rw [e] at hx
      cases hx
      have kl := k3 l (List.mem_of_getElem? e)
      have s05 := s4.trans s5
      have stp : metAll (FF ps) (ks.take (i + 1)) = some (metNext (FF ps) m l) := by
        rw [List.take_add_one, e, Option.toList_some, metAll_snoc, ← em]
        rfl
      rw [stp]
      cases m with
      | none =>
        refine ⟨_, rfl, rfl, _, rfl, ?_⟩
        refine ifT (decide_eq_true rfl) ?_
        refine ⟨_, rfl, _, some l, rfl, s05, rfl, fun l' e' => ?_⟩
        cases e'
        exact kl
      | some q =>
        have kq := hm q rfl
        refine ⟨_, rfl, rfl, _, rfl, ?_⟩
        refine ifF (by simp [oV]) ?_
        refine ⟨_, rfl, _, rfl, _, rfl, c, n, ps, q, l, rfl, hL.co.same s05, hL.good, kq, kl, fun H6 s6 => ?_⟩
        refine ⟨_, some (common (FF ps) q l), rfl, s05.trans s6, rfl, fun l' e' => ?_⟩
        cases e'
        exact kq.common kl
  · rintro σ H4 ⟨v6', m, rfl, s4, em, hm⟩
    rw [List.length_map, List.take_length] at em
    have hL4 := hL.same s4
    refine ⟨_, rfl, _, rfl, c, b, n, ps, ks, rfl, hL4.co, hL.good, hL4.kinds, fun H5 s5 => ?_⟩
    rw [← em]
    refine ⟨_, rfl, oV m, rfl, plain m, fun H6 s6 => ⟨_, rfl, ?_⟩⟩
    refine iteF ?_
    refine ⟨(by show 2 ≤ sizeLine; decide), fun t nt => ?_⟩
    have ut := same_upd (o := .tup [.non, .str ""]) nt
    have s07 := ((s4.trans s5).trans s6).trans ut
    have hL7 := hL.same s07
    refine ⟨_, _, rfl, SqT.of upd_same, rfl, _, _, rfl, _, _, rfl, rfl, ?_⟩
    generalize upd H6 t (.tup [.non, .str ""]) = H7 at s07 hL7
    refine ⟨_, rfl, _, rfl, c, b, n, ps, ks, rfl, hL7.co, hL.good, hL7.kinds, fun l H8 eb s8 => ?_, fun H8 eb s8 => ?_⟩
    · have q := r9 D r a c b n ps ks v0 v4 (some (oV m)) v6' H8 (hL7.same s8) (hT.ext (s07.trans s8)) k
      rw [eb, ← S_nil] at q
      exact q
    · refine ⟨true, X.eC, fun _ a' ha => ?_, fun q => nomatch q⟩
      have q := r9 D r a c b n ps ks v0 v4 (some (oV m)) v6' H8 (hL7.same s8) (hT.ext (s07.trans s8)) k
      rw [eb, ← S_nil] at q
      exact q
end
end Ow

end OwLaw3
section OwLaw4
set_option linter.all false
set_option maxRecDepth 100000
set_option maxHeartbeats 16000000
namespace Ow
open PySem PySem.Spec PyProof.Rows L2
section
variable {P : Program} {w : World} {K : PySem.W.Frag} {mg : Str → Option Value} {base : Heap}
def spLaw (T : Addr) (K : PySem.W.Frag) : Sp := fun vs H Q _ => ∃ (a : Addr) (ns : List Int), vs = [.ref a] ∧ SqL K H a (ns.map V.int) ∧ LamX.Tabs (tabT T) H ∧ ∀ H', Q (.bl true) H'
theorem ok_law {f C T : Addr} {fd : FuncData} (F : Fun K "law" "law" sLaw f fd) (X : Txt P w K mg base T C) : FnOk P w K mg base CX0 5 f fd ["_law_script"] (spLaw T K) := by
  refine F.ok scLaw (fun vs H Q E h => ?_) (fun cdv A outer s H vs Q E hr h => ?_)
  · obtain ⟨a, ns, rfl, _⟩ := h
    rfl
  · obtain ⟨a, ns, rfl, hS, hT, k⟩ := h
    have nd := scLaw.nd
    have h1 := hr.mono (j := 1) (by decide)
    have h2 := hr.mono (j := 2) (by decide)
    have h3 := hr.mono (j := 3) (by decide)
    obtain ⟨t2, p2, r2⟩ := law_2 (P := P) (w := w) (K := K) (mg := mg) (base := base) (f := f) (cdv := cdv) (A := A) (outer := outer) (s := s) (H0 := H) (E0 := E) X hr
    refine ⟨_, pss_cons (ps_set (i := 1) nd rfl (.inr rfl) (pe_lst (pa_cons (pv 0) (pa_cons pe_int (pa_cons pe_int (pa_cons pe_int pa_nil))))))
      (pss_cons (ps_set (i := 2) nd rfl (.inr rfl) (pe_cl X.company h2 rfl (pa_cons (pv 1) (pa_cons pe_int pa_nil))))
      (pss_cons (ps_set (i := 3) nd rfl (.inl rfl) (pe_cl X.drawns hr rfl (pa_cons (pv 1) (pa_cons (pv 2) (pa_cons pe_int pa_nil)))))
      (pss_cons (ps_if (pt_cmpR op_eq (pe_cl X.taken h1 rfl (pa_cons (pv 1) (pa_cons pe_int pa_nil))) pe_int (nomark _))
        (pss_cons (ps_set (i := 4) nd rfl (.inr rfl) (pe_cl X.whole h3 rfl (pa_cons (pv 1) (pa_cons (pv 2) pa_nil))))
        (pss_one (ps_set (i := 3) nd rfl (.inl rfl) (pe_callTy call_tuple_of rfl X.mT (by decide +kernel) (pa_cons (pe_lc (own := [("_law_turn", 13)]) (g := gName 13) (tt := tYes) rfl nd (pi_range1 rfl X.mR (pa_cons (pe_op op_add pe_int (pe_cl X.taken h1 rfl (pa_cons (pv 1) (pa_cons pe_int pa_nil)))) pa_nil)) (blkOk_by (N := lawN) (sc := defScope sLaw) (by decide +kernel)) (fun _ _ _ _ _ => pg_name (i := 13) nd rfl (Or.inl rfl)) (fun _ _ _ _ _ => pts_nil)
          (fun _ _ _ _ _ => pe_cl X.kind h2 rfl (pa_cons (pv 2) (pa_cons (pe_slice sl_str (pv 4) po_none (po_some (pe_cl X.taken h1 rfl (pa_cons (pv 1) (pa_cons pe_int pa_nil))))) pa_nil)))) pa_nil))))) pss_nil) p2))), ?_⟩
    have big : 1000 ≤ sizeLine := by decide
    refine ⟨_, rfl, (by show 4 ≤ sizeLine; decide), fun r nr => ?_⟩
    have u0 := same_upd (o := .lst [.ref a, .int 0, .int 7912, .int 0]) nr
    have R0 : RowAt K a (upd H r (.lst [.ref a, .int 0, .int 7912, .int 0])) r := ⟨ns, 0, 7912, 0, upd_same, ScrAt.new u0 nr hS⟩
    have T0 := hT.ext u0
    generalize upd H r (.lst [.ref a, .int 0, .int 7912, .int 0]) = H1 at R0 T0
    obtain ⟨y1, hr1⟩ := R0.here
    refine ⟨_, rfl, r, a, rfl, R0, fun c n ps H2 s2 R2 hC hG => ?_⟩
    obtain ⟨y2, hr2⟩ := R2.here
    refine ⟨_, rfl, _, rfl, r, a, c, n, ps, rfl, R2, hC, hG, fun b ks H3 hf s3 R3 hK => ?_⟩
    obtain ⟨y3, hr3⟩ := R3.here
    have hC3 := s3.co hr2 hC
    have T3 := tabs_sb s3 hr2 (tabs_sb s2 hr1 T0)
    refine ⟨_, rfl, r, a, 2, rfl, by decide, by decide, R3, fun v H4 hv s4 R4 => ⟨rfl, _, rfl, ?_⟩⟩
    obtain ⟨y4, hr4⟩ := R4.here
    have hC4 := s4.co hr3 hC3
    have hK4 := hK.sb s4 hr3
    have T4 := tabs_sb s4 hr3 T3
    refine ite2 (fun _ => ?_) fun _ => ?_
    · refine ⟨_, rfl, _, rfl, r, a, c, n, ps, rfl, R4, hC4, hG, fun l H5 kl s5 R5 => ?_⟩
      obtain ⟨y5, hr5⟩ := R5.here
      have hC5 := s5.co hr4 hC4
      have T5 := tabs_sb s5 hr4 T4
      have lz := kl.len
      have h7 := hG.most
      refine ⟨_, rfl, r, a, 4, rfl, by decide, by decide, R5, fun v6 H6 hv6 s6 R6 => ⟨_, _, rfl, rfl, _, rfl, by show -(2 ^ 62) ≤ (1 : Int) + (v6 : Int); omega, by show (1 : Int) + (v6 : Int) < 2 ^ 62; omega, fun D nD => ?_⟩⟩
      have en : ((1 : Int) + (v6 : Int)).toNat = v6 + 1 := by omega
      rw [en]
      obtain ⟨y6, hr6⟩ := R6.here
      have hC6 := s6.co hr5 hC5
      have T6 := tabs_sb s6 hr5 T5
      have hDr : D ≠ r := fun z => by rw [z, hr6] at nD; cases nD
      refine lc_raw (n := v6 + 1) (fun j acc H7 => SB r H6 H7 ∧ RowAt K a H7 r ∧ ∃ qs : List (List Nat), acc = qs.map (fun k => .str (S k)) ∧ (∀ x ∈ qs, KO n ps x) ∧ qs.length = j) ⟨SB.of (same_upd nD), R6.same (same_upd nD), [], rfl, fun x hx => by simp at hx, rfl⟩ (fun j acc H5 hj _ => hj) (fun acc H5 _ => Nat.le_refl _) (fun j acc H5 hj ⟨_, _, l, e, _, hl⟩ => by rw [e, List.length_map, hl]; omega) ?_ ?_
      · rintro j z H7 H7' acc Nx hj ⟨s7, R7, qs, rfl, hm, hl⟩ hD7 ⟨rfl, rfl⟩ kS kN
        obtain ⟨y7, hr7⟩ := R7.here
        have hC7 := s7.co hr6 hC6
        refine ⟨rfl, _, rfl, _, rfl, _, rfl, r, a, 8, rfl, by decide, by decide, R7, fun v8 H8 hv8 s8 R8 => ⟨_, rfl, _, rfl, small lz (by omega), ?_⟩⟩
        rw [cut_ahead]
        have hml : ∀ x ∈ l.take v8, x ∈ letters n := fun x hx => kl.mem x (List.mem_of_mem_take hx)
        refine ⟨c, n, ps, l.take v8, rfl, s8.co hr7 hC7, hG, hml, by rw [List.length_take]; omega, fun H9 s9 => ?_⟩
        have hD9 := s9 _ _ (s8 _ _ hDr hD7)
        refine kS _ _ hD9 ⟨fun b' o nb e => ?_, R6.put nD (R8.same s9), qs ++ [kind (FF ps) (l.take v8)], by rw [List.map_append]; rfl, fun x hx => ?_, by rw [List.length_append, hl]; rfl⟩
        · rw [upd_ne (ne_of_none e nD)]
          exact s9 _ _ (s8 _ _ nb (s7 _ _ nb e))
        · rcases List.mem_append.mp hx with q | q
          · exact hm x q
          · rw [List.mem_singleton.mp q]
            exact KO.kind hml
      · rintro H7 acc ⟨s7, R7, qs, rfl, hm, hl⟩ hD7
        have T7 := tabs_sb s7 hr6 T6
        refine ⟨D, _, rfl, .inl ⟨SqL.of hD7, fun b2 nb2 => ?_⟩⟩
        have tb := same_upd (o := .tup (qs.map fun k => .str (S k))) nb2
        exact r2 _ r a c b2 n ps qs _ _ _ ⟨R7.same tb, (s7.co hr6 hC6).same tb, hG, ⟨upd_same, by omega, hm⟩, by omega⟩ (T7.ext tb) k
    · exact r2 _ r a c b n ps ks _ _ H4 ⟨R4, hC4, hG, hK4, hf⟩ T4 k
end
end Ow

end OwLaw4
section OwEnd
set_option linter.all false
set_option maxRecDepth 100000
set_option maxHeartbeats 8000000
/-! The end: what the top leaves behind, collected; the law's def over it. -/
namespace Ow
open PySem PySem.Spec PyProof.Rows L2
/-- a def of the text, found in the written part by its name -/
structure DefIn (K : PySem.W.Frag) (x : Str) (st : Stmt) (f : Addr) (fd : FuncData) : Prop where
  fn : Fun K x x st f fd
  ns : PySem.W.nsIn K mainGlobals x = some (some (.ref f))
theorem defIn_mk {K : PySem.W.Frag} {x : Str} {st : Stmt} {f : Addr} {oc kV doc pm cdv ct : Value} {od an : Option Addr} {osl : Array (Option Value)} (a : PySem.W.nsIn K mainGlobals x = some (some (.ref f)))
    (l : K.lookup f = some ⟨oc, od, .func (PySem.W.fnOf x x (defArgs st) (defBody st) (defScope st) .none kV doc pm an cdv ct), osl⟩) (c : PySem.W.codeIn K cdv x = true) (k : PySem.W.keepIn K (.ref f) = true) : ∃ f fd, DefIn K x st f fd :=
  ⟨f, _, fun_mk l c k, a⟩
/-- the same of a def that makes a lambda: its code object is wanted too -/
structure DefInC (K : PySem.W.Frag) (x : Str) (st : Stmt) (f : Addr) (fd : FuncData) (c T : Addr) : Prop where
  fn : FunC K x x st f fd c
  kp : PySem.W.keepIn K (.ref f) = true
  ns : PySem.W.nsIn K mainGlobals x = some (some (.ref f))
  hd : PySem.W.codeHdIn K c T = true
  nt : K.lookup T = none
theorem defInC_mk {K : PySem.W.Frag} {x : Str} {st : Stmt} {f c T : Addr} {oc kV doc pm ct : Value} {od an : Option Addr} {osl : Array (Option Value)} (a : PySem.W.nsIn K mainGlobals x = some (some (.ref f)))
    (l : K.lookup f = some ⟨oc, od, .func (PySem.W.fnOf x x (defArgs st) (defBody st) (defScope st) .none kV doc pm an (.ref c) ct), osl⟩) (hc : PySem.W.codeIn K (.ref c) x = true) (k : PySem.W.keepIn K (.ref f) = true)
    (hd : PySem.W.codeHdIn K c T = true) (nt : K.lookup T = none) : ∃ f fd c, DefInC K x st f fd c T :=
  ⟨f, _, c, ⟨oc, od, kV, doc, pm, an, ct, osl, rfl, l, hc⟩, k, a, hd, nt⟩
/-- what is known of NoBound's class object -/
structure ErrIn (K : PySem.W.Frag) (C : Addr) : Prop where
  ns : PySem.W.nsIn K mainGlobals "NoBound" = some (some (.ref C))
  own : PySem.W.excIn K C [.type "ValueError", .type "Exception", .type "BaseException", .type "object"] "ValueError.__new__" = true
  kp : PySem.W.keepIn K (.ref C) = true
  base : PySem.W.subIn K (.ref C) (.type "BaseException") = some true
  ty : PySem.W.typeIn K (.ref C) = some (.type "type")
  cls : PySem.W.isClsIn K C = true
  self : PySem.W.subIn K (.ref C) (.ref C) = some true
theorem ErrIn.met {K : PySem.W.Frag} {C : Addr} (E : ErrIn K C) : PySem.W.exmOne K (.ref C) (.ref C) = some true := by
  have a : (PySem.W.subIn K (.ref C) (.type "BaseException") == some true) = true := by rw [E.base] <;> rfl
  have b : ((PySem.W.clsIn K C).isSome && PySem.W.typeIn K (.ref C) == some (.type "type")) = true := by
    have b1 : (PySem.W.clsIn K C).isSome = true := E.cls
    rw [b1, E.ty] <;> rfl
  exact (if_pos a).trans ((if_pos b).trans E.self)
theorem errIn_mk {K : PySem.W.Frag} {C : Addr} (ns : PySem.W.nsIn K mainGlobals "NoBound" = some (some (.ref C))) (own : PySem.W.excIn K C [.type "ValueError", .type "Exception", .type "BaseException", .type "object"] "ValueError.__new__" = true)
    (kp : PySem.W.keepIn K (.ref C) = true) (base : PySem.W.subIn K (.ref C) (.type "BaseException") = some true) (ty : PySem.W.typeIn K (.ref C) = some (.type "type")) (cls : PySem.W.isClsIn K C = true) (self : PySem.W.subIn K (.ref C) (.ref C) = some true) : ∃ C, ErrIn K C :=
  ⟨C, ns, own, kp, base, ty, cls, self⟩
theorem strIn_mk {K : PySem.W.Frag} {t : Tok} (a : PySem.W.nsIn K mainGlobals "ALPHABET" = some (some (.str "abcdefg" t))) : ∃ t, PySem.W.nsIn K mainGlobals "ALPHABET" = some (some (.str "abcdefg" t)) := ⟨t, a⟩
theorem intIn_mk {K : PySem.W.Frag} {t : Tok} (a : PySem.W.nsIn K mainGlobals "MOST_LETTERS" = some (some (.int 7 t))) : ∃ t, PySem.W.nsIn K mainGlobals "MOST_LETTERS" = some (some (.int 7 t)) := ⟨t, a⟩
/-- the built-in names that the text leaves alone -/
structure FreeIn (K : PySem.W.Frag) : Prop where
  all : PySem.W.nsIn K mainGlobals "all" = some none
  sorted : PySem.W.nsIn K mainGlobals "sorted" = some none
  isinstance : PySem.W.nsIn K mainGlobals "isinstance" = some none
  int : PySem.W.nsIn K mainGlobals "int" = some none
  bool : PySem.W.nsIn K mainGlobals "bool" = some none
  tuple : PySem.W.nsIn K mainGlobals "tuple" = some none
  len : PySem.W.nsIn K mainGlobals "len" = some none
  str : PySem.W.nsIn K mainGlobals "str" = some none
  range : PySem.W.nsIn K mainGlobals "range" = some none
  enumerate : PySem.W.nsIn K mainGlobals "enumerate" = some none
  min : PySem.W.nsIn K mainGlobals "min" = some none
  max : PySem.W.nsIn K mainGlobals "max" = some none
  list : PySem.W.nsIn K mainGlobals "list" = some none
  dict : PySem.W.nsIn K mainGlobals "dict" = some none
structure FreeMg (mg : Str → Option Value) : Prop where
  all : mg "all" = none
  sorted : mg "sorted" = none
  isinstance : mg "isinstance" = none
  int : mg "int" = none
  bool : mg "bool" = none
  tuple : mg "tuple" = none
  len : mg "len" = none
  str : mg "str" = none
  range : mg "range" = none
  enumerate : mg "enumerate" = none
  min : mg "min" = none
  max : mg "max" = none
  list : mg "list" = none
  dict : mg "dict" = none
theorem FreeIn.mg {K : PySem.W.Frag} {h : Heap} {mg : Str → Option Value} (F : FreeIn K) (X : K.In h) (G : h.Ns mainGlobals mg) : FreeMg mg :=
  ⟨PySem.W.mg_none_of X G F.all, PySem.W.mg_none_of X G F.sorted, PySem.W.mg_none_of X G F.isinstance, PySem.W.mg_none_of X G F.int, PySem.W.mg_none_of X G F.bool, PySem.W.mg_none_of X G F.tuple, PySem.W.mg_none_of X G F.len, PySem.W.mg_none_of X G F.str, PySem.W.mg_none_of X G F.range, PySem.W.mg_none_of X G F.enumerate, PySem.W.mg_none_of X G F.min, PySem.W.mg_none_of X G F.max, PySem.W.mg_none_of X G F.list, PySem.W.mg_none_of X G F.dict⟩
/-- all that the law's proof asks of the top -/
structure Tops (K : PySem.W.Frag) (T : Addr) : Prop where
  lo : ∃ f fd, DefIn K "least_order" sLo f fd
  whole : ∃ f fd, DefIn K "whole" sWhole f fd
  within : ∃ f fd, DefIn K "within" sWithin f fd
  tupleOf : ∃ f fd, DefIn K "tuple_of" sTupleOf f fd
  isSet : ∃ f fd, DefIn K "is_set" sIsSet f fd
  friends : ∃ f fd, DefIn K "friends_of_all" sFriends f fd
  isKind : ∃ f fd, DefIn K "is_kind" sIsKind f fd
  needKind : ∃ f fd, DefIn K "need_kind" sNeedKind f fd
  needKinds : ∃ f fd, DefIn K "need_kinds" sNeedKinds f fd
  needCo : ∃ f fd, DefIn K "need_company" sNeedCo f fd
  joined : ∃ f fd, DefIn K "joined" sJoined f fd
  commonOf : ∃ f fd, DefIn K "common_of" sCommonOf f fd
  boundOf : ∃ f fd, DefIn K "bound_of" sBoundOf f fd
  commonAll : ∃ f fd, DefIn K "common_of_all" sCommonAll f fd
  greatest : ∃ f fd, DefIn K "greatest_meet" sGreatest f fd
  taken : ∃ f fd, DefIn K "_law_taken" sTaken f fd
  pairs : ∃ f fd, DefIn K "_law_pairs" sPairs f fd
  company : ∃ f fd, DefIn K "_law_company" sCompany f fd
  firsts : ∃ f fd, DefIn K "_law_firsts" sFirsts f fd
  friend : ∃ f fd, DefIn K "_law_friend" sFriend f fd
  kind : ∃ f fd, DefIn K "_law_kind" sKind f fd
  word : ∃ f fd, DefIn K "_law_word" sWord f fd
  drawnKind : ∃ f fd, DefIn K "_law_drawn_kind" sDrawnKind f fd
  drawnKinds : ∃ f fd, DefIn K "_law_drawn_kinds" sDrawnKinds f fd
  wholeK : ∃ f fd, DefIn K "_law_whole" sWholeK f fd
  begins : ∃ f fd, DefIn K "_law_begins" sBegins f fd
  commonL : ∃ f fd, DefIn K "_law_common" sCommonL f fd
  al1 : ∃ f fd, DefIn K "_law_alike" sAlike f fd
  boundAll : ∃ f fd, DefIn K "bound_of_all" sBoundAll f fd
  together : ∃ f fd c, DefInC K "together" sTogether f fd c T
  law : ∃ f fd, DefIn K "law" sLaw f fd
  alpha : ∃ t, PySem.W.nsIn K mainGlobals "ALPHABET" = some (some (.str "abcdefg" t))
  most : ∃ t, PySem.W.nsIn K mainGlobals "MOST_LETTERS" = some (some (.int 7 t))
  err : ∃ C, ErrIn K C
  free : FreeIn K
section
variable {P : Program} {w : World} {K : PySem.W.Frag} {mg : Str → Option Value} {base : Heap}
theorem DefIn.cal {x : Str} {st : Stmt} {f : Addr} {fd : FuncData} {h : Heap} {k : Nat} {ps : List Str} {sp : Sp} (D : DefIn K x st f fd) (X : K.In h) (G : h.Ns mainGlobals mg) (ok : FnOk P w K mg base CX0 k f fd ps sp)
    (hb : ∀ (kV doc pm : Value) (an : Option Addr) (cdv ct : Value) (us : List Value), us.length = ps.length → bindArgs (PySem.W.fnOf x x (defArgs st) (defBody st) (defScope st) .none kV doc pm an cdv ct) ⟨us, []⟩ = pure (ps.zip us)) : Cal P w K mg base k x ps sp :=
  ⟨f, fd, ok, PySem.W.mg_of X G D.ns, D.fn.kp, D.fn.binds hb⟩
theorem FunC.binds {x qual : Str} {st : Stmt} {f c : Addr} {fd : FuncData} {ps : List Str} (F : FunC K x qual st f fd c)
    (hb : ∀ (kV doc pm : Value) (an : Option Addr) (ct : Value) (us : List Value), us.length = ps.length → bindArgs (PySem.W.fnOf x qual (defArgs st) (defBody st) (defScope st) .none kV doc pm an (.ref c) ct) ⟨us, []⟩ = pure (ps.zip us)) : Binds K fd ps [] := by
  obtain ⟨oc, od, kV, doc, pm, an, ct, osl, rfl, lk, hcd⟩ := F.ex
  exact .all (hb kV doc pm an ct)
theorem txt_of {h : Heap} {T ft c : Addr} {fdt : FuncData} (D : Tops K T) (X : K.In h) (G : h.Ns mainGlobals mg) (DT : DefInC K "together" sTogether ft fdt c T) (TB : LamX.TabB base mg c T) : ∃ C, Txt P w K mg base T C := by
  have z := D.free.mg X G
  obtain ⟨ta, hta⟩ := D.alpha
  obtain ⟨tm, htm⟩ := D.most
  have mZ := PySem.W.mg_of X G hta
  have mM := PySem.W.mg_of X G htm
  obtain ⟨C, E⟩ := D.err
  obtain ⟨f_lo, fd_lo, d_lo⟩ := D.lo
  have c_lo : Cal P w K mg base 1 "least_order" ["told", "order"] spLo := d_lo.cal X G (ok_lo d_lo.fn z.sorted z.all) (fun _ _ _ _ _ _ us hl => match us, hl with | [_, _], _ => rfl)
  obtain ⟨f_whole, fd_whole, d_whole⟩ := D.whole
  have c_whole : Cal P w K mg base 1 "whole" ["value"] spWhole := d_whole.cal X G (ok_whole d_whole.fn z.isinstance z.int z.bool) (fun _ _ _ _ _ _ us hl => match us, hl with | [_], _ => rfl)
  obtain ⟨f_within, fd_within, d_within⟩ := D.within
  have c_within : Cal P w K mg base 2 "within" ["value", "low", "high"] spWithin := d_within.cal X G (ok_within d_within.fn c_whole) (fun _ _ _ _ _ _ us hl => match us, hl with | [_, _, _], _ => rfl)
  obtain ⟨f_tupleOf, fd_tupleOf, d_tupleOf⟩ := D.tupleOf
  have c_tupleOf : Cal P w K mg base 1 "tuple_of" ["value", "low", "high"] spTupleOf := d_tupleOf.cal X G (ok_tupleOf d_tupleOf.fn z.isinstance z.tuple z.len) (fun _ _ _ _ _ _ us hl => match us, hl with | [_, _, _], _ => rfl)
  obtain ⟨f_isSet, fd_isSet, d_isSet⟩ := D.isSet
  have c_isSet : Cal P w K mg base 1 "is_set" ["company", "value"] spIsSet := d_isSet.cal X G (ok_isSet d_isSet.fn z.isinstance z.str z.len z.all z.range mZ) (fun _ _ _ _ _ _ us hl => match us, hl with | [_, _], _ => rfl)
  obtain ⟨f_friends, fd_friends, d_friends⟩ := D.friends
  have c_friends : Cal P w K mg base 1 "friends_of_all" ["company"] spFriends := d_friends.cal X G (ok_friends d_friends.fn mZ) (fun _ _ _ _ _ _ us hl => match us, hl with | [_], _ => rfl)
  obtain ⟨f_isKind, fd_isKind, d_isKind⟩ := D.isKind
  have c_isKind : Cal P w K mg base 2 "is_kind" ["company", "value"] spIsKind := d_isKind.cal X G (ok_isKind d_isKind.fn z.isinstance z.str z.len z.sorted c_isSet c_friends c_lo) (fun _ _ _ _ _ _ us hl => match us, hl with | [_, _], _ => rfl)
  obtain ⟨f_needKind, fd_needKind, d_needKind⟩ := D.needKind
  have c_needKind : Cal P w K mg base 3 "need_kind" ["company", "kind"] spNeedKind := d_needKind.cal X G (ok_needKind d_needKind.fn c_isKind) (fun _ _ _ _ _ _ us hl => match us, hl with | [_, _], _ => rfl)
  obtain ⟨f_needKinds, fd_needKinds, d_needKinds⟩ := D.needKinds
  have c_needKinds : Cal P w K mg base 3 "need_kinds" ["company", "kinds"] spNeedKinds := d_needKinds.cal X G (ok_needKinds d_needKinds.fn z.enumerate c_tupleOf c_isKind) (fun _ _ _ _ _ _ us hl => match us, hl with | [_, _], _ => rfl)
  obtain ⟨f_needCo, fd_needCo, d_needCo⟩ := D.needCo
  have c_needCo : Cal P w K mg base 3 "need_company" ["company"] spNeedCo := d_needCo.cal X G (ok_needCo d_needCo.fn z.enumerate z.all mM c_tupleOf c_within) (fun _ _ _ _ _ _ us hl => match us, hl with | [_], _ => rfl)
  obtain ⟨f_joined, fd_joined, d_joined⟩ := D.joined
  have c_joined : Cal P w K mg base 2 "joined" ["told", "one", "other"] spJoined := d_joined.cal X G (ok_joined d_joined.fn c_lo) (fun _ _ _ _ _ _ us hl => match us, hl with | [_, _, _], _ => rfl)
  obtain ⟨f_commonOf, fd_commonOf, d_commonOf⟩ := D.commonOf
  have c_commonOf : Cal P w K mg base 2 "common_of" ["told", "one", "other"] spCommonOf := d_commonOf.cal X G (ok_commonOf d_commonOf.fn z.sorted z.all c_lo) (fun _ _ _ _ _ _ us hl => match us, hl with | [_, _, _], _ => rfl)
  obtain ⟨f_boundOf, fd_boundOf, d_boundOf⟩ := D.boundOf
  have c_boundOf : Cal P w K mg base 3 "bound_of" ["told", "one", "other"] spBoundOf := d_boundOf.cal X G (ok_boundOf d_boundOf.fn c_joined) (fun _ _ _ _ _ _ us hl => match us, hl with | [_, _, _], _ => rfl)
  obtain ⟨f_commonAll, fd_commonAll, d_commonAll⟩ := D.commonAll
  have c_commonAll : Cal P w K mg base 4 "common_of_all" ["company", "kinds"] spCommonAll := d_commonAll.cal X G (ok_commonAll d_commonAll.fn c_needCo c_needKinds c_friends c_commonOf) (fun _ _ _ _ _ _ us hl => match us, hl with | [_, _], _ => rfl)
  obtain ⟨f_greatest, fd_greatest, d_greatest⟩ := D.greatest
  have c_greatest : Cal P w K mg base 4 "greatest_meet" ["company", "one", "kinds"] spGreatest := d_greatest.cal X G (ok_greatest d_greatest.fn z.enumerate z.min z.len c_needCo c_needKind c_needKinds c_friends c_commonOf) (fun _ _ _ _ _ _ us hl => match us, hl with | [_, _, _], _ => rfl)
  obtain ⟨f_taken, fd_taken, d_taken⟩ := D.taken
  have c_taken : Cal P w K mg base 1 "_law_taken" ["_law_row", "_law_many"] (spTaken K) := d_taken.cal X G (ok_taken d_taken.fn z.int z.len) (fun _ _ _ _ _ _ us hl => match us, hl with | [_, _], _ => rfl)
  obtain ⟨f_pairs, fd_pairs, d_pairs⟩ := D.pairs
  have c_pairs : Cal P w K mg base 1 "_law_pairs" ["_law_many"] spPairs := d_pairs.cal X G (ok_pairs d_pairs.fn z.range) (fun _ _ _ _ _ _ us hl => match us, hl with | [_], _ => rfl)
  obtain ⟨f_company, fd_company, d_company⟩ := D.company
  have c_company : Cal P w K mg base 2 "_law_company" ["_law_row", "_law_most"] (spCompany K) := d_company.cal X G (ok_company d_company.fn z.tuple c_taken c_pairs) (fun _ _ _ _ _ _ us hl => match us, hl with | [_, _], _ => rfl)
  obtain ⟨f_firsts, fd_firsts, d_firsts⟩ := D.firsts
  have c_firsts : Cal P w K mg base 1 "_law_firsts" ["_law_word_here"] spFirsts := d_firsts.cal X G (ok_firsts d_firsts.fn z.range z.len) (fun _ _ _ _ _ _ us hl => match us, hl with | [_], _ => rfl)
  obtain ⟨f_friend, fd_friend, d_friend⟩ := D.friend
  have c_friend : Cal P w K mg base 1 "_law_friend" ["_law_company_here", "_law_one", "_law_other"] spFriend := d_friend.cal X G (ok_friend d_friend.fn z.min z.max) (fun _ _ _ _ _ _ us hl => match us, hl with | [_, _, _], _ => rfl)
  obtain ⟨f_kind, fd_kind, d_kind⟩ := D.kind
  have c_kind : Cal P w K mg base 2 "_law_kind" ["_law_company_here", "_law_word_here"] spKind := d_kind.cal X G (ok_kind d_kind.fn z.range z.len z.min c_firsts c_friend) (fun _ _ _ _ _ _ us hl => match us, hl with | [_, _], _ => rfl)
  obtain ⟨f_word, fd_word, d_word⟩ := D.word
  have c_word : Cal P w K mg base 2 "_law_word" ["_law_row", "_law_company_here", "_law_most"] (spWord K) := d_word.cal X G (ok_word d_word.fn z.range c_taken) (fun _ _ _ _ _ _ us hl => match us, hl with | [_, _, _], _ => rfl)
  obtain ⟨f_drawnKind, fd_drawnKind, d_drawnKind⟩ := D.drawnKind
  have c_drawnKind : Cal P w K mg base 3 "_law_drawn_kind" ["_law_row", "_law_company_here"] (spDrawnKind K) := d_drawnKind.cal X G (ok_drawnKind d_drawnKind.fn z.int c_taken c_word c_kind) (fun _ _ _ _ _ _ us hl => match us, hl with | [_, _], _ => rfl)
  obtain ⟨f_drawnKinds, fd_drawnKinds, d_drawnKinds⟩ := D.drawnKinds
  have c_drawnKinds : Cal P w K mg base 4 "_law_drawn_kinds" ["_law_row", "_law_company_here", "_law_most"] (spDrawnKinds K) := d_drawnKinds.cal X G (ok_drawnKinds d_drawnKinds.fn z.tuple z.range c_taken c_drawnKind) (fun _ _ _ _ _ _ us hl => match us, hl with | [_, _, _], _ => rfl)
  obtain ⟨f_wholeK, fd_wholeK, d_wholeK⟩ := D.wholeK
  have c_wholeK : Cal P w K mg base 3 "_law_whole" ["_law_row", "_law_company_here"] (spDrawnKind K) := d_wholeK.cal X G (ok_wholeK d_wholeK.fn z.list z.range z.len c_taken c_kind) (fun _ _ _ _ _ _ us hl => match us, hl with | [_, _], _ => rfl)
  obtain ⟨f_begins, fd_begins, d_begins⟩ := D.begins
  have c_begins : Cal P w K mg base 3 "_law_begins" ["_law_company_here", "_law_one", "_law_other"] spBegins := d_begins.cal X G (ok_begins d_begins.fn c_kind) (fun _ _ _ _ _ _ us hl => match us, hl with | [_, _, _], _ => rfl)
  obtain ⟨f_commonL, fd_commonL, d_commonL⟩ := D.commonL
  have c_commonL : Cal P w K mg base 4 "_law_common" ["_law_company_here", "_law_one", "_law_other"] spCommonL := d_commonL.cal X G (ok_commonL d_commonL.fn c_kind c_begins) (fun _ _ _ _ _ _ us hl => match us, hl with | [_, _, _], _ => rfl)
  obtain ⟨f_al1, fd_al1, d_al1⟩ := D.al1
  have c_al1 : Cal P w K mg base 1 "_law_alike" ["_law_found", "_law_due"] spAl1 := d_al1.cal X G (ok_alike1 d_al1.fn z.isinstance z.tuple z.list z.str z.int z.bool) (fun _ _ _ _ _ _ us hl => match us, hl with | [_, _], _ => rfl)
  have o1 : FnOk P w K mg base CX0 1 f_al1 fd_al1 ["_law_found", "_law_due"] spAl1 := ok_alike1 d_al1.fn z.isinstance z.tuple z.list z.str z.int z.bool
  have o2 : FnOk P w K mg base CX0 2 f_al1 fd_al1 ["_law_found", "_law_due"] spAl2 := ok_alike2 d_al1.fn z.isinstance z.tuple z.list z.range z.len c_al1
  have c_al2 : Cal P w K mg base 2 "_law_alike" ["_law_found", "_law_due"] spAl2 := d_al1.cal X G o2 (fun _ _ _ _ _ _ us hl => match us, hl with | [_, _], _ => rfl)
  have c_alB : Cal P w K mg base 2 "_law_alike" ["_law_found", "_law_due"] (fun vs H Q E => spAl1 vs H Q E ∨ spAl2 vs H Q E) := d_al1.cal X G (FnOk.or (show FnOk P w K mg base CX0 2 f_al1 fd_al1 ["_law_found", "_law_due"] spAl1 from o1.mono (by decide)) o2) (fun _ _ _ _ _ _ us hl => match us, hl with | [_, _], _ => rfl)
  obtain ⟨f_b, fd_b, d_b⟩ := D.boundAll
  have oB := ok_boundAll (P := P) (w := w) (mg := mg) (base := base) d_b.fn E.own ⟨_, _, PySem.F.excBase_ValueError⟩ (PySem.W.mg_of X G E.ns) E.kp E.base E.ty c_needCo c_needKinds c_friends c_boundOf
  have oT : FnOk P w K mg base CX0 4 ft fdt ["company", "kinds"] (spTogether T) := ok_together DT.fn TB z.sorted z.len z.list c_needCo c_needKinds c_friends c_commonOf
  have c_tog : Cal P w K mg base 4 "together" ["company", "kinds"] (spTogether T) := ⟨ft, fdt, oT, PySem.W.mg_of X G DT.ns, DT.kp, DT.fn.binds (fun _ _ _ _ _ us hl => match us, hl with | [_, _], _ => rfl)⟩
  have bB : Binds K fd_b ["company", "kinds"] [] := d_b.fn.binds (fun _ _ _ _ _ _ us hl => match us, hl with | [_, _], _ => rfl)
  exact ⟨C, ⟨c_company, c_drawnKinds, c_taken, c_wholeK, c_drawnKind, c_kind, c_commonL, c_al1, c_al2, c_alB, c_commonAll, c_tog, c_greatest, ⟨f_b, fd_b, oB, PySem.W.mg_of X G d_b.ns, d_b.fn.kp, bB⟩,
    PySem.W.mg_of X G E.ns, E.met, z.tuple, z.range, z.len, z.dict, z.list, z.sorted, z.max⟩⟩
end
/-- the law over the top's facts -/
theorem lawAt {l : PySem.W.OpenLaw} {w : World} {K : PySem.W.Frag} {mg : Str → Option Value} {fa T : Addr} {h : Heap} {n : Nat} (X : K.In h) (G : h.Ns mainGlobals mg) (hfa : mg "law" = some (.ref fa)) (hT : h.get? T = some { cls := .none, data := .fields #[] }) (D : Tops K T) :
    LamX.LawAtS l w K CX0 5 n "_law_script" mg fa h := by
  obtain ⟨ft, fdt, c, DT⟩ := D.together
  obtain ⟨f, fd, DL⟩ := D.law
  have e := hfa.symm.trans (PySem.W.mg_of X G DL.ns)
  cases e
  have bnd : ∀ (s : Shared) (u : Value), BindsTo s fd ⟨[u], []⟩ [("_law_script", u)] := by
    obtain ⟨oc, od, kV, doc, pm, an, cdv, ct, osl, rfl, lk, hcd⟩ := DL.fn.ex
    exact fun s u => .of_eq rfl
  have one : ∀ {q : Addr × Addr → Prop}, q (c, T) → ∀ p ∈ [(c, T)], q p := fun hq p hp => by
    rw [List.mem_singleton.mp hp]
    exact hq
  refine ⟨fd, [(c, T)], spLaw T K, one hT, one DT.nt, one (PySem.W.codeHd_of_K X DT.hd), bnd, fun H a ns _ _ hH hS => ?_, fun base Xb Gb TB => ?_⟩
  · refine ⟨a, ns, rfl, hS, fun p hp => ?_, fun _ => rfl⟩
    rw [List.mem_singleton.mp hp]
    exact LamX.TabS.nil (hH (c, T) (List.mem_singleton.mpr rfl))
  · obtain ⟨C, XT⟩ := txt_of (P := l.prog) (w := w) D X G DT (TB (c, T) (List.mem_singleton.mpr rfl))
    exact ok_law DL.fn XT
theorem walk_end {l : PySem.W.OpenLaw} {n : Nat} {q : Program} {loose : List Str} {XP : (Str → Option Value) → Heap → Prop} {YP : World → Heap → Prop} {d : DefRec} {K : Params → PySem.W.Frag} {T : Addr} (hn : l.most = some n) (hn2 : n ≤ sizeLine) (hdf : d.params.defaults = []) (hnm : d.name = "law")
    (hY : ∀ (w : World) (h : Heap), YP w h → (K w.params).In h ∧ h.get? T = some { cls := .none, data := .fields #[] }) (D : ∀ w : World, Tops (K w.params) T) :
    PySem.W.WalkO q loose XP YP l.row.toRowW d [] (fun f vs => PySem.call f vs) :=
  LamX.walk_ofTs (CX := fun _ => CX0) (k := 5) (x := "_law_script") hn hn2 hdf ⟨rfl, by decide, by decide⟩ (fun w h Y => (hY w h Y).1)
    (fun w mg fa h Y X G hm => lawAt X G (by rw [← hnm]; exact hm) (hY w h Y).2 (D w)) fun _ _ _ _ _ z => z
end Ow

end OwEnd
open PySem PySem.W PyProof.Rows
set_option maxRecDepth 100000 in
set_option maxHeartbeats 0 in
theorem PySem.Challenge.cw_oncewords_k12_whole_lots_of_kinds_holds : PySem.Challenge.rw_oncewords_k12_whole_lots_of_kinds.Holds := by
  w_on; o_law; k_head; (case hw => w_witness2)
  k_fill
  refine Ow.walk_end (l := PySem.Challenge.rw_oncewords_k12_whole_lots_of_kinds) rfl (by decide) rfl rfl (fun w h Y => ⟨PySem.W.km_in_of Y, PySem.W.km_tabs_of Y _ (List.Mem.head _)⟩) ?D
  case D =>
    intro w
    refine' ⟨?lo, ?whole, ?within, ?tupleOf, ?isSet, ?friends, ?isKind, ?needKind, ?needKinds, ?needCo, ?joined, ?commonOf, ?boundOf, ?commonAll, ?greatest, ?taken, ?pairs, ?company, ?firsts, ?friend, ?kind, ?word, ?drawnKind, ?drawnKinds, ?wholeK, ?begins, ?commonL, ?al1, ?boundAll, ?together, ?law, ?alpha, ?most, ?err, ?free⟩
    (case lo => refine' Ow.defIn_mk ?a ?l ?c ?k; (case a => k_is); (case l => k_is); (case c => k_is); (case k => k_is))
    (case whole => refine' Ow.defIn_mk ?a ?l ?c ?k; (case a => k_is); (case l => k_is); (case c => k_is); (case k => k_is))
    (case within => refine' Ow.defIn_mk ?a ?l ?c ?k; (case a => k_is); (case l => k_is); (case c => k_is); (case k => k_is))
    (case tupleOf => refine' Ow.defIn_mk ?a ?l ?c ?k; (case a => k_is); (case l => k_is); (case c => k_is); (case k => k_is))
    (case isSet => refine' Ow.defIn_mk ?a ?l ?c ?k; (case a => k_is); (case l => k_is); (case c => k_is); (case k => k_is))
    (case friends => refine' Ow.defIn_mk ?a ?l ?c ?k; (case a => k_is); (case l => k_is); (case c => k_is); (case k => k_is))
    (case isKind => refine' Ow.defIn_mk ?a ?l ?c ?k; (case a => k_is); (case l => k_is); (case c => k_is); (case k => k_is))
    (case needKind => refine' Ow.defIn_mk ?a ?l ?c ?k; (case a => k_is); (case l => k_is); (case c => k_is); (case k => k_is))
    (case needKinds => refine' Ow.defIn_mk ?a ?l ?c ?k; (case a => k_is); (case l => k_is); (case c => k_is); (case k => k_is))
    (case needCo => refine' Ow.defIn_mk ?a ?l ?c ?k; (case a => k_is); (case l => k_is); (case c => k_is); (case k => k_is))
    (case joined => refine' Ow.defIn_mk ?a ?l ?c ?k; (case a => k_is); (case l => k_is); (case c => k_is); (case k => k_is))
    (case commonOf => refine' Ow.defIn_mk ?a ?l ?c ?k; (case a => k_is); (case l => k_is); (case c => k_is); (case k => k_is))
    (case boundOf => refine' Ow.defIn_mk ?a ?l ?c ?k; (case a => k_is); (case l => k_is); (case c => k_is); (case k => k_is))
    (case commonAll => refine' Ow.defIn_mk ?a ?l ?c ?k; (case a => k_is); (case l => k_is); (case c => k_is); (case k => k_is))
    (case greatest => refine' Ow.defIn_mk ?a ?l ?c ?k; (case a => k_is); (case l => k_is); (case c => k_is); (case k => k_is))
    (case taken => refine' Ow.defIn_mk ?a ?l ?c ?k; (case a => k_is); (case l => k_is); (case c => k_is); (case k => k_is))
    (case pairs => refine' Ow.defIn_mk ?a ?l ?c ?k; (case a => k_is); (case l => k_is); (case c => k_is); (case k => k_is))
    (case company => refine' Ow.defIn_mk ?a ?l ?c ?k; (case a => k_is); (case l => k_is); (case c => k_is); (case k => k_is))
    (case firsts => refine' Ow.defIn_mk ?a ?l ?c ?k; (case a => k_is); (case l => k_is); (case c => k_is); (case k => k_is))
    (case friend => refine' Ow.defIn_mk ?a ?l ?c ?k; (case a => k_is); (case l => k_is); (case c => k_is); (case k => k_is))
    (case kind => refine' Ow.defIn_mk ?a ?l ?c ?k; (case a => k_is); (case l => k_is); (case c => k_is); (case k => k_is))
    (case word => refine' Ow.defIn_mk ?a ?l ?c ?k; (case a => k_is); (case l => k_is); (case c => k_is); (case k => k_is))
    (case drawnKind => refine' Ow.defIn_mk ?a ?l ?c ?k; (case a => k_is); (case l => k_is); (case c => k_is); (case k => k_is))
    (case drawnKinds => refine' Ow.defIn_mk ?a ?l ?c ?k; (case a => k_is); (case l => k_is); (case c => k_is); (case k => k_is))
    (case wholeK => refine' Ow.defIn_mk ?a ?l ?c ?k; (case a => k_is); (case l => k_is); (case c => k_is); (case k => k_is))
    (case begins => refine' Ow.defIn_mk ?a ?l ?c ?k; (case a => k_is); (case l => k_is); (case c => k_is); (case k => k_is))
    (case commonL => refine' Ow.defIn_mk ?a ?l ?c ?k; (case a => k_is); (case l => k_is); (case c => k_is); (case k => k_is))
    (case al1 => refine' Ow.defIn_mk ?a ?l ?c ?k; (case a => k_is); (case l => k_is); (case c => k_is); (case k => k_is))
    (case boundAll => refine' Ow.defIn_mk ?a ?l ?c ?k; (case a => k_is); (case l => k_is); (case c => k_is); (case k => k_is))
    (case together => refine' Ow.defInC_mk ?a ?l ?c ?k ?h ?n; (case a => k_is); (case l => k_is); (case c => k_is); (case k => k_is); (case h => kernel_rfl); (case n => kernel_rfl))
    (case law => refine' Ow.defIn_mk ?a ?l ?c ?k; (case a => k_is); (case l => k_is); (case c => k_is); (case k => k_is))
    (case alpha => refine' Ow.strIn_mk ?a; (case a => k_is))
    (case most => refine' Ow.intIn_mk ?a; (case a => k_is))
    (case err => refine' Ow.errIn_mk ?a ?x ?k ?b ?t ?i ?s; (case a => k_is); (case x => k_exc); (case k => k_is); (case b => k_is); (case t => k_is); (case i => k_is); (case s => first | rfl | k_is))
    (case free => refine' ⟨?z0, ?z1, ?z2, ?z3, ?z4, ?z5, ?z6, ?z7, ?z8, ?z9, ?z10, ?z11, ?z12, ?z13⟩; (case z0 => k_is); (case z1 => k_is); (case z2 => k_is); (case z3 => k_is); (case z4 => k_is); (case z5 => k_is); (case z6 => k_is); (case z7 => k_is); (case z8 => k_is); (case z9 => k_is); (case z10 => k_is); (case z11 => k_is); (case z12 => k_is); (case z13 => k_is))
