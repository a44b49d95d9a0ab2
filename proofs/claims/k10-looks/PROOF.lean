import PyProof.Rows.All
import Wide.All
import OpenK.AllK
import Wide.FinOn
import HandS.ForMost
import HandS.Zip
import HandS.Deep
import HandS.TupSets
import HandS.TupAny
import HandS.IsInst
import HandS.Strs
import HandS.SetFor
import HandS.NoneIn
import HandS.Conv
import PySem.Challenge.RW_thirtycubes_k10_whole_looks_and_leaving
set_option Elab.async false
set_option linter.all false
set_option maxRecDepth 100000
set_option maxHeartbeats 8000000
/-! The plain law: turns, paints, looks, over lists. -/
namespace Cub
def TURNS : List (List Int) := [
  [0, 1, 2, 3, 4, 5], [0, 1, 3, 2, 5, 4], [0, 1, 4, 5, 3, 2], [0, 1, 5, 4, 2, 3], [1, 0, 2, 3, 5, 4], [1, 0, 3, 2, 4, 5], [1, 0, 4, 5, 2, 3], [1, 0, 5, 4, 3, 2],
  [2, 3, 0, 1, 5, 4], [2, 3, 1, 0, 4, 5], [2, 3, 4, 5, 0, 1], [2, 3, 5, 4, 1, 0], [3, 2, 0, 1, 4, 5], [3, 2, 1, 0, 5, 4], [3, 2, 4, 5, 1, 0], [3, 2, 5, 4, 0, 1],
  [4, 5, 0, 1, 2, 3], [4, 5, 1, 0, 3, 2], [4, 5, 2, 3, 1, 0], [4, 5, 3, 2, 0, 1], [5, 4, 0, 1, 3, 2], [5, 4, 1, 0, 2, 3], [5, 4, 2, 3, 0, 1], [5, 4, 3, 2, 1, 0]]
/-- found[side] = paint, one pair after the other -/
def put {α : Type} : List α → List α → List Int → List α
  | found, x :: xs, k :: ks => put (found.set k.toNat x) xs ks
  | found, _, _ => found
def tb {α : Type} (p : List α) (t : List Int) : List α := put p p t
def after (s t : List Int) : List Int := s.map fun k => t.getD k.toNat 0
def idxI (t : List Int) (k : Int) : Int := (t.findIdx (· == k) : Nat)
def back (t : List Int) : List Int := [0, 1, 2, 3, 4, 5].map fun k => idxI t k
def ID : List Nat := [0, 1, 2, 3, 4, 5]
def mir {α : Type} : List α → List α
  | [a, b, c, d, e, f] => [a, b, c, d, f, e]
  | l => l

theorem put_map {α β : Type} (f : α → β) : ∀ (xs found : List α) (ks : List Int), put (found.map f) (xs.map f) ks = (put found xs ks).map f
  | [], found, ks => by cases ks <;> rfl
  | x :: xs, found, [] => rfl
  | x :: xs, found, k :: ks => by
    show put ((found.map f).set k.toNat (f x)) (xs.map f) ks = (put (found.set k.toNat x) xs ks).map f
    rw [← List.map_set]
    exact put_map f xs _ ks
theorem tb_map {α β : Type} (f : α → β) (p : List α) (t : List Int) : tb (p.map f) t = (tb p t).map f := put_map f p p t
theorem mir_map {α β : Type} (f : α → β) (p : List α) : mir (p.map f) = (mir p).map f := by
  match p with
  | [] => rfl
  | [_] => rfl
  | [_, _] => rfl
  | [_, _, _] => rfl
  | [_, _, _, _] => rfl
  | [_, _, _, _, _] => rfl
  | [_, _, _, _, _, _] => rfl
  | _ :: _ :: _ :: _ :: _ :: _ :: _ :: _ => rfl
theorem six {α : Type} {p : List α} (h : p.length = 6) : ∃ f : Nat → α, p = ID.map f := by
  match p, h with
  | [a, b, c, d, e, g], _ => exact ⟨fun i => match i with | 0 => a | 1 => b | 2 => c | 3 => d | 4 => e | _ => g, rfl⟩

theorem after_mem : ∀ s ∈ TURNS, ∀ t ∈ TURNS, after s t ∈ TURNS := by decide +kernel
theorem back_mem : ∀ t ∈ TURNS, back t ∈ TURNS := by decide +kernel
def conj (t : List Int) : List Int := after [0, 1, 2, 3, 5, 4] (after t [0, 1, 2, 3, 5, 4])
theorem conj_mem : ∀ t ∈ TURNS, conj t ∈ TURNS := by decide +kernel
theorem conj_conj : ∀ t ∈ TURNS, conj (conj t) = t := by decide +kernel
theorem tb_tb0 : ∀ s ∈ TURNS, ∀ t ∈ TURNS, tb (tb ID s) t = tb ID (after s t) := by decide +kernel
theorem tb_back0 : ∀ t ∈ TURNS, tb (tb ID t) (back t) = ID := by decide +kernel
theorem tb_kcab0 : ∀ t ∈ TURNS, tb (tb ID (back t)) t = ID := by decide +kernel
theorem mir_tb0 : ∀ t ∈ TURNS, mir (tb ID t) = tb (mir ID) (conj t) := by decide +kernel
theorem still_mem : [0, 1, 2, 3, 4, 5] ∈ TURNS := by decide +kernel
theorem tb_still0 : tb ID [0, 1, 2, 3, 4, 5] = ID := by decide +kernel
theorem permR0 : ∀ s ∈ TURNS, (TURNS.map fun t => after t s).isPerm TURNS = true := by decide +kernel
theorem permL0 : ∀ s ∈ TURNS, (TURNS.map fun t => after s t).isPerm TURNS = true := by decide +kernel
theorem permC0 : (TURNS.map conj).isPerm TURNS = true := by decide +kernel
theorem permR {s : List Int} (h : s ∈ TURNS) : (TURNS.map fun t => after t s).Perm TURNS := List.isPerm_iff.mp (permR0 s h)
theorem permL {s : List Int} (h : s ∈ TURNS) : (TURNS.map fun t => after s t).Perm TURNS := List.isPerm_iff.mp (permL0 s h)
theorem permC : (TURNS.map conj).Perm TURNS := List.isPerm_iff.mp permC0

theorem tb_tb {α : Type} {p : List α} (hp : p.length = 6) {s t : List Int} (hs : s ∈ TURNS) (ht : t ∈ TURNS) : tb (tb p s) t = tb p (after s t) := by
  obtain ⟨f, rfl⟩ := six hp
  rw [tb_map, tb_map, tb_map, tb_tb0 s hs t ht]
theorem tb_back {α : Type} {p : List α} (hp : p.length = 6) {t : List Int} (ht : t ∈ TURNS) : tb (tb p t) (back t) = p := by
  obtain ⟨f, rfl⟩ := six hp
  rw [tb_map, tb_map, tb_back0 t ht]
theorem tb_kcab {α : Type} {p : List α} (hp : p.length = 6) {t : List Int} (ht : t ∈ TURNS) : tb (tb p (back t)) t = p := by
  obtain ⟨f, rfl⟩ := six hp
  rw [tb_map, tb_map, tb_kcab0 t ht]
theorem tb_still {α : Type} {p : List α} (hp : p.length = 6) : tb p [0, 1, 2, 3, 4, 5] = p := by
  obtain ⟨f, rfl⟩ := six hp
  rw [tb_map, tb_still0]
theorem mir_tb {α : Type} {p : List α} (hp : p.length = 6) {t : List Int} (ht : t ∈ TURNS) : mir (tb p t) = tb (mir p) (conj t) := by
  obtain ⟨f, rfl⟩ := six hp
  rw [tb_map, mir_map, mir_map, tb_map, mir_tb0 t ht]
theorem mir_mir {α : Type} {p : List α} (hp : p.length = 6) : mir (mir p) = p := by
  obtain ⟨f, rfl⟩ := six hp
  rfl
theorem mir_len {α : Type} {p : List α} (hp : p.length = 6) : (mir p).length = 6 := by
  obtain ⟨f, rfl⟩ := six hp
  rfl
theorem put_len {α : Type} : ∀ (xs found : List α) (ks : List Int), (put found xs ks).length = found.length
  | [], found, ks => by cases ks <;> rfl
  | x :: xs, found, [] => rfl
  | x :: xs, found, k :: ks => by
    show (put (found.set k.toNat x) xs ks).length = found.length
    rw [put_len xs _ ks, List.length_set]
theorem tb_len {α : Type} {p : List α} {t : List Int} : (tb p t).length = p.length := put_len p p t
theorem tb_inj {α : Type} {p q : List α} (hp : p.length = 6) (hq : q.length = 6) {t : List Int} (ht : t ∈ TURNS) (h : tb p t = tb q t) : p = q := by
  rw [← tb_back hp ht, h, tb_back hq ht]
theorem mir_inj {α : Type} {p q : List α} (hp : p.length = 6) (hq : q.length = 6) (h : mir p = mir q) : p = q := by
  rw [← mir_mir hp, h, mir_mir hq]
theorem put_mem {α : Type} : ∀ (xs found : List α) (ks : List Int) (x : α), x ∈ put found xs ks → x ∈ found ∨ x ∈ xs
  | [], found, ks, y, h => by
    cases ks <;> exact .inl h
  | x :: xs, found, [], y, h => .inl h
  | x :: xs, found, k :: ks, y, h => by
    rcases put_mem xs _ ks y h with z | z
    · rcases List.mem_or_eq_of_mem_set z with z | z
      · exact .inl z
      · exact .inr (by rw [z]; exact List.mem_cons_self)
    · exact .inr (List.mem_cons_of_mem _ z)
theorem tb_mem {α : Type} {p : List α} {t : List Int} {x : α} (h : x ∈ tb p t) : x ∈ p := (put_mem p p t x h).elim id id

/-! ### the turns that leave, counted -/
def stay (p : List Int) : List (List Int) := TURNS.filter fun t => tb p t == p
def allL (p : List Int) : List (List Int) := TURNS.map (tb p)
theorem mem_allL {p x : List Int} : x ∈ allL p ↔ ∃ t ∈ TURNS, tb p t = x := List.mem_map
theorem allL_len {p x : List Int} (hp : p.length = 6) (h : x ∈ allL p) : x.length = 6 := by
  obtain ⟨t, _, rfl⟩ := mem_allL.mp h
  rw [tb_len]; exact hp
theorem self_mem {p : List Int} (hp : p.length = 6) : p ∈ allL p := mem_allL.mpr ⟨_, still_mem, tb_still hp⟩
theorem mem_stay {p t : List Int} : t ∈ stay p ↔ t ∈ TURNS ∧ tb p t = p := by
  unfold stay
  rw [List.mem_filter]
  exact and_congr_right fun _ => beq_iff_eq
theorem stay_len (p : List Int) : (stay p).length = TURNS.countP fun t => tb p t == p := (List.countP_eq_length_filter).symm
theorem count_look {p : List Int} (hp : p.length = 6) {s : List Int} (hs : s ∈ TURNS) : (TURNS.countP fun t => tb p t == tb p s) = (stay p).length := by
  rw [stay_len, ← (permR hs).countP_eq, List.countP_map]
  refine List.countP_congr fun t ht => ?_
  show (tb p (after t s) == tb p s) = true ↔ (tb p t == p) = true
  rw [beq_iff_eq, beq_iff_eq, ← tb_tb hp ht hs]
  exact ⟨fun h => tb_inj (by rw [tb_len]; exact hp) hp hs h, fun h => by rw [h]⟩
theorem count_allL {p : List Int} (hp : p.length = 6) {x : List Int} (hx : x ∈ allL p) : (allL p).count x = (stay p).length := by
  obtain ⟨s, hs, rfl⟩ := mem_allL.mp hx
  rw [← count_look hp hs]
  unfold allL
  rw [List.count, List.countP_map]
  rfl
/-- the same number in each: so many altogether -/
theorem len_mul {α : Type} [BEq α] [LawfulBEq α] {c : Nat} : ∀ (l A : List α), l.Nodup → (∀ x ∈ A, x ∈ l) → (∀ x ∈ l, A.count x = c) → A.length = l.length * c
  | [], A, _, h, _ => by
    cases A with
    | nil => simp
    | cons x A => exact absurd (h x List.mem_cons_self) (by simp)
  | y :: l, A, hn, h, hc => by
    obtain ⟨h1, h2⟩ := List.nodup_cons.mp hn
    have e1 : A.length = (A.filter (· == y)).length + (A.filter (fun z => !(z == y))).length := by
      induction A with
      | nil => rfl
      | cons a A ih =>
        clear ih h hc
        induction (a :: A) with
        | nil => rfl
        | cons b B ihb =>
          rw [List.filter_cons, List.filter_cons]
          cases e : (b == y) <;> simp <;> omega
    have e2 := len_mul (c := c) l (A.filter fun z => !(z == y)) h2 (fun x hx => by
      obtain ⟨m1, m2⟩ := List.mem_filter.mp hx
      rcases List.mem_cons.mp (h x m1) with z | z
      · subst z; simp at m2
      · exact z) fun x hx => by
        have ne : ¬ x = y := fun z => h1 (z ▸ hx)
        rw [List.count_filter (by simp [ne])]
        exact hc x (List.mem_cons_of_mem _ hx)
    have e3 : (A.filter (· == y)).length = c := by
      rw [← hc y List.mem_cons_self, List.count, List.countP_eq_length_filter]
    rw [e1, e2, e3, List.length_cons, Nat.succ_mul]
    omega
theorem looks_stay {p : List Int} (hp : p.length = 6) {l : List (List Int)} (hn : l.Nodup) (hm : ∀ x, x ∈ l ↔ x ∈ allL p) : l.length * (stay p).length = 24 := by
  have e := len_mul (c := (stay p).length) l (allL p) hn (fun x hx => (hm x).mpr hx) fun x hx => count_allL hp ((hm x).mp hx)
  rw [← e]
  rfl
/-! ### looks of looks, turned -/
theorem allL_tb {p : List Int} (hp : p.length = 6) {s : List Int} (hs : s ∈ TURNS) (x : List Int) : x ∈ allL (tb p s) ↔ x ∈ allL p := by
  rw [mem_allL, mem_allL]
  constructor
  · rintro ⟨t, ht, rfl⟩
    exact ⟨after s t, after_mem s hs t ht, (tb_tb hp hs ht).symm⟩
  · rintro ⟨t, ht, rfl⟩
    refine ⟨after (back s) t, after_mem _ (back_mem s hs) t ht, ?_⟩
    rw [← tb_tb (by rw [tb_len]; exact hp) (back_mem s hs) ht, tb_back hp hs]
theorem allL_of {p q : List Int} (hp : p.length = 6) (hq : q ∈ allL p) (x : List Int) : x ∈ allL q ↔ x ∈ allL p := by
  obtain ⟨s, hs, rfl⟩ := mem_allL.mp hq
  exact allL_tb hp hs x
theorem stay_tb {p : List Int} (hp : p.length = 6) {s : List Int} (hs : s ∈ TURNS) : (stay (tb p s)).length = (stay p).length := by
  have e : (TURNS.countP fun t => tb p t == tb p s) = TURNS.countP fun t => tb p (after s t) == tb p s := by
    rw [← (permL hs).countP_eq, List.countP_map]
    rfl
  rw [stay_len, ← count_look hp hs, e]
  refine List.countP_congr fun t ht => ?_
  rw [tb_tb hp hs ht]
theorem stay_after {p : List Int} (hp : p.length = 6) {s t : List Int} (hs : s ∈ stay p) (ht : t ∈ stay p) : after s t ∈ stay p := by
  rw [mem_stay] at hs ht ⊢
  exact ⟨after_mem _ hs.1 _ ht.1, by rw [← tb_tb hp hs.1 ht.1, hs.2, ht.2]⟩
theorem stay_back {p : List Int} (hp : p.length = 6) {t : List Int} (ht : t ∈ stay p) : back t ∈ stay p := by
  rw [mem_stay] at ht ⊢
  refine ⟨back_mem _ ht.1, ?_⟩
  have e := tb_back hp ht.1
  rw [ht.2] at e
  exact e
/-! ### the mirrored ones -/
theorem stay_mir {p : List Int} (hp : p.length = 6) : (stay (mir p)).length = (stay p).length := by
  rw [stay_len, stay_len, ← permC.countP_eq, List.countP_map]
  refine List.countP_congr fun t ht => ?_
  show (tb (mir p) (conj t) == mir p) = true ↔ (tb p t == p) = true
  rw [← mir_tb hp ht, beq_iff_eq, beq_iff_eq]
  exact ⟨fun h => mir_inj (by rw [tb_len]; exact hp) hp h, fun h => by rw [h]⟩
theorem allL_mir {p : List Int} (hp : p.length = 6) (x : List Int) : x ∈ allL (mir p) ↔ ∃ y ∈ allL p, mir y = x := by
  rw [mem_allL]
  constructor
  · rintro ⟨t, ht, rfl⟩
    exact ⟨tb p (conj t), mem_allL.mpr ⟨_, conj_mem t ht, rfl⟩, by rw [mir_tb hp (conj_mem t ht), conj_conj t ht]⟩
  · rintro ⟨y, hy, rfl⟩
    obtain ⟨t, ht, rfl⟩ := mem_allL.mp hy
    exact ⟨conj t, conj_mem t ht, (mir_tb hp ht).symm⟩
/-! ### order -/
/-- less as tuples -/
def lt : List Int → List Int → Prop
  | [], [] => False
  | [], _ :: _ => True
  | _ :: _, [] => False
  | x :: xs, y :: ys => x < y ∨ (x = y ∧ lt xs ys)
theorem lt_irrefl : ∀ {x : List Int}, ¬ lt x x
  | [], h => h
  | x :: xs, h => h.elim (fun z => Int.lt_irrefl _ z) fun z => lt_irrefl z.2
theorem lt_trans : ∀ {x y z : List Int}, lt x y → lt y z → lt x z
  | [], [], _, h, _ => h.elim
  | [], _ :: _, [], _, h => h.elim
  | [], _ :: _, _ :: _, _, _ => trivial
  | _ :: _, [], _, h, _ => h.elim
  | _ :: _, _ :: _, [], _, h => h.elim
  | a :: x, b :: y, c :: z, h, g => by
    rcases h with h | ⟨e, h⟩
    · rcases g with g | ⟨f, g⟩
      · exact .inl (Int.lt_trans h g)
      · exact .inl (f ▸ h)
    · rcases g with g | ⟨f, g⟩
      · exact .inl (e ▸ g)
      · exact .inr ⟨e.trans f, lt_trans h g⟩
theorem lt_tri : ∀ (x y : List Int), x.length = y.length → lt x y ∨ x = y ∨ lt y x
  | [], [], _ => .inr (.inl rfl)
  | [], _ :: _, h => by simp at h
  | _ :: _, [], h => by simp at h
  | a :: x, b :: y, h => by
    rcases Int.lt_trichotomy a b with z | z | z
    · exact .inl (.inl z)
    · rcases lt_tri x y (by simpa using h) with q | q | q
      · exact .inl (.inr ⟨z, q⟩)
      · exact .inr (.inl (by rw [z, q]))
      · exact .inr (.inr (.inr ⟨z.symm, q⟩))
    · exact .inr (.inr (.inl z))
/-- two rising lists of the same things are one -/
theorem rising_one : ∀ {l m : List (List Int)}, l.Pairwise lt → m.Pairwise lt → (∀ x, x ∈ l ↔ x ∈ m) → l = m
  | [], [], _, _, _ => rfl
  | [], y :: m, _, _, h => absurd ((h y).mpr List.mem_cons_self) (by simp)
  | x :: l, [], _, _, h => absurd ((h x).mp List.mem_cons_self) (by simp)
  | x :: l, y :: m, hl, hm, h => by
    obtain ⟨l1, l2⟩ := List.pairwise_cons.mp hl
    obtain ⟨m1, m2⟩ := List.pairwise_cons.mp hm
    have e : x = y := by
      rcases List.mem_cons.mp ((h x).mp List.mem_cons_self) with z | z
      · exact z
      · rcases List.mem_cons.mp ((h y).mpr List.mem_cons_self) with q | q
        · exact q.symm
        · exact absurd (lt_trans (m1 x z) (l1 y q)) lt_irrefl
    subst e
    rw [rising_one l2 m2 fun z => ?_]
    constructor
    · intro hz
      rcases List.mem_cons.mp ((h z).mp (List.mem_cons_of_mem _ hz)) with q | q
      · exact absurd (l1 z hz) (q ▸ lt_irrefl)
      · exact q
    · intro hz
      rcases List.mem_cons.mp ((h z).mpr (List.mem_cons_of_mem _ hz)) with q | q
      · exact absurd (m1 z hz) (q ▸ lt_irrefl)
      · exact q
theorem rising_nodup {l : List (List Int)} (h : l.Pairwise lt) : l.Nodup := by
  refine List.Pairwise.imp (S := fun a b => a ≠ b) (fun {a b} hab e => ?_) h
  subst e
  exact lt_irrefl hab
/-- l are the looks of p -/
structure Looks (p : List Int) (l : List (List Int)) : Prop where
  up : l.Pairwise lt
  mem : ∀ x, x ∈ l ↔ x ∈ allL p
theorem Looks.one {p : List Int} {l m : List (List Int)} (a : Looks p l) (b : Looks p m) : l = m := rising_one a.up b.up fun x => (a.mem x).trans (b.mem x).symm
theorem Looks.of {p q : List Int} {l : List (List Int)} (hp : p.length = 6) (a : Looks p l) (hq : q ∈ l) : Looks q l := ⟨a.up, fun x => (a.mem x).trans (allL_of hp ((a.mem q).mp hq) x).symm⟩
theorem Looks.self {p : List Int} {l : List (List Int)} (hp : p.length = 6) (a : Looks p l) : p ∈ l := (a.mem p).mpr (self_mem hp)
theorem Looks.many {p : List Int} {l : List (List Int)} (hp : p.length = 6) (a : Looks p l) : l.length * (stay p).length = 24 := looks_stay hp (rising_nodup a.up) a.mem
theorem Looks.pos {p : List Int} {l : List (List Int)} (hp : p.length = 6) (a : Looks p l) : 0 < l.length := List.length_pos_of_mem (a.self hp)
theorem Looks.few {p : List Int} {l : List (List Int)} (hp : p.length = 6) (a : Looks p l) : l.length ≤ 24 := by
  have e := a.many hp
  have h : 0 < (stay p).length := Nat.pos_of_ne_zero fun z => by rw [z] at e; simp at e
  have := Nat.le_mul_of_pos_right l.length h
  omega
/-- the least of the turned ones -/
def Least (p m : List Int) : Prop := m ∈ allL p ∧ ∀ x ∈ allL p, x = m ∨ lt m x
theorem Looks.least {p : List Int} {l : List (List Int)} {m : List Int} (a : Looks p l) (b : Least p m) : l[0]? = some m := by
  cases l with
  | nil => exact absurd ((a.mem m).mpr b.1) (by simp)
  | cons x l =>
    obtain ⟨l1, _⟩ := List.pairwise_cons.mp a.up
    rcases b.2 x ((a.mem x).mp List.mem_cons_self) with e | h
    · rw [e]; rfl
    · rcases List.mem_cons.mp ((a.mem m).mpr b.1) with e | hm
      · rw [e]; rfl
      · exact absurd (lt_trans h (l1 m hm)) lt_irrefl
theorem Looks.mirrored {p : List Int} {l m : List (List Int)} (hp : p.length = 6) (a : Looks p l) (hu : m.Pairwise lt) (hm : m.Perm (l.map mir)) : Looks (mir p) m := ⟨hu, fun x => by
  rw [hm.mem_iff, List.mem_map, allL_mir hp]
  exact ⟨fun ⟨y, hy, e⟩ => ⟨y, (a.mem y).mp hy, e⟩, fun ⟨y, hy, e⟩ => ⟨y, (a.mem y).mpr hy, e⟩⟩⟩
/-! ### other paints, in the same order -/
def Mono (p : List Int) (f : Int → Int) : Prop := ∀ x ∈ p, ∀ y ∈ p, x < y → f x < f y
theorem lt_map {p : List Int} {f : Int → Int} (hf : Mono p f) : ∀ {x y : List Int}, (∀ a ∈ x, a ∈ p) → (∀ a ∈ y, a ∈ p) → lt x y → lt (x.map f) (y.map f)
  | [], [], _, _, h => h.elim
  | [], _ :: _, _, _, _ => trivial
  | _ :: _, [], _, _, h => h.elim
  | a :: x, b :: y, hx, hy, h => by
    rcases h with h | ⟨e, h⟩
    · exact .inl (hf a (hx a List.mem_cons_self) b (hy b List.mem_cons_self) h)
    · exact .inr ⟨by rw [e], lt_map hf (fun c hc => hx c (List.mem_cons_of_mem _ hc)) (fun c hc => hy c (List.mem_cons_of_mem _ hc)) h⟩
theorem Looks.renamed {p : List Int} {l : List (List Int)} {f : Int → Int} (a : Looks p l) (hf : Mono p f) : Looks (p.map f) (l.map (List.map f)) := by
  have sub : ∀ x ∈ l, ∀ c ∈ x, c ∈ p := fun x hx c hc => by
    obtain ⟨t, _, rfl⟩ := mem_allL.mp ((a.mem x).mp hx)
    exact tb_mem hc
  refine ⟨?_, fun x => ?_⟩
  · rw [List.pairwise_map]
    exact List.Pairwise.imp_of_mem (fun {x y} hx hy h => lt_map hf (sub x hx) (sub y hy) h) a.up
  · rw [List.mem_map, mem_allL]
    constructor
    · rintro ⟨y, hy, rfl⟩
      obtain ⟨t, ht, rfl⟩ := mem_allL.mp ((a.mem y).mp hy)
      exact ⟨t, ht, tb_map f p t⟩
    · rintro ⟨t, ht, rfl⟩
      exact ⟨tb p t, (a.mem _).mpr (mem_allL.mpr ⟨t, ht, rfl⟩), (tb_map f p t).symm⟩
end Cub

/-! Rules of our own: x in a tuple of tuples, min of a list of tuples, t.index of an int, set of a tuple of ints, wide powers. -/
namespace Cub
open PySem PySem.Spec PyProof.Rows L2

/-! ### a wide power -/
section
variable {X : Cx}
def CPowX (i j : Int) : Prop := 0 ≤ j ∧ (Builtin.Int.intBits i : Int) * j ≤ 2 ^ 27
theorem op_powX : OpR X (binaryOp .Pow) (rI CPowX fun i j => .int (i ^ j.toNat)) := opI fun _ _ _ _ _ _ _ hc q => pow_int hc.1 hc.2 q

/-! ### x in t, t a tuple of data -/
def rInT (K : PySem.W.Frag) : R2 := fun x y H Q => ∃ d ds, Dp K H x d ∧ Dp K H y (.tuple ds) ∧ SeqAt.shaped d = true ∧ SeqAt.shaped (.tuple ds) = true ∧ Q (.bl (ds.any fun z => PyData.eqv z d)) H
theorem op_inT (hu : X.A.units + 65 < cLine) : OpR X (compareOp .In) (rInT X.K) := by
  rintro pins s σ H x y v u Q I rx ry ⟨d, ds, hd, he, sd, se, q⟩
  have ⟨_, r1⟩ := Dp.reads I d x v hd rx
  have ⟨_, r2⟩ := Dp.reads I (.tuple ds) y u he ry
  have c2 : PyData.canLayAll0 ds = true := by
    have z := SeqAt.canLay_of_shaped se
    simpa only [PyData.canLay0] using z
  exact SeqAt.in_tuple_reads r2 r1 c2 (SeqAt.canLay_of_shaped sd) (room_in_shaped sd hu) ⟨.bl _, H, I, rfl, q⟩

/-! ### t.index(k), t a tuple of ints -/
theorem flat_ints (ys : List Int) : (ys.map V.int).all flatV = true := by
  rw [List.all_map]
  exact List.all_eq_true.mpr fun _ _ => rfl
def rTupIdx (K : PySem.W.Frag) : V → List V → Hp → VK → Prop := fun x xs H Q => ∃ (p : Addr) (ys : List Int) (z : Int) (j : Nat), x = .ref p ∧ xs = [.int z] ∧ SqT K H p (ys.map V.int) ∧ ys[j]? = some z ∧ (∀ m, m < j → ys[m]? ≠ some z) ∧ Q (.int (j : Nat)) H
theorem mt_tupIdx : MtR X "tuple.index" (rTupIdx X.K) := by
  rintro pins s σ H x xs v us Q I rx rs ⟨p, ys, z, j, rfl, rfl, hq, hy, hno, q⟩
  cases rx
  have ⟨u, eu, t, et⟩ := vals1 rs
  subst eu; subst et
  have ⟨its, r, ⟨⟨cls, dd, dt, sl⟩, ho, hc, n, hd⟩, hz⟩ := I.tuple hq
  have hc : cls = _ := hc
  have hd : dt = _ := hd
  subst hc; subst hd
  have hl : its.toArray.size = ys.length := by
    have e := r.length
    rw [List.length_map] at e
    simp [e]
  have hj : j < its.toArray.size := hl ▸ (List.getElem?_eq_some_iff.mp hy).1
  have look : ∀ (m : Nat) (hm : m < its.toArray.size), ∃ y t', ys[m]? = some y ∧ its.toArray[m] = Value.int y t' := by
    intro m hm
    have hm2 : m < ys.length := hl ▸ hm
    have ⟨w2, hw, t', hw2⟩ := r.get (i := m) (x := .int ys[m]) (by simp [hm2])
    have e := (List.getElem?_eq_some_iff.mp hw).2
    exact ⟨ys[m], t', List.getElem?_eq_getElem hm2, by rw [← hw2, ← e]; simp⟩
  refine call_meets PySem.F.slot_tuple_index ⟨_, ho, rfl⟩ PySem.F.entry_tuple_index (PySem.F.args_tuple_index_2 _ _)
    (TI.tuple_indexAt p its.toArray n dd sl (.int z t) (eqU (.int z)) j hj ?_ ?_)
    ⟨ho, fun w hw => mem_eqAt (x := .int z) ⟨t, rfl⟩ rfl r (flat_ints ys) w (by simpa using hw), ⟨.int (j : Nat), H, I.tok _, ⟨_, rfl⟩, q⟩⟩
  · have ⟨y, t', h1, h2⟩ := look j hj
    rw [hy] at h1
    cases h1
    rw [h2]
    exact beq_self_eq_true z
  · intro m hm hmj
    have ⟨y, t', h1, h2⟩ := look m hm
    rw [h2]
    exact beq_eq_false_iff_ne.mpr fun e => hno m hmj (e ▸ h1)

/-! ### set(t), t a tuple of ints; what it is is said by SetO -/
def rSetOfI (K : PySem.W.Frag) (w : World) : List V → Hp → VK → Prop := fun xs H Q => ∃ (l : Addr) (ns : List Int), xs = [V.ref l] ∧ SqT K H l (ns.map V.int) ∧ ns.length ≤ 1000 ∧
  ∀ a c, H a = none → c ≤ ns.length → Q (.ref a) (upd H a (SetO w a (fun j => decide (j ∈ ns)) c))
theorem cr_setOfI (hc : X.calm = true) : CallR X (.type "set") (rSetOfI X.K X.w) := by
  rintro pins s σ H xs us Q I r ⟨l, ns, rfl, hl, hz, q⟩
  rw [Vals.ref1 r]
  have ⟨its, rv, pt, _⟩ := I.tuple hl
  refine call_set_tupI ns (I.ok.hd hc) pt (by simpa using ints_of_vals rv) (by unfold scanBound; omega) fun h' tk c R hcn k => ?_
  exact ⟨.ref s.heap.objs.size, _, I.laid (t' := tk) k (Nat.le_refl _) (setO_new R), rfl, q _ c (I.hok.fresh (Nat.le_refl _)) hcn⟩
end

/-! ### min of a list of tuples of ints -/
section
variable {prog : Program} {w : World} {A : Around} {R : Result → Shared → Prop} {J : Addr} {fp wr : List Addr} {n : Nat} {P : Nat → Value → Prop} {St : Nat → Heap → Prop}
/-- what stands while the least is looked for: kept by all that the loop writes -/
structure Stands (wr : List Addr) (S : Addr) (T : Heap → Prop) : Prop where
  by_ : ∀ h h', T h → (∀ b o, b ∉ wr → b ≠ S → h.get? b = some o → h'.get? b = some o) → T h'
/-- the items' order where T stands -/
def OrdAt (prog : Program) (w : World) (A : Around) (T : Heap → Prop) (P : Nat → Value → Prop) (bt : Nat → Nat → Bool) : Prop :=
  ∀ i j vi vj (s : Shared) (Q : Value → Shared → Prop) (E : Value → Shared → Prop), T s.heap → P i vi → P j vj → Q (.bool (bt i j)) s → wpAny (model prog w) A (richCompare .Lt vi vj) Q E s
abbrev bestAt (S : Addr) (s : Shared) (vb : Value) (c : Nat) : Prop := s.heap.get? S = some { cls := .type "list", dict := none, data := .seq #[vb, vb] c, slots := #[] }
theorem nameLoop : (toString "min" ++ toString ".loop" : String) = "min.loop" := by decide
theorem least_turns (W : Walks prog w A.in1 J fp wr n P St) (bt : Nat → Nat → Bool) {T : Heap → Prop} {S : Addr} (hT : Stands wr S T) (ho : OrdAt prog w A.in1 T P bt) (nS : S ∉ fp) :
    ∀ (k j : Nat) (s : Shared) (vb : Value) (c : Nat), n - (j + 1) = k → j + 1 ≤ n → T s.heap → St (j + 1) s.heap → P (argBest bt j) vb → bestAt S s vb c →
      (∀ v h' tk, P (argBest bt (n - 1)) v → (∀ b o, b ∉ wr → b ≠ S → s.heap.get? b = some o → h'.get? b = some o) → R (.ok (.ret v)) { s with heap := h', toks := tk }) →
      codeAny (model prog w) A (.builtin "min.loop" ⟨[.ref J, .none, .ref S], []⟩) R s := by
  have nSw : S ∉ wr := fun h => nS (W.sub _ h)
  intro k
  induction k with
  | zero =>
    intro j s vb c hk hj ht hst hP hS fin
    have last : j + 1 = n := by omega
    refine codeAny_builtin F.entry_min_loop ?_
    rw [Around.under_plainId F.plain_min_loop _]
    show wpAny _ A.in1 (seqItems? (.ref S) >>= _) _ _ _
    refine wpAny_bind (wpAny_seqItems hS rfl ?_)
    show wpAny _ A.in1 (tryCatch (pyNext (.ref J)) _ >>= _) _ _ _
    refine wpAny_bind (wpAny_tryCatch (W.done s _ _ (last ▸ hst) fun h' tk kept => ?_))
    have hS2 := kept S _ nSw hS
    show wpAny _ A.in1 (updateSeq S (fun _ => #[]) >>= _) _ _ _
    refine wpAny_bind (wpAny_updateSeq hS2 rfl (wpAny_bind (wpAny_letGo (wpAny_pure ?_))))
    exact fin vb _ tk (by rw [← last]; exact hP) fun b o h1 h2 e => (Heap.get?_update_other _ _ (Ne.symm h2)).trans (kept b o h1 e)
  | succ k ih =>
    intro j s vb c hk hj ht hst hP hS fin
    have more : j + 1 < n := by omega
    refine codeAny_builtin F.entry_min_loop ?_
    rw [Around.under_plainId F.plain_min_loop _]
    show wpAny _ A.in1 (seqItems? (.ref S) >>= _) _ _ _
    refine wpAny_bind (wpAny_seqItems hS rfl ?_)
    show wpAny _ A.in1 (tryCatch (pyNext (.ref J)) _ >>= _) _ _ _
    refine wpAny_bind (wpAny_tryCatch (W.item (j + 1) s _ _ more hst fun v h' tk pv' st' kept => ?_))
    have hS2 := kept S _ nSw hS
    have ht2 : T h' := hT.by_ _ _ ht fun b o h1 _ e => kept b o h1 e
    show wpAny _ A.in1 (tryCatch (holding [v, v] (richCompare .Lt v vb >>= _)) _ >>= _) _ _ _
    refine wpAny_bind (wpAny_tryCatch (wpAny_holding (wpAny_bind (ho (j + 1) (argBest bt j) v vb _ _ _ ht2 pv' hP ?_))))
    refine wpAny_bind (wpAny_holding (wpAny_truthy_bool ?_))
    refine wpAny_bind (wpAny_letGo (wpAny_pure ?_))
    cases hb : bt (j + 1) (argBest bt j) with
    | true =>
      simp only [if_true]
      refine wpAny_bind (wpAny_updateSeq hS2 rfl (wpAny_bind (wpAny_letGo ?_)))
      rw [nameLoop]
      have kept2 : ∀ b o, b ∉ wr → b ≠ S → s.heap.get? b = some o → _ := fun b o h1 h2 e => (Heap.get?_update_other _ (Obj.mapSeq fun _ => #[v, v]) (Ne.symm h2)).trans (kept b o h1 e)
      refine wpAny_pure ⟨plainId_quiet F.plain_min_loop _, ih (j + 1) _ v _ (by omega) more (hT.by_ _ _ ht kept2) (W.frame _ _ _ st' fun b hbf o e => ?_) (by simp only [argBest, hb, if_true]; exact pv')
        (Heap.get?_update_self _ hS2 rfl) fun v2 h2 tk2 p2 k2 => ?_⟩
      · exact (Heap.get?_update_other _ _ (fun z : S = b => nS (by rw [z]; exact hbf))).trans e
      · exact fin v2 h2 tk2 p2 fun b o h1 hne e => k2 b o h1 hne (kept2 b o h1 hne e)
    | false =>
      simp only [Bool.false_eq_true, if_false]
      refine wpAny_bind (wpAny_letGo ?_)
      rw [nameLoop]
      refine wpAny_pure ⟨plainId_quiet F.plain_min_loop _, ih (j + 1) _ vb c (by omega) more ht2 st' (by simp only [argBest, hb, Bool.false_eq_true, if_false]; exact hP) hS2 fun v2 h2 tk2 p2 k2 => ?_⟩
      exact fin v2 h2 tk2 p2 fun b o h1 hne e => k2 b o h1 hne (kept b o h1 e)
theorem least_first (W : Walks prog w A.in1 J fp wr n P St) (bt : Nat → Nat → Bool) {T : Heap → Prop} {S : Addr} (hT : Stands wr S T) (ho : OrdAt prog w A.in1 T P bt) (nS : S ∉ fp) (hn : 0 < n) {s : Shared} {c : Nat}
    (ht : T s.heap) (hst : St 0 s.heap) (hS : s.heap.get? S = some { cls := .type "list", dict := none, data := .seq #[] c, slots := #[] })
    (fin : ∀ v h' tk, P (argBest bt (n - 1)) v → (∀ b o, b ∉ wr → b ≠ S → s.heap.get? b = some o → h'.get? b = some o) → R (.ok (.ret v)) { s with heap := h', toks := tk }) :
    codeAny (model prog w) A (.builtin "min.loop" ⟨[.ref J, .none, .ref S], []⟩) R s := by
  have nSw : S ∉ wr := fun h => nS (W.sub _ h)
  refine codeAny_builtin F.entry_min_loop ?_
  rw [Around.under_plainId F.plain_min_loop _]
  show wpAny _ A.in1 (seqItems? (.ref S) >>= _) _ _ _
  refine wpAny_bind (wpAny_seqItems hS rfl ?_)
  show wpAny _ A.in1 (tryCatch (pyNext (.ref J)) _ >>= _) _ _ _
  refine wpAny_bind (wpAny_tryCatch (W.item 0 s _ _ hn hst fun v h' tk pv' st' kept => ?_))
  have hS2 := kept S _ nSw hS
  show wpAny _ A.in1 (updateSeq S (fun _ => #[v, v]) >>= _) _ _ _
  refine wpAny_bind (wpAny_updateSeq hS2 rfl ?_)
  rw [nameLoop]
  have kept2 : ∀ b o, b ∉ wr → b ≠ S → s.heap.get? b = some o → _ := fun b o h1 h2 e => (Heap.get?_update_other _ (Obj.mapSeq fun _ => #[v, v]) (Ne.symm h2)).trans (kept b o h1 e)
  refine wpAny_pure ⟨plainId_quiet F.plain_min_loop _, least_turns W bt hT ho nS _ 0 _ v _ rfl hn (hT.by_ _ _ ht kept2) (W.frame _ _ _ st' fun b hbf o e => ?_) pv' (Heap.get?_update_self _ hS2 rfl) fun v2 h2 tk2 p2 k2 => ?_⟩
  · exact (Heap.get?_update_other _ _ (fun z : S = b => nS (by rw [z]; exact hbf))).trans e
  · exact fin v2 h2 tk2 p2 fun b o h1 hne e => k2 b o h1 hne (kept2 b o h1 hne e)
end
section
variable {prog : Program} {w : World} {A : Around} {E : Value → Shared → Prop} {s : Shared}
/-- min(l), l a list whose items are compared as bt says wherever the objects of the heap at the call stand -/
theorem call_minL {l : Addr} {items : Array Value} {bt : Nat → Nat → Bool} {Q : Value → Shared → Prop} (hh : A.handled = none) (hl : s.heap.IsList l items) (hn : 0 < items.size)
    (ho : OrdAt prog w A.in1 (fun h => ∀ b o, s.heap.get? b = some o → h.get? b = some o) (fun i v => items[i]? = some v) bt)
    (h : ∀ v h' tk, items[argBest bt (items.size - 1)]? = some v → (∀ b o, s.heap.get? b = some o → h'.get? b = some o) → Q v { s with heap := h', toks := tk }) :
    wpAny (model prog w) A (call (.builtin "min") [.ref l]) Q E s := by
  have hll : l < s.heap.objs.size := let ⟨_, e, _⟩ := hl; Heap.lt_size e
  refine call_function_tree F.kind_min F.plain_min F.entry_min (F.args_min1 _) ?_
  show wpAny _ A.in1 (Builtin.Builtins.bindParams "min" ["key", "default"] 0 ⟨[], []⟩ >>= _) _ _ _
  refine wpAny_bind (wpAny_of_eq (show Builtin.Builtins.bindParams "min" ["key", "default"] 0 ⟨[], []⟩ = pure [none, none] from rfl) ?_)
  refine wpAny_bind (wpAny_pure (wpAny_bind (wpAny_pyIter_list hl ?_)))
  refine wpAny_bind (wpAny_newObj_type ?_)
  rw [nameLoop]
  have e1 : ∀ (o : Obj), (s.heap.push o).objs.size = s.heap.objs.size + 1 := fun o => Heap.size_push _ _
  have nS : (s.heap.push { cls := .type "list_iterator", data := .fields #[.ref l, .int 0 0] }).objs.size ∉ [s.heap.objs.size, l] := by
    rw [e1]
    intro z
    rcases List.mem_cons.mp z with z | z
    · exact absurd z (Nat.ne_of_gt (Nat.lt_succ_self _))
    · have z := List.mem_singleton.mp z
      rw [← z] at hll
      exact absurd hll (Nat.not_lt.mpr (Nat.le_succ _))
  have W := Walks.list (prog := prog) (w := w) (A := A.in1) hh s.heap.objs.size l (Nat.ne_of_lt hll) items
  refine wpAny_pure ⟨plainId_quiet F.plain_min_loop _, least_first W bt (T := fun h => ∀ b o, s.heap.get? b = some o → h.get? b = some o) ⟨fun h1 h2 t k b o e => ?_⟩ ho nS hn
    (fun b o e => Heap.get?_push_of_some _ (Heap.get?_push_of_some _ e)) (W.frame _ _ _ ⟨⟨_, Heap.get?_push_size _ rfl, rfl, rfl⟩, hl.push _⟩ fun b _ o e => Heap.get?_push_of_some _ e)
    (Heap.get?_push_size _ rfl) fun v h' tk hP hk => ?_⟩
  · refine k b o (fun z => ?_) (fun z => ?_) (t b o e)
    · rw [List.mem_singleton.mp z] at e
      exact absurd (Heap.lt_size e) (Nat.lt_irrefl _)
    · rw [z, e1] at e
      exact absurd (Heap.lt_size e) (Nat.not_lt.mpr (Nat.le_succ _))
  · refine h v h' tk hP fun b o e => hk b o (fun z => ?_) (fun z => ?_) (Heap.get?_push_of_some _ (Heap.get?_push_of_some _ e))
    · rw [List.mem_singleton.mp z] at e
      exact absurd (Heap.lt_size e) (Nat.lt_irrefl _)
    · rw [z, e1] at e
      exact absurd (Heap.lt_size e) (Nat.not_lt.mpr (Nat.le_succ _))
end
end Cub

/-! What stands in the heap: tuples of ints, lists of such tuples; comparisons, min, set, sorted over them. -/
namespace Cub
open PySem PySem.Spec PyProof.Rows L2

abbrev TupA (K : PySem.W.Frag) (H : Hp) (a : Addr) (ns : List Int) : Prop := SqT K H a (ns.map V.int)
abbrev refs (ks : List (Addr × List Int)) : List V := ks.map fun p => V.ref p.1
abbrev AllT (K : PySem.W.Frag) (H : Hp) (ks : List (Addr × List Int)) : Prop := ∀ p ∈ ks, TupA K H p.1 p.2
/-- at r a list (made by the run) of tuples of ints -/
def LT (K : PySem.W.Frag) (H : Hp) (r : Addr) (ls : List (List Int)) : Prop := ∃ ks, H r = some (.lst (refs ks)) ∧ AllT K H ks ∧ ks.map (·.2) = ls

theorem Same.tup {K : PySem.W.Frag} {H H' : Hp} {a : Addr} {xs : List V} (e : Same H H') (h : SqT K H a xs) : SqT K H' a xs := by
  rcases h with (h | ⟨o, h⟩) | h
  · exact .inl (.inl (e _ _ h))
  · exact .inl (.inr ⟨o, e _ _ h⟩)
  · exact .inr h
theorem Same.allT {K : PySem.W.Frag} {H H' : Hp} {ks : List (Addr × List Int)} (e : Same H H') (h : AllT K H ks) : AllT K H' ks := fun p hp => Same.tup e (h p hp)
theorem Same.lt {K : PySem.W.Frag} {H H' : Hp} {r : Addr} {ls : List (List Int)} (e : Same H H') (h : LT K H r ls) : LT K H' r ls := by
  obtain ⟨ks, h1, h2, h3⟩ := h
  exact ⟨ks, e _ _ h1, Same.allT e h2, h3⟩
theorem Same.new {H : Hp} {p : Addr} {o : HO} (hp : H p = Option.none) : Same H (upd H p o) := fun b u e => by
  rw [upd_ne (ne_of_none e hp)]
  exact e
theorem LT.sq {K : PySem.W.Frag} {H : Hp} {r : Addr} {ls : List (List Int)} (h : LT K H r ls) : ∃ ks, SqL K H r (refs ks) ∧ AllT K H ks ∧ ks.map (·.2) = ls := by
  obtain ⟨ks, h1, h2, h3⟩ := h
  exact ⟨ks, SqL.of h1, h2, h3⟩
theorem TupA.new {K : PySem.W.Frag} {H : Hp} {p : Addr} {ns : List Int} : TupA K (upd H p (.tup (ns.map V.int))) p ns := SqT.of upd_same

/-! ### data -/
def dI (ns : List Int) : PyData := .tuple (ns.map PyData.int)
theorem dpInts {K : PySem.W.Frag} {H : Hp} : ∀ ns : List Int, DpAll K H (ns.map V.int) (ns.map PyData.int)
  | [] => .nil
  | n :: ns => .cons (.int n) (dpInts ns)
theorem dpT {K : PySem.W.Frag} {H : Hp} {a : Addr} {ns : List Int} (h : TupA K H a ns) : Dp K H (.ref a) (dI ns) := .tup h (dpInts ns)
theorem dpAll {K : PySem.W.Frag} {H : Hp} : ∀ {ks : List (Addr × List Int)}, AllT K H ks → DpAll K H (refs ks) ((ks.map (·.2)).map dI)
  | [], _ => .nil
  | p :: ks, h => .cons (dpT (h p List.mem_cons_self)) (dpAll fun q hq => h q (List.mem_cons_of_mem _ hq))
theorem layInts : ∀ ns : List Int, PyData.canLayAll0 (ns.map PyData.int) = true
  | [] => by simp [PyData.canLayAll0]
  | n :: ns => by simp [PyData.canLayAll0, PyData.canLay0, layInts ns]
theorem depInts : ∀ ns : List Int, PyData.depthAll (ns.map PyData.int) ≤ 1
  | [] => by simp [PyData.depthAll]
  | n :: ns => by
    have h := depInts ns
    simp only [List.map_cons, PyData.depthAll, PyData.depth]
    omega
theorem lay_dI (ns : List Int) : (dI ns).canLay0 = true := by
  unfold dI
  simp only [PyData.canLay0]
  exact layInts ns
theorem dep_dI (ns : List Int) : (dI ns).depth ≤ 2 := by
  have h := depInts ns
  unfold dI
  simp only [PyData.depth]
  omega
theorem shaped_of {d : PyData} (h1 : d.canLay0 = true) (h2 : d.depth ≤ 64) : SeqAt.shaped d = true := by
  show (d.canLay0 && decide (d.depth ≤ 64)) = true
  rw [h1, decide_eq_true h2]
  rfl
theorem sh_dI (ns : List Int) : SeqAt.shaped (dI ns) = true := shaped_of (lay_dI ns) (Nat.le_trans (dep_dI ns) (by decide))
theorem layDs : ∀ ls : List (List Int), PyData.canLayAll0 (ls.map dI) = true
  | [] => by simp [PyData.canLayAll0]
  | n :: ls => by simp [PyData.canLayAll0, lay_dI n, layDs ls]
theorem depDs : ∀ ls : List (List Int), PyData.depthAll (ls.map dI) ≤ 2
  | [] => by simp [PyData.depthAll]
  | n :: ls => by
    have h := depDs ls
    have h2 := dep_dI n
    simp only [List.map_cons, PyData.depthAll]
    omega
theorem sh_L (ls : List (List Int)) : SeqAt.shaped (.list (ls.map dI)) = true := by
  have h := depDs ls
  refine shaped_of (by simp only [PyData.canLay0]; exact layDs ls) ?_
  simp only [PyData.depth]
  omega
theorem sh_T (ls : List (List Int)) : SeqAt.shaped (.tuple (ls.map dI)) = true := by
  have h := depDs ls
  refine shaped_of (by simp only [PyData.canLay0]; exact layDs ls) ?_
  simp only [PyData.depth]
  omega
theorem eqvInts : ∀ ns ms : List Int, PyData.eqvAll (ns.map PyData.int) (ms.map PyData.int) = decide (ns = ms)
  | [], [] => by simp [PyData.eqvAll]
  | [], _ :: _ => by simp [PyData.eqvAll]
  | _ :: _, [] => by simp [PyData.eqvAll]
  | a :: ns, b :: ms => by
    simp only [List.map_cons, PyData.eqvAll, PyData.eqv, eqvInts ns ms]
    by_cases h : a = b
    · by_cases h2 : ns = ms
      · simp [h, h2]
      · simp [h, h2]
    · simp [h]
theorem eqv_dI (ns ms : List Int) : PyData.eqv (dI ns) (dI ms) = decide (ns = ms) := by
  unfold dI
  simp only [PyData.eqv]
  exact eqvInts ns ms
theorem eqvDs : ∀ ls ms : List (List Int), PyData.eqvAll (ls.map dI) (ms.map dI) = decide (ls = ms)
  | [], [] => by simp [PyData.eqvAll]
  | [], _ :: _ => by simp [PyData.eqvAll]
  | _ :: _, [] => by simp [PyData.eqvAll]
  | a :: ns, b :: ms => by
    simp only [List.map_cons, PyData.eqvAll, eqv_dI, eqvDs ns ms]
    by_cases h : a = b
    · by_cases h2 : ns = ms
      · simp [h, h2]
      · simp [h, h2]
    · simp [h]
theorem anyDs (d : List Int) : ∀ ls : List (List Int), ((ls.map dI).any fun z => PyData.eqv z (dI d)) = decide (d ∈ ls)
  | [] => by simp
  | a :: ls => by
    rw [List.map_cons, List.any_cons, anyDs d ls, eqv_dI]
    by_cases h : a = d
    · simp [h]
    · simp [h, Ne.symm h]
section
variable {X : Cx}
/-! ### tuples and lists of tuples compared -/
def rTT (K : PySem.W.Frag) (g : Bool → Bool) : R2 := fun x y H Q => ∃ a b ns ms, x = .ref a ∧ y = .ref b ∧ TupA K H a ns ∧ TupA K H b ms ∧ Q (.bl (g (decide (ns = ms)))) H
def rLL (K : PySem.W.Frag) (g : Bool → Bool) : R2 := fun x y H Q => ∃ a b ls ms, x = .ref a ∧ y = .ref b ∧ LT K H a ls ∧ LT K H b ms ∧ Q (.bl (g (decide (ls = ms)))) H
def rTL (K : PySem.W.Frag) (g : Bool → Bool) : R2 := fun x y H Q => ∃ a b ns ls, x = .ref a ∧ y = .ref b ∧ TupA K H a ns ∧ LT K H b ls ∧ Q (.bl (g (decide (ns ∈ ls)))) H
theorem dpL {K : PySem.W.Frag} {H : Hp} {r : Addr} {ls : List (List Int)} (h : LT K H r ls) : Dp K H (.ref r) (.list (ls.map dI)) := by
  obtain ⟨ks, h1, h2, rfl⟩ := h
  exact .lst (SqL.of h1) (dpAll h2)
theorem op_eqTT (hu : X.A.units + 64 < cLine) : OpR X (compareOp .Eq) (rTT X.K id) := by
  rintro pins s σ H x y v u Q I rx ry ⟨a, b, ns, ms, rfl, rfl, h1, h2, q⟩
  exact op_eqD hu pins s σ H _ _ v u Q I rx ry ⟨dI ns, dI ms, dpT h1, dpT h2, sh_dI _, sh_dI _, by rw [eqv_dI]; exact q⟩
theorem op_neTT (hu : X.A.units + 64 < cLine) : OpR X (compareOp .NotEq) (rTT X.K not) := by
  rintro pins s σ H x y v u Q I rx ry ⟨a, b, ns, ms, rfl, rfl, h1, h2, q⟩
  exact op_neD hu pins s σ H _ _ v u Q I rx ry ⟨dI ns, dI ms, dpT h1, dpT h2, sh_dI _, sh_dI _, by rw [eqv_dI]; exact q⟩
theorem op_eqLL (hu : X.A.units + 64 < cLine) : OpR X (compareOp .Eq) (rLL X.K id) := by
  rintro pins s σ H x y v u Q I rx ry ⟨a, b, ns, ms, rfl, rfl, h1, h2, q⟩
  refine op_eqD hu pins s σ H _ _ v u Q I rx ry ⟨_, _, dpL h1, dpL h2, sh_L _, sh_L _, ?_⟩
  simp only [PyData.eqv]
  rw [eqvDs]
  exact q
theorem op_neLL (hu : X.A.units + 64 < cLine) : OpR X (compareOp .NotEq) (rLL X.K not) := by
  rintro pins s σ H x y v u Q I rx ry ⟨a, b, ns, ms, rfl, rfl, h1, h2, q⟩
  refine op_neD hu pins s σ H _ _ v u Q I rx ry ⟨_, _, dpL h1, dpL h2, sh_L _, sh_L _, ?_⟩
  simp only [PyData.eqv]
  rw [eqvDs]
  exact q
theorem op_notInTL (hu : X.A.units + 65 < cLine) : OpR X (compareOp .NotIn) (rTL X.K not) := by
  rintro pins s σ H x y v u Q I rx ry ⟨a, b, ns, ls, rfl, rfl, h1, h2, q⟩
  refine op_notInD hu pins s σ H _ _ v u Q I rx ry ⟨dI ns, ls.map dI, dpT h1, dpL h2, sh_dI _, sh_L _, ?_⟩
  rw [anyDs]
  exact q
/-- x in t, t a tuple of tuples -/
def rInTT (K : PySem.W.Frag) : R2 := fun x y H Q => ∃ a b ns ks, x = .ref a ∧ y = .ref b ∧ TupA K H a ns ∧ SqT K H b (refs ks) ∧ AllT K H ks ∧ Q (.bl (decide (ns ∈ ks.map (·.2)))) H
theorem op_inTT (hu : X.A.units + 65 < cLine) : OpR X (compareOp .In) (rInTT X.K) := by
  rintro pins s σ H x y v u Q I rx ry ⟨a, b, ns, ks, rfl, rfl, h1, h2, h3, q⟩
  refine op_inT hu pins s σ H _ _ v u Q I rx ry ⟨dI ns, (ks.map (·.2)).map dI, dpT h1, .tup h2 (dpAll h3), sh_dI _, sh_T _, ?_⟩
  rw [anyDs]
  exact q
/-- a list of ints against the empty list -/
def rNilI : R2 := fun x y H Q => ∃ a b ns, x = .ref a ∧ y = .ref b ∧ H a = some (.lst (ns.map V.int)) ∧ H b = some (.lst []) ∧ Q (.bl (decide (ns = []))) H
def rNotNilI : R2 := fun x y H Q => ∃ a b ns, x = .ref a ∧ y = .ref b ∧ H a = some (.lst (ns.map V.int)) ∧ H b = some (.lst []) ∧ Q (.bl (!decide (ns = []))) H
theorem sh_LI (ns : List Int) : SeqAt.shaped (.list (ns.map PyData.int)) = true := by
  have h := depInts ns
  refine shaped_of (by simp only [PyData.canLay0]; exact layInts ns) ?_
  simp only [PyData.depth]
  omega
theorem op_eqNil (hu : X.A.units + 64 < cLine) : OpR X (compareOp .Eq) rNilI := by
  rintro pins s σ H x y v u Q I rx ry ⟨a, b, ns, rfl, rfl, h1, h2, q⟩
  refine op_eqD hu pins s σ H _ _ v u Q I rx ry ⟨_, _, .lst (SqL.of h1) (dpInts ns), .lst (xs := ([] : List Int).map V.int) (SqL.of h2) (dpInts []), sh_LI _, sh_LI _, ?_⟩
  simp only [PyData.eqv]
  rw [eqvInts]
  exact q
theorem op_neNil (hu : X.A.units + 64 < cLine) : OpR X (compareOp .NotEq) rNotNilI := by
  rintro pins s σ H x y v u Q I rx ry ⟨a, b, ns, rfl, rfl, h1, h2, q⟩
  refine op_neD hu pins s σ H _ _ v u Q I rx ry ⟨_, _, .lst (SqL.of h1) (dpInts ns), .lst (xs := ([] : List Int).map V.int) (SqL.of h2) (dpInts []), sh_LI _, sh_LI _, ?_⟩
  simp only [PyData.eqv]
  rw [eqvInts]
  exact q
theorem tyT {K : PySem.W.Frag} {H : Hp} {a : Addr} {xs : List V} (h : SqT K H a xs) : TyX K H (.ref a) (.type "tuple") := by
  rcases h with (h | ⟨o, h⟩) | ⟨o, its, n, hk, hc, _⟩
  · exact .base (.tup h)
  · exact .fTuple h
  · exact .kTuple hk hc
end

/-! ### order: lexLt and code against lt -/
theorem lexLt_iff : ∀ {x y : List Int}, HT.lexLt x y = true ↔ lt x y
  | [], [] => by simp [HT.lexLt, lt]
  | [], _ :: _ => by simp [HT.lexLt, lt]
  | _ :: _, [] => by simp [HT.lexLt, lt]
  | a :: x, b :: y => by
    rw [HT.lexLt_cons]
    by_cases h : a = b
    · rw [if_pos h, lexLt_iff]
      exact ⟨fun z => .inr ⟨h, z⟩, fun z => z.elim (fun q => absurd q (by omega)) fun q => q.2⟩
    · rw [if_neg h, decide_eq_true_eq]
      exact ⟨fun z => .inl z, fun z => z.elim id fun q => absurd q.1 h⟩
theorem code_of_lt {B : Int} : ∀ {x y : List Int}, x.length = y.length → TS.Bd B x → TS.Bd B y → lt x y → TS.code B x < TS.code B y
  | [], [], _, _, _, h => h.elim
  | [], _ :: _, e, _, _, _ => by simp at e
  | _ :: _, [], e, _, _, _ => by simp at e
  | a :: x, b :: y, e, h1, h2, h => by
    have e2 : x.length = y.length := by simpa using e
    rcases h with h | ⟨rfl, h⟩
    · exact TS.code_lt e2 h1.tail h2.tail h
    · exact (TS.code_same e2).mpr (code_of_lt e2 h1.tail h2.tail h)
theorem lt_of_code {B : Int} {x y : List Int} (e : x.length = y.length) (h1 : TS.Bd B x) (h2 : TS.Bd B y) (h : TS.code B x ≤ TS.code B y) (ne : x ≠ y) : lt x y := by
  rcases lt_tri x y e with z | z | z
  · exact z
  · exact absurd z ne
  · exact absurd (code_of_lt e.symm h2 h1 z) (Int.not_lt.mpr h)
theorem bd_of (ns : List Int) (h : ∀ n ∈ ns, 0 ≤ n) : ∃ B : Int, TS.Bd B ns := by
  induction ns with
  | nil => exact ⟨1, fun m hm => by simp at hm⟩
  | cons a ns ih =>
    obtain ⟨B, hB⟩ := ih fun n hn => h n (List.mem_cons_of_mem _ hn)
    have h0 := h a List.mem_cons_self
    refine ⟨max B (a + 1), fun m hm => ?_⟩
    rcases List.mem_cons.mp hm with e | hm
    · subst e
      exact ⟨h0, by omega⟩
    · have z := hB m hm
      exact ⟨z.1, by omega⟩
theorem perm_map_inv {α β : Type} {f : α → β} : ∀ {ys zs : List β}, ys.Perm zs → ∀ ks : List α, zs = ks.map f → ∃ ks' : List α, ks'.Perm ks ∧ ys = ks'.map f := by
  intro ys zs h
  induction h with
  | nil => exact fun ks e => ⟨ks, .refl _, e⟩
  | cons x _ ih =>
    intro ks e
    cases ks with
    | nil => cases e
    | cons k r =>
      rw [List.map_cons] at e
      injection e with e1 e2
      obtain ⟨r', p, e3⟩ := ih r e2
      exact ⟨k :: r', p.cons k, by rw [e3, List.map_cons, e1]⟩
  | swap x y l =>
    intro ks e
    match ks with
    | [] => cases e
    | [_] => cases e
    | k :: m :: r =>
      rw [List.map_cons, List.map_cons] at e
      injection e with e1 e2
      injection e2 with e2 e3
      exact ⟨m :: k :: r, .swap _ _ _, by rw [List.map_cons, List.map_cons, e1, e2, e3]⟩
  | trans _ _ ih1 ih2 =>
    intro ks e
    obtain ⟨k1, p1, e1⟩ := ih2 ks e
    obtain ⟨k2, p2, e2⟩ := ih1 k1 e1
    exact ⟨k2, p2.trans p1, e2⟩

/-! ### min of a list of tuples of one length -/
theorem best_le (bt : Nat → Nat → Bool) : ∀ k, argBest bt k ≤ k
  | 0 => Nat.le_refl _
  | k + 1 => by
    show (if bt (k + 1) (argBest bt k) then k + 1 else argBest bt k) ≤ k + 1
    split
    · exact Nat.le_refl _
    · exact Nat.le_succ_of_le (best_le bt k)
theorem best_least (f : Nat → List Int) (d : Nat) : ∀ k, (∀ i, i ≤ k → (f i).length = d) → ∀ i, i ≤ k → f i = f (argBest (fun i j => HT.lexLt (f i) (f j)) k) ∨ lt (f (argBest (fun i j => HT.lexLt (f i) (f j)) k)) (f i)
  | 0, _, i, hi => by
    have e : i = 0 := by omega
    subst e
    exact .inl rfl
  | k + 1, hd, i, hi => by
    have ih := best_least f d k fun j hj => hd j (Nat.le_succ_of_le hj)
    have e : argBest (fun i j => HT.lexLt (f i) (f j)) (k + 1) = if HT.lexLt (f (k + 1)) (f (argBest (fun i j => HT.lexLt (f i) (f j)) k)) = true then k + 1 else argBest (fun i j => HT.lexLt (f i) (f j)) k := rfl
    rw [e]
    have hb := best_le (fun i j => HT.lexLt (f i) (f j)) k
    generalize argBest (fun i j => HT.lexLt (f i) (f j)) k = b at ih hb ⊢
    by_cases hc : HT.lexLt (f (k + 1)) (f b) = true
    · rw [if_pos hc]
      have hl := lexLt_iff.mp hc
      by_cases hik : i = k + 1
      · exact .inl (by rw [hik])
      · rcases ih i (by omega) with z | z
        · exact .inr (z ▸ hl)
        · exact .inr (lt_trans hl z)
    · rw [if_neg hc]
      by_cases hik : i = k + 1
      · subst hik
        rcases lt_tri (f (k + 1)) (f b) (by rw [hd _ (Nat.le_refl _), hd b (by omega)]) with z | z | z
        · exact absurd (lexLt_iff.mpr z) hc
        · exact .inl z
        · exact .inr z
      · exact ih i (by omega)
section
variable {X : Cx}
def rMinT (K : PySem.W.Frag) : List V → Hp → VK → Prop := fun vs H Q => ∃ (l : Addr) (ks : List (Addr × List Int)) (d : Nat), vs = [V.ref l] ∧ SqL K H l (refs ks) ∧ AllT K H ks ∧ ks ≠ [] ∧ (∀ p ∈ ks, p.2.length = d) ∧
  ∀ p ∈ ks, (∀ q ∈ ks, q.2 = p.2 ∨ lt p.2 q.2) → Q (.ref p.1) H
theorem cr_minT (hc : X.calm = true) (hu : X.A.units + 2 < cLine) : CallR X (.builtin "min") (rMinT X.K) := by
  rintro pins s σ H vs us Q I r ⟨l, ks, d, rfl, hl, hk, hne, hd, q⟩
  rw [Vals.ref1 r]
  have ⟨its, rv, pl, _⟩ := I.list hl
  have eits : its = ks.map fun p => Value.ref p.1 := refs_of_vals rv
  have hn : its.toArray.size = ks.length := by rw [List.size_toArray, eits, List.length_map]
  have hpos : 0 < ks.length := List.length_pos_iff.mpr hne
  have hat : ∀ i v, its.toArray[i]? = some v → ∃ p : Addr × List Int, ks[i]? = some p ∧ v = Value.ref p.1 := fun i v e => by
    rw [List.getElem?_toArray, eits, List.getElem?_map] at e
    obtain ⟨p, h1, h2⟩ := Option.map_eq_some_iff.mp e
    exact ⟨p, h1, h2.symm⟩
  have kD : ∀ i p, ks[i]? = some p → (ks.map (·.2)).getD i [] = p.2 := fun i p e => by
    rw [List.getD_eq_getElem?_getD, List.getElem?_map, e] <;> rfl
  refine call_minL (bt := fun i j => HT.lexLt ((ks.map (·.2)).getD i []) ((ks.map (·.2)).getD j [])) (I.ok.hd hc) pl.isList (by omega) ?_ fun v h' tk hv hk' => ?_
  · intro i j vi vj s2 Q2 E2 ht hi hj q2
    obtain ⟨p1, e1, rfl⟩ := hat i vi hi
    obtain ⟨p2, e2, rfl⟩ := hat j vj hj
    have q2 : Q2 (.bool (HT.lexLt ((ks.map (·.2)).getD i []) ((ks.map (·.2)).getD j []))) s2 := q2
    rw [kD i p1 e1, kD j p2 e2] at q2
    have ⟨its1, rv1, t1, _⟩ := I.tuple (hk p1 (List.mem_of_getElem? e1))
    have ⟨its2, rv2, t2, _⟩ := I.tuple (hk p2 (List.mem_of_getElem? e2))
    obtain ⟨o1, g1, c1⟩ := t1
    obtain ⟨o2, g2, c2⟩ := t2
    exact HT.lt_tupInts ⟨o1, ht _ _ g1, c1⟩ ⟨o2, ht _ _ g2, c2⟩ (by simpa using ints_of_vals rv1) (by simpa using ints_of_vals rv2) (Nat.lt_of_le_of_lt (Nat.le_succ _) hu) q2
  · obtain ⟨p, e1, rfl⟩ := hat _ v hv
    refine ⟨.ref p.1, H, I.kept (t' := tk) hk', rfl, q p (List.mem_of_getElem? e1) fun r hr => ?_⟩
    obtain ⟨i, hi, e⟩ := List.mem_iff_getElem.mp hr
    have e3 : ks[i]? = some r := by rw [List.getElem?_eq_getElem hi, e]
    have z := best_least (fun i => (ks.map (·.2)).getD i []) d (ks.length - 1) (fun j hj => by
      have hj2 : j < ks.length := by omega
      show ((ks.map (·.2)).getD j []).length = d
      rw [kD j ks[j] (List.getElem?_eq_getElem hj2)]
      exact hd _ (List.getElem_mem hj2)) i (by omega)
    rw [hn] at e1
    have z : (ks.map (·.2)).getD i [] = (ks.map (·.2)).getD _ [] ∨ lt ((ks.map (·.2)).getD _ []) ((ks.map (·.2)).getD i []) := z
    rw [kD i r e3, kD _ p e1] at z
    exact z
end
end Cub

namespace Cub
open PySem PySem.Spec PyProof.Rows L2
/-! ### the text by places -/
def top (i : Nat) : Stmt := PySem.Challenge.pw_thirtycubes_k10_whole_looks_and_leaving.main.body.getD i (.Pass ⟨0, 0, 0, 0⟩)
abbrev sNum : Stmt := top 7
abbrev sSix : Stmt := top 8
abbrev sAft : Stmt := top 9
abbrev sAllT : Stmt := top 10
abbrev sIsT : Stmt := top 11
abbrev sMustT : Stmt := top 12
abbrev sTurns : Stmt := top 13
abbrev sPutT : Stmt := top 14
abbrev sBack : Stmt := top 15
abbrev sIsP : Stmt := top 17
abbrev sMustP : Stmt := top 18
abbrev sBy : Stmt := top 19
abbrev sLooksA : Stmt := top 20
abbrev sTurned : Stmt := top 21
abbrev sLeastO : Stmt := top 22
abbrev sLeastP : Stmt := top 23
abbrev sMir : Stmt := top 24
abbrev sLeav : Stmt := top 25
abbrev sLooks : Stmt := top 26
abbrev sPurse : Stmt := top 28
abbrev sDraw : Stmt := top 29
abbrev sMixed : Stmt := top 30
abbrev sCoat : Stmt := top 31
abbrev sRen : Stmt := top 32
abbrev sClosed : Stmt := top 33
abbrev sGlass : Stmt := top 34
abbrev sLaw : Stmt := top 35

/-! ### what the top leaves -/
/-- the names that are still built in -/
structure Bl (mg : Str → Option Value) : Prop where
  isinstance : mg "isinstance" = none
  int : mg "int" = none
  bool : mg "bool" = none
  tuple : mg "tuple" = none
  len : mg "len" = none
  all : mg "all" = none
  list : mg "list" = none
  zip : mg "zip" = none
  min : mg "min" = none
  sorted : mg "sorted" = none
  set : mg "set" = none
  range : mg "range" = none
  abs : mg "abs" = none
/-- a def as it stands behind the top -/
def Df (K : PySem.W.Frag) (mg : Str → Option Value) (x : Str) (st : Stmt) (ps : List Str) : Prop := ∃ (f : Addr) (fd : FuncData), Fun K x x st f fd ∧ mg x = some (.ref f) ∧ Binds K fd ps []
/-- .. and its promise -/
def Has (P : Program) (w : World) (K : PySem.W.Frag) (mg : Str → Option Value) (base : Heap) (k : Nat) (x : Str) (st : Stmt) (ps : List Str) (sp : Sp) : Prop :=
  ∃ (f : Addr) (fd : FuncData), Fun K x x st f fd ∧ mg x = some (.ref f) ∧ Binds K fd ps [] ∧ FnOk P w K mg base CX0 k f fd ps sp
/-- a tuple of the text -/
def KTup (K : PySem.W.Frag) (a : Addr) (ns : List Int) : Prop := (∀ H, TupA K H a ns) ∧ ∃ o, K.lookup a = some o ∧ o.cls = .type "tuple" ∧ o.dict = none
/-- at r a list of tuples of the text -/
def KL (K : PySem.W.Frag) (H : Hp) (r : Addr) (ls : List (List Int)) : Prop := ∃ ks : List (Addr × List Int), H r = some (.lst (refs ks)) ∧ (∀ p ∈ ks, KTup K p.1 p.2) ∧ ks.map (·.2) = ls
theorem KL.lt {K : PySem.W.Frag} {H : Hp} {r : Addr} {ls : List (List Int)} (h : KL K H r ls) : LT K H r ls := by
  obtain ⟨ks, h1, h2, h3⟩ := h
  exact ⟨ks, h1, fun p hp => (h2 p hp).1 H, h3⟩
theorem Same.kl {K : PySem.W.Frag} {H H' : Hp} {r : Addr} {ls : List (List Int)} (e : Same H H') (h : KL K H r ls) : KL K H' r ls := by
  obtain ⟨ks, h1, h2, h3⟩ := h
  exact ⟨ks, e _ _ h1, h2, h3⟩
/-- the table of turns, the turn that leaves all -/
def TabAt (K : PySem.W.Frag) (mg : Str → Option Value) : Prop := ∃ (a : Addr) (ks : List (Addr × List Int)), mg "TURNS" = some (.ref a) ∧ (∀ H, SqT K H a (refs ks)) ∧ (∀ p ∈ ks, KTup K p.1 p.2) ∧ ks.map (·.2) = TURNS
def StillAt (K : PySem.W.Frag) (mg : Str → Option Value) : Prop := ∃ a : Addr, mg "STILL" = some (.ref a) ∧ ∀ H, TupA K H a [0, 1, 2, 3, 4, 5]

/-- six numbers from 0 on -/
def Six (ns : List Int) : Prop := ns.length = 6 ∧ ∀ n ∈ ns, 0 ≤ n
theorem turn_six0 : ∀ t ∈ TURNS, t.length = 6 ∧ ∀ n ∈ t, 0 ≤ n := by decide +kernel
theorem turn_six {t : List Int} (h : t ∈ TURNS) : Six t := turn_six0 t h

section
variable {P : Program} {w : World} {K : PySem.W.Frag} {mg : Str → Option Value} {base : Heap}
theorem mkHas {k : Nat} {x : Str} {st : Stmt} {ps : List Str} {sp : Sp} (D : Df K mg x st ps) (h : ∀ f fd, Fun K x x st f fd → FnOk P w K mg base CX0 k f fd ps sp) : Has P w K mg base k x st ps sp := by
  obtain ⟨f, fd, F, m, b⟩ := D
  exact ⟨f, fd, F, m, b, h f fd F⟩

theorem yes_ {σ : L2.St} {H : Hp} {Q : Bool → Hp → Prop} (h : Q true H) : tYes σ H Q := h
/-! ### is_number -/
def spNum : Sp := fun vs H Q _ => ∃ n : Int, vs = [.int n] ∧ Q (.bl true) H
theorem scNum : FnScope ["thing"] ["thing"] (defScope sNum) := ⟨rfl, rfl, rfl, by decide +kernel, rfl, by decide +kernel, by decide +kernel⟩
theorem has_num (D : Df K mg "is_number" sNum ["thing"]) (T : Bl mg) : Has P w K mg base 1 "is_number" sNum ["thing"] spNum := mkHas D fun f fd F => by
  refine F.ok scNum (fun vs H Q E h => ?_) (fun cdv A outer s H vs Q E hr h => ?_)
  · obtain ⟨n, rfl, _⟩ := h
    rfl
  · obtain ⟨n, rfl, q⟩ := h
    refine ⟨_, pss_one (ps_ret (pe_and (pe_callB call_isi (by rfl) T.isinstance (by decide +kernel) (pa_cons (pv 0) (pa_cons (pe_bltn (v := .ty "int") (by rfl) T.int (by decide +kernel) rfl) pa_nil)))
      (pe_one (pe_not (pe_callB call_isi (by rfl) T.isinstance (by decide +kernel) (pa_cons (pv 0) (pa_cons (pe_bltn (v := .ty "bool") (by rfl) T.bool (by decide +kernel) rfl) pa_nil))))))), ?_⟩
    refine ⟨_, rfl, _, _, _, _, true, rfl, .ty _, .base (.int n), kit_ty (by decide +kernel), true, rfl, iteT ?_⟩
    exact ⟨_, rfl, _, _, _, _, false, rfl, .ty _, .base (.int n), kit_ty (by decide +kernel), false, rfl, q⟩

/-! ### are_six -/
def spSix (K : PySem.W.Frag) : Sp := fun vs H Q _ => ∃ (a : Addr) (ns : List Int), vs = [.ref a] ∧ TupA K H a ns ∧ Six ns ∧ ∀ H', Same H H' → Q (.bl true) H'
theorem scSix : FnScope ["thing", "one"] ["thing"] (defScope sSix) := ⟨rfl, rfl, rfl, by decide +kernel, rfl, by decide +kernel, by decide +kernel⟩
theorem map_get {α β : Type} {f : α → β} {l : List α} {i : Nat} {y : β} (h : (l.map f)[i]? = some y) : ∃ x, l[i]? = some x ∧ y = f x := by
  rw [List.getElem?_map] at h
  obtain ⟨x, h1, h2⟩ := Option.map_eq_some_iff.mp h
  exact ⟨x, h1, h2.symm⟩
theorem has_six (D : Df K mg "are_six" sSix ["thing"]) (T : Bl mg) (G : Has P w K mg base 1 "is_number" sNum ["thing"] spNum) : Has P w K mg base 2 "are_six" sSix ["thing"] (spSix K) := mkHas D fun f fd F => by
  obtain ⟨f1, fd1, F1, m1, b1, G1⟩ := G
  refine F.ok scSix (fun vs H Q E h => ?_) (fun cdv A outer s H vs Q E hr h => ?_)
  · obtain ⟨a, ns, rfl, _⟩ := h
    rfl
  · obtain ⟨a, ns, rfl, ha, ⟨h6, h0⟩, q⟩ := h
    refine ⟨_, pss_one (ps_ret (pe_and (pe_callB call_isi (by rfl) T.isinstance (by decide +kernel) (pa_cons (pv 0) (pa_cons (pe_bltn (v := .ty "tuple") (by rfl) T.tuple (by decide +kernel) rfl) pa_nil)))
      (pe_and (pe_cmpR op_eq (pe_callB call_len_seq (by rfl) T.len (by decide +kernel) (pa_cons (pv 0) pa_nil)) pe_int (nomark _))
      (pe_one (pe_callB (cr_all rfl) (by rfl) T.all (by decide +kernel) (pa_cons (pe_lc (own := [("one", 1)]) (g := gName 1) (tt := tYes) rfl scSix.nd (pi_tup (pv 0)) (blkOk_by (N := ["thing", "one"]) (sc := defScope sSix) (by decide +kernel))
        (fun _ _ _ _ _ => pg_name (i := 1) scSix.nd rfl (Or.inl rfl)) (fun _ _ _ _ _ => pts_nil)
        (fun _ _ _ _ _ => pe_and (pe_call G1 hr rfl m1 F1.kp b1 .nil pass0 (pa_cons (pv 1) pa_nil)) (pe_one (pe_cmpR op_ge (pv 1) pe_int (nomark _))))) pa_nil)))))), ?_⟩
    refine ⟨_, rfl, _, _, _, _, true, rfl, .ty _, tyT ha, kit_ty (by decide +kernel), true, rfl, iteT ?_⟩
    refine ⟨_, rfl, a, _, rfl, .inr ha, rfl, true, ?_, iteT ?_⟩
    · rw [List.length_map, h6]
      rfl
    refine ⟨_, rfl, a, rfl, ⟨_, ha⟩, fun D hD => ?_⟩
    refine lc_tup (K := K) (a := a) (xs := ns.map V.int) (fun i H' => Same H H' ∧ H' D = some (.lst (List.replicate i (V.bl true)))) ⟨Same.new hD, upd_same⟩ (fun i H' _ ⟨sm, _⟩ => Same.tup sm ha) ?_ ?_
    · rintro i x H' hx ⟨sm, hl⟩
      obtain ⟨n, hn, rfl⟩ := map_get hx
      have hi : i < 6 := h6 ▸ (List.getElem?_eq_some_iff.mp hn).1
      have hn0 := h0 n (List.mem_of_getElem? hn)
      refine ⟨rfl, yes_ (iteT ?_)⟩
      refine ⟨_, rfl, n, rfl, true, rfl, iteT ?_⟩
      refine ⟨_, rfl, _, _, rfl, rfl, List.replicate i (V.bl true), hl, ?_, ?_, ?_⟩
      · rw [List.length_replicate]
        exact small1000 (by omega)
      · refine fun b o e => ?_
        rw [upd_ne (ne_of_none e hD)]
        exact sm b o e
      · rw [upd_same]
        show some (HO.lst (List.replicate i (V.bl true) ++ [V.bl (decide (0 ≤ n))])) = _
        rw [decide_eq_true hn0, ← List.replicate_succ']
    · rintro H' ⟨sm, hl⟩
      rw [List.length_map] at hl
      refine ⟨D, List.replicate ns.length true, rfl, SqL.of (by rw [hl, List.map_replicate]), ?_⟩
      have e : (List.replicate ns.length true).all id = true := by simp
      rw [e]
      exact q H' sm

theorem hu65 {k : Nat} {A : Around} (r : Room k A) : A.units + 65 < cLine := by
  have := r.un
  omega
theorem hu64 {k : Nat} {A : Around} (r : Room k A) : A.units + 64 < cLine := r.units
theorem hu2 {k : Nat} {A : Around} (r : Room k A) : A.units + 2 < cLine := by
  have := r.un
  omega
theorem Same.next {H H' : Hp} {D : Addr} {o : HO} (hD : H D = Option.none) (e : Same H H') : Same H (upd H' D o) := fun b u h => by
  rw [upd_ne (ne_of_none h hD)]
  exact e b u h
/-- a tuple stays where a list is changed -/
theorem tup_upd {H : Hp} {D a : Addr} {ys : List V} {o : HO} {xs : List V} (hD : H D = some (.lst ys)) (h : SqT K H a xs) : SqT K (upd H D o) a xs := by
  rcases h with (h | ⟨u, h⟩) | h
  · exact .inl (.inl ((upd_ne (ne_of h hD (by intro z; cases z))).trans h))
  · exact .inl (.inr ⟨u, (upd_ne (ne_of h hD (by intro z; cases z))).trans h⟩)
  · exact .inr h
theorem LT.nil {H : Hp} {D : Addr} : LT K (upd H D (.lst [])) D [] := ⟨[], upd_same, fun _ h => by simp at h, rfl⟩
theorem KL.nil {H : Hp} {D : Addr} : KL K (upd H D (.lst [])) D [] := ⟨[], upd_same, fun _ h => by simp at h, rfl⟩
/-- one more tuple at the list's end -/
theorem LT.snoc {H : Hp} {D a : Addr} {ls : List (List Int)} {ns : List Int} (h : LT K H D ls) (ha : TupA K H a ns) : ∃ acc, H D = some (.lst acc) ∧ acc.length = ls.length ∧ LT K (upd H D (.lst (acc ++ [V.ref a]))) D (ls ++ [ns]) := by
  obtain ⟨ks, h1, h2, rfl⟩ := h
  refine ⟨refs ks, h1, by rw [List.length_map, List.length_map], ks ++ [(a, ns)], by rw [upd_same]; simp only [refs, List.map_append, List.map_cons, List.map_nil], fun p hp => ?_, by rw [List.map_append] <;> rfl⟩
  rcases List.mem_append.mp hp with hp | hp
  · exact tup_upd h1 (h2 p hp)
  · rw [List.mem_singleton.mp hp]
    exact tup_upd h1 ha
theorem KL.snoc {H : Hp} {D a : Addr} {ls : List (List Int)} {ns : List Int} (h : KL K H D ls) (ha : KTup K a ns) : ∃ acc, H D = some (.lst acc) ∧ acc.length = ls.length ∧ KL K (upd H D (.lst (acc ++ [V.ref a]))) D (ls ++ [ns]) := by
  obtain ⟨ks, h1, h2, rfl⟩ := h
  refine ⟨refs ks, h1, by rw [List.length_map, List.length_map], ks ++ [(a, ns)], by rw [upd_same]; simp only [refs, List.map_append, List.map_cons, List.map_nil], fun p hp => ?_, by rw [List.map_append] <;> rfl⟩
  rcases List.mem_append.mp hp with hp | hp
  · exact h2 p hp
  · rw [List.mem_singleton.mp hp]
    exact ha
theorem tk1 {α : Type} {l : List α} {i : Nat} {x : α} (h : l[i]? = some x) : l.take (i + 1) = l.take i ++ [x] := by rw [List.take_add_one, h] <;> rfl
theorem tkAll {α β : Type} {f : α → β} {l : List α} : l.take (l.map f).length = l := by rw [List.length_map, List.take_length]
theorem six_at {t : List Int} (h : t.length = 6) {k : Int} (h0 : 0 ≤ k) (h5 : k < 6) : atI (t.map V.int) k = some (V.int (t.getD k.toNat 0)) := by
  refine at_of (j := k.toNat) (by omega) ?_
  have hk : k.toNat < t.length := by omega
  rw [List.getElem?_map, List.getD_eq_getElem?_getD, List.getElem?_eq_getElem hk] <;> rfl
theorem side0 : ∀ t ∈ TURNS, ∀ k ∈ t, 0 ≤ k ∧ k < 6 := by decide +kernel

/-! ### after -/
def spAfter (K : PySem.W.Frag) : Sp := fun vs H Q _ => ∃ (a b : Addr) (s t : List Int), vs = [.ref a, .ref b] ∧ TupA K H a s ∧ TupA K H b t ∧ s ∈ TURNS ∧ t ∈ TURNS ∧ ∀ H' p, Same H H' → TupA K H' p (after s t) → Q (.ref p) H'
theorem scAft : FnScope ["one", "other", "side"] ["one", "other"] (defScope sAft) := ⟨rfl, rfl, rfl, by decide +kernel, rfl, by decide +kernel, by decide +kernel⟩
theorem has_after (D : Df K mg "after" sAft ["one", "other"]) (T : Bl mg) : Has P w K mg base 1 "after" sAft ["one", "other"] (spAfter K) := mkHas D fun f fd F => by
  refine F.ok scAft (fun vs H Q E h => ?_) (fun cdv A outer st H vs Q E hr h => ?_)
  · obtain ⟨a, b, s, t, rfl, _⟩ := h
    rfl
  · obtain ⟨a, b, s, t, rfl, ha, hb, hs, ht, q⟩ := h
    refine ⟨_, pss_one (ps_ret (pe_callTy call_tuple_of (by rfl) T.tuple (by decide +kernel) (pa_cons (pe_lc (own := [("side", 2)]) (g := gName 2) (tt := tYes) rfl scAft.nd (pi_tup (pv 0)) (blkOk_by (N := ["one", "other", "side"]) (sc := defScope sAft) (by decide +kernel))
      (fun _ _ _ _ _ => pg_name (i := 2) scAft.nd rfl (Or.inl rfl)) (fun _ _ _ _ _ => pts_nil) (fun _ _ _ _ _ => pe_ix (r := rIxT K) ix_tup (pv 1) (pv 2) (fun _ _ => rfl))) pa_nil))), ?_⟩
    refine ⟨_, rfl, a, rfl, ⟨_, ha⟩, fun D hD => ?_⟩
    have h6 := (turn_six hs).1
    refine lc_tup (K := K) (a := a) (xs := s.map V.int) (fun i H' => Same H H' ∧ H' D = some (.lst (((after s t).take i).map V.int))) ⟨Same.new hD, upd_same⟩ (fun i H' _ ⟨sm, _⟩ => Same.tup sm ha) ?_ ?_
    · rintro i x H' hx ⟨sm, hl⟩
      obtain ⟨n, hn, rfl⟩ := map_get hx
      have hb2 := side0 s hs n (List.mem_of_getElem? hn)
      have hi : i < 6 := h6 ▸ (List.getElem?_eq_some_iff.mp hn).1
      refine ⟨rfl, yes_ (iteT ?_)⟩
      refine ⟨_, rfl, _, rfl, b, _, n, _, rfl, rfl, Same.tup sm hb, six_at (turn_six ht).1 hb2.1 hb2.2, _, hl, ?_, Same.next hD sm, ?_⟩
      · rw [List.length_map, List.length_take]
        exact small1000 (by omega)
      · have e : (after s t)[i]? = some (t.getD n.toNat 0) := by
          unfold after
          rw [List.getElem?_map, hn] <;> rfl
        rw [upd_same, tk1 e, List.map_append] <;> rfl
    · rintro H' ⟨sm, hl⟩
      have e : (after s t).take (s.map V.int).length = after s t := by
        unfold after
        rw [List.length_map, ← List.length_map (fun k : Int => t.getD k.toNat 0), List.take_length]
      rw [e] at hl
      refine ⟨D, _, rfl, .inl ⟨SqL.of hl, fun p hp => ?_⟩⟩
      exact q _ p (sm.trans (Same.new hp)) TupA.new

/-! ### all_turns, turns -/
def spAllT (K : PySem.W.Frag) : Sp := fun vs H Q _ => vs = [] ∧ ∀ H' p, Same H H' → H p = none → KL K H' p TURNS → Q (.ref p) H'
theorem scAllT : FnScope [] [] (defScope sAllT) := ⟨rfl, rfl, rfl, by decide +kernel, rfl, by decide +kernel, by decide +kernel⟩
theorem has_allT (D : Df K mg "all_turns" sAllT []) (T : Bl mg) (B : TabAt K mg) : Has P w K mg base 1 "all_turns" sAllT [] (spAllT K) := mkHas D fun f fd F => by
  obtain ⟨aT, ks, mT, hT, hK, eT⟩ := B
  refine F.ok scAllT (fun vs H Q E h => ?_) (fun cdv A outer st H vs Q E hr h => ?_)
  · obtain ⟨rfl, _⟩ := h
    rfl
  · obtain ⟨rfl, q⟩ := h
    refine ⟨_, pss_one (ps_ret (pe_callTy call_list_of (by rfl) T.list (by decide +kernel) (pa_cons (pe_glob (v := .ref aT) (by rfl) mT rfl) pa_nil))), ?_⟩
    exact ⟨aT, _, rfl, .inr (hT H), fun p hp => q _ p (Same.new hp) hp ⟨ks, upd_same, hK, eT⟩⟩
theorem scTurns : FnScope [] [] (defScope sTurns) := ⟨rfl, rfl, rfl, by decide +kernel, rfl, by decide +kernel, by decide +kernel⟩
theorem has_turns (D : Df K mg "turns" sTurns []) (G : Has P w K mg base 1 "all_turns" sAllT [] (spAllT K)) : Has P w K mg base 2 "turns" sTurns [] (spAllT K) := mkHas D fun f fd F => by
  obtain ⟨f1, fd1, F1, m1, b1, G1⟩ := G
  refine F.ok scTurns (fun vs H Q E h => ?_) (fun cdv A outer st H vs Q E hr h => ?_)
  · obtain ⟨rfl, _⟩ := h
    rfl
  · obtain ⟨rfl, q⟩ := h
    exact ⟨_, pss_one (ps_ret (pe_call0 G1 hr (by rfl) m1 F1.kp b1 .nil pass0)), rfl, q⟩

/-! ### is_turn, must_be_turn -/
def spIsT (K : PySem.W.Frag) : Sp := fun vs H Q _ => ∃ (a : Addr) (t : List Int), vs = [.ref a] ∧ TupA K H a t ∧ t ∈ TURNS ∧ ∀ H', Same H H' → Q (.bl true) H'
def spMustT (K : PySem.W.Frag) : Sp := fun vs H Q _ => ∃ (a : Addr) (t : List Int), vs = [.ref a] ∧ TupA K H a t ∧ t ∈ TURNS ∧ ∀ H', Same H H' → Q .non H'
theorem scIsT : FnScope ["thing"] ["thing"] (defScope sIsT) := ⟨rfl, rfl, rfl, by decide +kernel, rfl, by decide +kernel, by decide +kernel⟩
theorem has_isT (D : Df K mg "is_turn" sIsT ["thing"]) (B : TabAt K mg) (G : Has P w K mg base 2 "are_six" sSix ["thing"] (spSix K)) : Has P w K mg base 3 "is_turn" sIsT ["thing"] (spIsT K) := mkHas D fun f fd F => by
  obtain ⟨f1, fd1, F1, m1, b1, G1⟩ := G
  obtain ⟨aT, ks, mT, hT, hK, eT⟩ := B
  refine F.ok scIsT (fun vs H Q E h => ?_) (fun cdv A outer st H vs Q E hr h => ?_)
  · obtain ⟨a, t, rfl, _⟩ := h
    rfl
  · obtain ⟨a, t, rfl, ha, ht, q⟩ := h
    refine ⟨_, pss_one (ps_ret (pe_and (pe_call G1 hr (by rfl) m1 F1.kp b1 .nil pass0 (pa_cons (pv 0) pa_nil)) (pe_one (pe_cmpR (op_inTT (hu65 hr)) (pv 0) (pe_glob (v := .ref aT) (by rfl) mT rfl) (by rfl))))), ?_⟩
    refine ⟨_, rfl, a, t, rfl, ha, turn_six ht, fun H' sm => ⟨true, rfl, iteT ?_⟩⟩
    refine ⟨_, rfl, a, aT, t, ks, rfl, rfl, Same.tup sm ha, hT H', fun p hp => (hK p hp).1 H', ?_⟩
    rw [eT, decide_eq_true ht]
    exact q H' sm
theorem scMustT : FnScope ["turn"] ["turn"] (defScope sMustT) := ⟨rfl, rfl, rfl, by decide +kernel, rfl, by decide +kernel, by decide +kernel⟩
theorem has_mustT (D : Df K mg "must_be_turn" sMustT ["turn"]) (G : Has P w K mg base 3 "is_turn" sIsT ["thing"] (spIsT K)) : Has P w K mg base 4 "must_be_turn" sMustT ["turn"] (spMustT K) := mkHas D fun f fd F => by
  obtain ⟨f1, fd1, F1, m1, b1, G1⟩ := G
  refine F.ok scMustT (fun vs H Q E h => ?_) (fun cdv A outer st H vs Q E hr h => ?_)
  · obtain ⟨a, t, rfl, _⟩ := h
    rfl
  · obtain ⟨a, t, rfl, ha, ht, q⟩ := h
    refine ⟨_, pss_one (ps_if (pt_not (pt_val (pe_call G1 hr (by rfl) m1 F1.kp b1 .nil pass0 (pa_cons (pv 0) pa_nil)))) pss_never pss_nil), ?_⟩
    exact ⟨_, rfl, a, t, rfl, ha, ht, fun H' sm => ⟨true, rfl, iteF (q H' sm)⟩⟩

/-! ### put_together, turned_back -/
theorem scPutT : FnScope ["one", "other"] ["one", "other"] (defScope sPutT) := ⟨rfl, rfl, rfl, by decide +kernel, rfl, by decide +kernel, by decide +kernel⟩
theorem has_putT (D : Df K mg "put_together" sPutT ["one", "other"]) (G : Has P w K mg base 4 "must_be_turn" sMustT ["turn"] (spMustT K)) (G' : Has P w K mg base 1 "after" sAft ["one", "other"] (spAfter K)) :
    Has P w K mg base 5 "put_together" sPutT ["one", "other"] (spAfter K) := mkHas D fun f fd F => by
  obtain ⟨f1, fd1, F1, m1, b1, G1⟩ := G
  obtain ⟨f2, fd2, F2, m2, b2, G2⟩ := G'
  refine F.ok scPutT (fun vs H Q E h => ?_) (fun cdv A outer st H vs Q E hr h => ?_)
  · obtain ⟨a, b, s, t, rfl, _⟩ := h
    rfl
  · obtain ⟨a, b, s, t, rfl, ha, hb, hs, ht, q⟩ := h
    refine ⟨_, pss_cons (ps_expr (pe_call G1 hr (by rfl) m1 F1.kp b1 .nil pass0 (pa_cons (pv 0) pa_nil))) (pss_cons (ps_expr (pe_call G1 hr (by rfl) m1 F1.kp b1 .nil pass0 (pa_cons (pv 1) pa_nil)))
      (pss_one (ps_ret (pe_call G2 (hr.mono (by decide)) (by rfl) m2 F2.kp b2 .nil pass0 (pa_cons (pv 0) (pa_cons (pv 1) pa_nil)))))), ?_⟩
    refine ⟨_, rfl, a, s, rfl, ha, hs, fun H1 s1 => ?_⟩
    refine ⟨_, rfl, b, t, rfl, Same.tup s1 hb, ht, fun H2 s2 => ?_⟩
    have s12 := s1.trans s2
    exact ⟨_, rfl, _, rfl, a, b, s, t, rfl, Same.tup s12 ha, Same.tup s12 hb, hs, ht, fun H3 p s3 h3 => q H3 p (s12.trans s3) h3⟩
def spBack (K : PySem.W.Frag) : Sp := fun vs H Q _ => ∃ (a : Addr) (t : List Int), vs = [.ref a] ∧ KTup K a t ∧ t ∈ TURNS ∧ ∀ H' p, Same H H' → TupA K H' p (back t) → Q (.ref p) H'
theorem idx0 : ∀ t ∈ TURNS, ∀ k ∈ [0, 1, 2, 3, 4, 5], t[t.findIdx (· == k)]? = some k ∧ ∀ m, m < t.findIdx (· == k) → t[m]? ≠ some k := by decide +kernel
theorem scBack : FnScope ["turn", "side"] ["turn"] (defScope sBack) := ⟨rfl, rfl, rfl, by decide +kernel, rfl, by decide +kernel, by decide +kernel⟩
theorem has_back (D : Df K mg "turned_back" sBack ["turn"]) (T : Bl mg) (B : StillAt K mg) (G : Has P w K mg base 4 "must_be_turn" sMustT ["turn"] (spMustT K)) : Has P w K mg base 5 "turned_back" sBack ["turn"] (spBack K) := mkHas D fun f fd F => by
  obtain ⟨f1, fd1, F1, m1, b1, G1⟩ := G
  obtain ⟨aS, mS, hS⟩ := B
  refine F.ok scBack (fun vs H Q E h => ?_) (fun cdv A outer st H vs Q E hr h => ?_)
  · obtain ⟨a, t, rfl, _⟩ := h
    rfl
  · obtain ⟨a, t, rfl, ⟨ha, hk⟩, ht, q⟩ := h
    refine ⟨_, pss_cons (ps_expr (pe_call G1 hr (by rfl) m1 F1.kp b1 .nil pass0 (pa_cons (pv 0) pa_nil))) (pss_one (ps_ret (pe_callTy call_tuple_of (by rfl) T.tuple (by decide +kernel) (pa_cons (pe_lc (own := [("side", 1)]) (g := gName 1) (tt := tYes) rfl scBack.nd
      (pi_tup (pe_glob (v := .ref aS) (by rfl) mS rfl)) (blkOk_by (N := ["turn", "side"]) (sc := defScope sBack) (by decide +kernel))
      (fun _ _ _ _ _ => pg_name (i := 1) scBack.nd rfl (Or.inl rfl)) (fun _ _ _ _ _ => pts_nil) (fun _ _ _ _ _ => show PE _ _ (tBM K "tuple" (rTupIdx K) (tVar 0) (tCons (tVar 1) tNil)) from pe_bm (r := rTupIdx K) PySem.F.plainAttrs_tuple PySem.F.slot_tuple_index PySem.F.type_tuple_index mt_tupIdx (pv 0) (pa_cons (pv 1) pa_nil))) pa_nil)))), ?_⟩
    refine ⟨_, rfl, a, t, rfl, ha H, ht, fun H1 s1 => ?_⟩
    refine ⟨aS, rfl, ⟨_, hS H1⟩, fun D hD => ?_⟩
    refine lc_tup (K := K) (a := aS) (xs := ([0, 1, 2, 3, 4, 5] : List Int).map V.int) (fun i H' => Same H1 H' ∧ H' D = some (.lst (((back t).take i).map V.int))) ⟨Same.new hD, upd_same⟩ (fun i H' _ _ => hS H') ?_ ?_
    · rintro i x H' hx ⟨sm, hl⟩
      obtain ⟨n, hn, rfl⟩ := map_get hx
      obtain ⟨e1, e2⟩ := idx0 t ht n (List.mem_of_getElem? hn)
      have hi : i < 6 := (List.getElem?_eq_some_iff.mp hn).1
      refine ⟨rfl, yes_ (iteT ?_)⟩
      refine ⟨_, rfl, .inr (.inl ⟨rfl, hk⟩), _, rfl, a, t, n, _, rfl, rfl, ha H', e1, e2, _, hl, ?_, Same.next hD sm, ?_⟩
      · rw [List.length_map, List.length_take]
        exact small1000 (by omega)
      · have e : (back t)[i]? = some (idxI t n) := by
          unfold back
          rw [List.getElem?_map, hn] <;> rfl
        rw [upd_same, tk1 e, List.map_append] <;> rfl
    · rintro H' ⟨sm, hl⟩
      have e : (back t).take (([0, 1, 2, 3, 4, 5] : List Int).map V.int).length = back t := rfl
      rw [e] at hl
      refine ⟨D, _, rfl, .inl ⟨SqL.of hl, fun p hp => ?_⟩⟩
      exact q _ p ((s1.trans sm).trans (Same.new hp)) TupA.new
end
end Cub

namespace Cub
open PySem PySem.Spec PyProof.Rows L2
section
variable {P : Program} {w : World} {K : PySem.W.Frag} {mg : Str → Option Value} {base : Heap}
/-! ### is_paints, must_be_paints -/
theorem scIsP : FnScope ["thing"] ["thing"] (defScope sIsP) := ⟨rfl, rfl, rfl, by decide +kernel, rfl, by decide +kernel, by decide +kernel⟩
theorem has_isP (D : Df K mg "is_paints" sIsP ["thing"]) (G : Has P w K mg base 2 "are_six" sSix ["thing"] (spSix K)) : Has P w K mg base 3 "is_paints" sIsP ["thing"] (spSix K) := mkHas D fun f fd F => by
  obtain ⟨f1, fd1, F1, m1, b1, G1⟩ := G
  refine F.ok scIsP (fun vs H Q E h => ?_) (fun cdv A outer st H vs Q E hr h => ?_)
  · obtain ⟨a, t, rfl, _⟩ := h
    rfl
  · obtain ⟨a, t, rfl, q⟩ := h
    exact ⟨_, pss_one (ps_ret (pe_call G1 hr (by rfl) m1 F1.kp b1 .nil pass0 (pa_cons (pv 0) pa_nil))), _, rfl, a, t, rfl, q⟩
def spMustP (K : PySem.W.Frag) : Sp := fun vs H Q _ => ∃ (a : Addr) (ns : List Int), vs = [.ref a] ∧ TupA K H a ns ∧ Six ns ∧ ∀ H', Same H H' → Q .non H'
theorem scMustP : FnScope ["paints"] ["paints"] (defScope sMustP) := ⟨rfl, rfl, rfl, by decide +kernel, rfl, by decide +kernel, by decide +kernel⟩
theorem has_mustP (D : Df K mg "must_be_paints" sMustP ["paints"]) (G : Has P w K mg base 3 "is_paints" sIsP ["thing"] (spSix K)) : Has P w K mg base 4 "must_be_paints" sMustP ["paints"] (spMustP K) := mkHas D fun f fd F => by
  obtain ⟨f1, fd1, F1, m1, b1, G1⟩ := G
  refine F.ok scMustP (fun vs H Q E h => ?_) (fun cdv A outer st H vs Q E hr h => ?_)
  · obtain ⟨a, t, rfl, _⟩ := h
    rfl
  · obtain ⟨a, t, rfl, ha, ht, q⟩ := h
    refine ⟨_, pss_one (ps_if (pt_not (pt_val (pe_call G1 hr (by rfl) m1 F1.kp b1 .nil pass0 (pa_cons (pv 0) pa_nil)))) pss_never pss_nil), ?_⟩
    exact ⟨_, rfl, a, t, rfl, ha, ht, fun H' sm => ⟨true, rfl, iteF (q H' sm)⟩⟩

/-! ### turned_by -/
def spBy (K : PySem.W.Frag) : Sp := fun vs H Q _ => ∃ (a b : Addr) (p t : List Int), vs = [.ref a, .ref b] ∧ TupA K H a p ∧ TupA K H b t ∧ p.length = 6 ∧ t ∈ TURNS ∧ ∀ H' r, Same H H' → TupA K H' r (tb p t) → Q (.ref r) H'
theorem put_snoc : ∀ (xs found : List Int) (ks : List Int) (x k : Int), xs.length = ks.length → put found (xs ++ [x]) (ks ++ [k]) = (put found xs ks).set k.toNat x
  | [], found, [], x, k, _ => rfl
  | [], found, _ :: _, x, k, h => by simp at h
  | _ :: _, found, [], x, k, h => by simp at h
  | y :: xs, found, l :: ks, x, k, h => put_snoc xs (found.set l.toNat y) ks x k (by simpa using h)
theorem put_take {p t : List Int} (hp : p.length = 6) (ht : t.length = 6) {i : Nat} {x k : Int} (hx : p[i]? = some x) (hk : t[i]? = some k) : put p (p.take (i + 1)) (t.take (i + 1)) = (put p (p.take i) (t.take i)).set k.toNat x := by
  rw [tk1 hx, tk1 hk]
  exact put_snoc _ _ _ _ _ (by rw [List.length_take, List.length_take, hp, ht])
theorem scBy : FnScope ["paints", "turn", "found", "paint", "side"] ["paints", "turn"] (defScope sBy) := ⟨rfl, rfl, rfl, by decide +kernel, rfl, by decide +kernel, by decide +kernel⟩
theorem has_by (D : Df K mg "turned_by" sBy ["paints", "turn"]) (T : Bl mg) : Has P w K mg base 1 "turned_by" sBy ["paints", "turn"] (spBy K) := mkHas D fun f fd F => by
  refine F.ok scBy (fun vs H Q E h => ?_) (fun cdv A outer st H vs Q E hr h => ?_)
  · obtain ⟨a, b, p, t, rfl, _⟩ := h
    rfl
  · obtain ⟨a, b, p, t, rfl, ha, hb, hp, ht, q⟩ := h
    have h6 := (turn_six ht).1
    refine ⟨_, pss_cons (ps_set (i := 2) scBy.nd rfl (Or.inl rfl) (pe_callTy call_list_of (by rfl) T.list (by decide +kernel) (pa_cons (pv 0) pa_nil)))
      (pss_cons (ps_for PassesOwn.never rfl (RZ.pi_zipA (by rfl) T.zip (pa_cons (pv 0) (pa_cons (pv 1) pa_nil))) (pg_tup rfl (pgs_cons (pg_name (i := 3) scBy.nd rfl (Or.inl rfl)) (pgs_cons (pg_name (i := 4) scBy.nd rfl (Or.inl rfl)) pgs_nil)))
        (pss_one (ps_asg (pv 3) (pg_sub (pv 2) (pv 4) set_list))))
      (pss_one (ps_ret (pe_callTy call_tuple_of (by rfl) T.tuple (by decide +kernel) (pa_cons (pv 2) pa_nil))))), ?_⟩
    refine ⟨_, rfl, a, _, rfl, .inr ha, fun l hl => ?_⟩
    have s0 : Same H (upd H l (.lst (p.map V.int))) := Same.new hl
    refine ⟨_, rfl, _, rfl, a, b, _, _, rfl, .inr ⟨Same.tup s0 ha, Same.tup s0 hb, ?_⟩⟩
    refine RZ.for_zipT (K := K) (a := a) (b := b) (xs := p.map V.int) (ys := t.map V.int) (by rw [List.length_map, List.length_map, hp, h6])
      (fun i σ H' => ∃ u v, σ = [some (.ref a), some (.ref b), some (.ref l), u, v] ∧ Same H H' ∧ H' l = some (.lst ((put p (p.take i) (t.take i)).map V.int))) ⟨none, none, rfl, s0, upd_same⟩
      (fun i σ H' ⟨_, _, _, sm, _⟩ => ⟨Same.tup sm ha, Same.tup sm hb⟩) ?_ ?_
    · rintro i x y Tp σ H' hx hy ⟨u, v, rfl, sm, hL⟩ hT
      obtain ⟨n, hn, rfl⟩ := map_get hx
      obtain ⟨k, hk, rfl⟩ := map_get hy
      have hk6 := side0 t ht k (List.mem_of_getElem? hk)
      have nl : l ≠ Tp := ne_of_none hL hT
      refine ⟨Tp, _, rfl, SqT.of upd_same, rfl, _, _, rfl, _, _, rfl, rfl, ?_⟩
      refine ⟨_, rfl, _, rfl, _, rfl, l, _, k, k.toNat, rfl, rfl, (upd_ne nl).trans hL, ?_, ?_⟩
      · rw [List.length_map, put_len, hp]
        unfold ixN
        rw [if_pos hk6.1, if_pos (by omega)]
      · refine ⟨_, _, rfl, ?_, ?_⟩
        · refine Same.next hl fun c o e => ?_
          rw [upd_ne (ne_of_none (sm c o e) hT)]
          exact sm c o e
        · rw [upd_same, put_take hp h6 hn hk, List.map_set]
    · rintro σ H' ⟨u, v, rfl, sm, hL⟩
      have e1 : p.take (p.map V.int).length = p := tkAll
      have e2 : t.take (p.map V.int).length = t := by rw [List.length_map, hp, ← h6, List.take_length]
      rw [e1, e2] at hL
      exact ⟨_, rfl, l, _, rfl, .inl ⟨SqL.of hL, fun r hr => q _ r (sm.trans (Same.new hr)) TupA.new⟩⟩

/-! ### all_looks -/
def spLooksA (K : PySem.W.Frag) : Sp := fun vs H Q _ => ∃ (a : Addr) (p : List Int), vs = [.ref a] ∧ TupA K H a p ∧ p.length = 6 ∧ ∀ H' r, Same H H' → H r = none → LT K H' r (allL p) → Q (.ref r) H'
theorem scLooksA : FnScope ["paints", "turn"] ["paints"] (defScope sLooksA) := ⟨rfl, rfl, rfl, by decide +kernel, rfl, by decide +kernel, by decide +kernel⟩
theorem snd_at {ks : List (Addr × List Int)} {ls : List (List Int)} (h : ks.map (·.2) = ls) {i : Nat} {x : V} (hx : (refs ks)[i]? = some x) : ∃ p, ks[i]? = some p ∧ x = V.ref p.1 ∧ ls[i]? = some p.2 := by
  obtain ⟨p, hp, rfl⟩ := map_get hx
  exact ⟨p, hp, rfl, by rw [← h, List.getElem?_map, hp] <;> rfl⟩
theorem snd_len {ks : List (Addr × List Int)} {ls : List (List Int)} (h : ks.map (·.2) = ls) : (refs ks).length = ls.length := by rw [← h, List.length_map, List.length_map]
theorem turns_len : TURNS.length = 24 := rfl
theorem has_looksA (D : Df K mg "all_looks" sLooksA ["paints"]) (G : Has P w K mg base 1 "all_turns" sAllT [] (spAllT K)) (G' : Has P w K mg base 1 "turned_by" sBy ["paints", "turn"] (spBy K)) :
    Has P w K mg base 2 "all_looks" sLooksA ["paints"] (spLooksA K) := mkHas D fun f fd F => by
  obtain ⟨f1, fd1, F1, m1, b1, G1⟩ := G
  obtain ⟨f2, fd2, F2, m2, b2, G2⟩ := G'
  refine F.ok scLooksA (fun vs H Q E h => ?_) (fun cdv A outer st H vs Q E hr h => ?_)
  · obtain ⟨a, p, rfl, _⟩ := h
    rfl
  · obtain ⟨a, p, rfl, ha, hp, q⟩ := h
    refine ⟨_, pss_one (ps_ret (pe_lc (own := [("turn", 1)]) (g := gName 1) (tt := tYes) rfl scLooksA.nd (pi_list (pe_call0 G1 hr (by rfl) m1 F1.kp b1 .nil pass0)) (blkOk_by (N := ["paints", "turn"]) (sc := defScope sLooksA) (by decide +kernel))
      (fun _ _ _ _ _ => pg_name (i := 1) scLooksA.nd rfl (Or.inl rfl)) (fun _ _ _ _ _ => pts_nil) (fun _ _ _ _ _ => pe_call G2 hr (by rfl) m2 F2.kp b2 .nil pass0 (pa_cons (pv 0) (pa_cons (pv 1) pa_nil))))), ?_⟩
    refine ⟨rfl, fun H1 r s1 hr1 hL => ?_⟩
    obtain ⟨ks, hks, hK, eK⟩ := id hL
    refine ⟨r, rfl, ⟨_, SqL.of hks⟩, fun D hD => ?_⟩
    refine lc_list (K := K) (a := r) (xs := refs ks) (fun i H' => Same H1 H' ∧ LT K H' D ((TURNS.take i).map (tb p))) ⟨Same.new hD, LT.nil⟩ (fun i H' _ ⟨sm, _⟩ => sm.seq (SqL.of hks)) ?_ ?_
    · rintro i x H' hx ⟨sm, hl⟩
      obtain ⟨k, hk, rfl, ht⟩ := snd_at eK hx
      have htm := List.mem_of_getElem? ht
      have hi : i < 24 := (List.getElem?_eq_some_iff.mp ht).1
      refine ⟨rfl, yes_ (iteT ?_)⟩
      refine ⟨_, rfl, _, rfl, a, k.1, p, k.2, rfl, Same.tup (s1.trans sm) ha, (hK k (List.mem_of_getElem? hk)).1 H', hp, htm, fun H2 y s2 hy => ?_⟩
      obtain ⟨acc, e1, e2, e3⟩ := LT.snoc (Same.lt s2 hl) hy
      refine ⟨acc, e1, ?_, Same.next hD (sm.trans s2), ?_⟩
      · rw [e2, List.length_map, List.length_take]
        exact small1000 (by omega)
      · rw [tk1 ht, List.map_append]
        exact e3
    · rintro H' ⟨sm, hl⟩
      rw [snd_len eK, List.take_length] at hl
      exact q H' D (s1.trans sm) (s1.free hD) hl

/-! ### turned -/
theorem scTurned : FnScope ["paints", "turn"] ["paints", "turn"] (defScope sTurned) := ⟨rfl, rfl, rfl, by decide +kernel, rfl, by decide +kernel, by decide +kernel⟩
def spTurned (K : PySem.W.Frag) : Sp := fun vs H Q _ => ∃ (a b : Addr) (p t : List Int), vs = [.ref a, .ref b] ∧ TupA K H a p ∧ TupA K H b t ∧ Six p ∧ t ∈ TURNS ∧ ∀ H' r, Same H H' → TupA K H' r (tb p t) → Q (.ref r) H'
theorem has_turned (D : Df K mg "turned" sTurned ["paints", "turn"]) (G : Has P w K mg base 4 "must_be_paints" sMustP ["paints"] (spMustP K)) (G' : Has P w K mg base 4 "must_be_turn" sMustT ["turn"] (spMustT K))
    (G'' : Has P w K mg base 1 "turned_by" sBy ["paints", "turn"] (spBy K)) : Has P w K mg base 5 "turned" sTurned ["paints", "turn"] (spTurned K) := mkHas D fun f fd F => by
  obtain ⟨f1, fd1, F1, m1, b1, G1⟩ := G
  obtain ⟨f2, fd2, F2, m2, b2, G2⟩ := G'
  obtain ⟨f3, fd3, F3, m3, b3, G3⟩ := G''
  refine F.ok scTurned (fun vs H Q E h => ?_) (fun cdv A outer st H vs Q E hr h => ?_)
  · obtain ⟨a, b, p, t, rfl, _⟩ := h
    rfl
  · obtain ⟨a, b, p, t, rfl, ha, hb, hp, ht, q⟩ := h
    refine ⟨_, pss_cons (ps_expr (pe_call G1 hr (by rfl) m1 F1.kp b1 .nil pass0 (pa_cons (pv 0) pa_nil))) (pss_cons (ps_expr (pe_call G2 hr (by rfl) m2 F2.kp b2 .nil pass0 (pa_cons (pv 1) pa_nil)))
      (pss_one (ps_ret (pe_call G3 (hr.mono (by decide)) (by rfl) m3 F3.kp b3 .nil pass0 (pa_cons (pv 0) (pa_cons (pv 1) pa_nil)))))), ?_⟩
    refine ⟨_, rfl, a, p, rfl, ha, hp, fun H1 s1 => ?_⟩
    refine ⟨_, rfl, b, t, rfl, Same.tup s1 hb, ht, fun H2 s2 => ?_⟩
    have s12 := s1.trans s2
    exact ⟨_, rfl, _, rfl, a, b, p, t, rfl, Same.tup s12 ha, Same.tup s12 hb, hp.1, ht, fun H3 r s3 h3 => q H3 r (s12.trans s3) h3⟩

/-! ### least_of, least_paints -/
def spLeast (K : PySem.W.Frag) : Sp := fun vs H Q _ => ∃ (a : Addr) (p : List Int), vs = [.ref a] ∧ TupA K H a p ∧ Six p ∧ ∀ H' r m, Same H H' → Least p m → TupA K H' r m → Q (.ref r) H'
theorem scLeastO : FnScope ["paints"] ["paints"] (defScope sLeastO) := ⟨rfl, rfl, rfl, by decide +kernel, rfl, by decide +kernel, by decide +kernel⟩
theorem has_leastO (D : Df K mg "least_of" sLeastO ["paints"]) (T : Bl mg) (G : Has P w K mg base 2 "all_looks" sLooksA ["paints"] (spLooksA K)) : Has P w K mg base 3 "least_of" sLeastO ["paints"] (spLeast K) := mkHas D fun f fd F => by
  obtain ⟨f1, fd1, F1, m1, b1, G1⟩ := G
  refine F.ok scLeastO (fun vs H Q E h => ?_) (fun cdv A outer st H vs Q E hr h => ?_)
  · obtain ⟨a, t, rfl, _⟩ := h
    rfl
  · obtain ⟨a, p, rfl, ha, hp, q⟩ := h
    refine ⟨_, pss_one (ps_ret (pe_callB (cr_minT rfl (hu2 hr)) (by rfl) T.min (by decide +kernel) (pa_cons (pe_call G1 hr (by rfl) m1 F1.kp b1 .nil pass0 (pa_cons (pv 0) pa_nil)) pa_nil))), ?_⟩
    refine ⟨_, rfl, a, p, rfl, ha, hp.1, fun H1 r s1 hr1 hL => ?_⟩
    obtain ⟨ks, hks, hA, eK⟩ := hL
    have mem : ∀ x, x ∈ allL p ↔ ∃ k ∈ ks, k.2 = x := fun x => by
      rw [← eK, List.mem_map]
    refine ⟨r, ks, 6, rfl, SqL.of hks, hA, ?_, fun k hk => allL_len hp.1 ((mem _).mpr ⟨k, hk, rfl⟩), fun k hk hmin => ?_⟩
    · rintro rfl
      have z := snd_len eK
      have z : (0 : Nat) = 24 := z
      exact absurd z (by decide)
    · refine q H1 k.1 k.2 s1 ⟨(mem _).mpr ⟨k, hk, rfl⟩, fun x hx => ?_⟩ (hA k hk)
      obtain ⟨j, hj, rfl⟩ := (mem x).mp hx
      exact hmin j hj
theorem scLeastP : FnScope ["paints"] ["paints"] (defScope sLeastP) := ⟨rfl, rfl, rfl, by decide +kernel, rfl, by decide +kernel, by decide +kernel⟩
theorem has_leastP (D : Df K mg "least_paints" sLeastP ["paints"]) (G : Has P w K mg base 4 "must_be_paints" sMustP ["paints"] (spMustP K)) (G' : Has P w K mg base 3 "least_of" sLeastO ["paints"] (spLeast K)) :
    Has P w K mg base 5 "least_paints" sLeastP ["paints"] (spLeast K) := mkHas D fun f fd F => by
  obtain ⟨f1, fd1, F1, m1, b1, G1⟩ := G
  obtain ⟨f2, fd2, F2, m2, b2, G2⟩ := G'
  refine F.ok scLeastP (fun vs H Q E h => ?_) (fun cdv A outer st H vs Q E hr h => ?_)
  · obtain ⟨a, t, rfl, _⟩ := h
    rfl
  · obtain ⟨a, p, rfl, ha, hp, q⟩ := h
    refine ⟨_, pss_cons (ps_expr (pe_call G1 hr (by rfl) m1 F1.kp b1 .nil pass0 (pa_cons (pv 0) pa_nil))) (pss_one (ps_ret (pe_call G2 (hr.mono (by decide)) (by rfl) m2 F2.kp b2 .nil pass0 (pa_cons (pv 0) pa_nil)))), ?_⟩
    refine ⟨_, rfl, a, p, rfl, ha, hp, fun H1 s1 => ?_⟩
    exact ⟨_, rfl, a, p, rfl, Same.tup s1 ha, hp, fun H' r m s2 hm hr2 => q H' r m (s1.trans s2) hm hr2⟩

/-! ### mirrored -/
def spMir (K : PySem.W.Frag) : Sp := fun vs H Q _ => ∃ (a : Addr) (p : List Int), vs = [.ref a] ∧ TupA K H a p ∧ Six p ∧ ∀ H' r, Same H H' → TupA K H' r (mir p) → Q (.ref r) H'
theorem scMir : FnScope ["paints"] ["paints"] (defScope sMir) := ⟨rfl, rfl, rfl, by decide +kernel, rfl, by decide +kernel, by decide +kernel⟩
theorem has_mir (D : Df K mg "mirrored" sMir ["paints"]) (G : Has P w K mg base 4 "must_be_paints" sMustP ["paints"] (spMustP K)) : Has P w K mg base 5 "mirrored" sMir ["paints"] (spMir K) := mkHas D fun f fd F => by
  obtain ⟨f1, fd1, F1, m1, b1, G1⟩ := G
  refine F.ok scMir (fun vs H Q E h => ?_) (fun cdv A outer st H vs Q E hr h => ?_)
  · obtain ⟨a, t, rfl, _⟩ := h
    rfl
  · obtain ⟨a, p, rfl, ha, hp, q⟩ := h
    refine ⟨_, pss_cons (ps_expr (pe_call G1 hr (by rfl) m1 F1.kp b1 .nil pass0 (pa_cons (pv 0) pa_nil)))
      (pss_one (ps_ret (pe_op op_catT (pe_slice sl_tup (pv 0) po_none (po_some pe_int)) (pe_tup (pa_cons (pe_ix ix_tup (pv 0) pe_int (fun _ _ => rfl)) (pa_cons (pe_ix ix_tup (pv 0) pe_int (fun _ _ => rfl)) pa_nil)))))), ?_⟩
    refine ⟨_, rfl, a, p, rfl, ha, hp, fun H1 s1 => ?_⟩
    have h1 := Same.tup s1 ha
    obtain ⟨h6, h0⟩ := hp
    match p, h6, ha, h1, q with
    | [x0, x1, x2, x3, x4, x5], _, ha, h1, q =>
      refine ⟨_, rfl, 4, rfl, a, _, rfl, h1, (fun z => absurd z.2 (show ¬ ((if (4 : Int) < 0 then ((4 : Int) + ((6 : Nat) : Int)).toNat else min (4 : Int).toNat 6) = 6) by decide)), fun s hs => ?_⟩
      have s2 : Same H1 (upd H1 s (.tup (cutV ([x0, x1, x2, x3, x4, x5].map V.int) none (some 4)))) := Same.new hs
      refine ⟨_, rfl, a, _, 5, V.int x5, rfl, rfl, Same.tup s2 h1, rfl, _, rfl, a, _, 4, V.int x4, rfl, rfl, Same.tup s2 h1, rfl, (by show 2 ≤ sizeLine; decide), fun u hu => ?_⟩
      refine ⟨s, u, [V.int x0, V.int x1, V.int x2, V.int x3], [V.int x5, V.int x4], rfl, rfl, SqT.of ((upd_ne (ne_of_none upd_same hu)).trans upd_same), SqT.of upd_same, (by simp), (by show 6 ≤ sizeLine; decide), (by simp), fun _ r hr => ?_⟩
      exact q _ r (((s1.trans s2).trans (Same.new hu)).trans (Same.new hr)) (TupA.new (ns := [x0, x1, x2, x3, x5, x4]))

/-! ### leaving -/
def spLeav (K : PySem.W.Frag) : Sp := fun vs H Q _ => ∃ (a : Addr) (p : List Int), vs = [.ref a] ∧ TupA K H a p ∧ Six p ∧ ∀ H' r, Same H H' → H r = none → KL K H' r (stay p) → Q (.ref r) H'
theorem scLeav : FnScope ["paints", "turn"] ["paints"] (defScope sLeav) := ⟨rfl, rfl, rfl, by decide +kernel, rfl, by decide +kernel, by decide +kernel⟩
theorem has_leav (D : Df K mg "leaving" sLeav ["paints"]) (G : Has P w K mg base 4 "must_be_paints" sMustP ["paints"] (spMustP K)) (G' : Has P w K mg base 1 "all_turns" sAllT [] (spAllT K))
    (G'' : Has P w K mg base 1 "turned_by" sBy ["paints", "turn"] (spBy K)) : Has P w K mg base 5 "leaving" sLeav ["paints"] (spLeav K) := mkHas D fun f fd F => by
  obtain ⟨f1, fd1, F1, m1, b1, G1⟩ := G
  obtain ⟨f2, fd2, F2, m2, b2, G2⟩ := G'
  obtain ⟨f3, fd3, F3, m3, b3, G3⟩ := G''
  refine F.ok scLeav (fun vs H Q E h => ?_) (fun cdv A outer st H vs Q E hr h => ?_)
  · obtain ⟨a, p, rfl, _⟩ := h
    rfl
  · obtain ⟨a, p, rfl, ha, hp, q⟩ := h
    refine ⟨_, pss_cons (ps_expr (pe_call G1 hr (by rfl) m1 F1.kp b1 .nil pass0 (pa_cons (pv 0) pa_nil)))
      (pss_one (ps_ret (pe_lc (own := [("turn", 1)]) (g := gName 1) rfl scLeav.nd (pi_list (pe_call0 G2 (hr.mono (by decide)) (by rfl) m2 F2.kp b2 .nil pass0)) (blkOk_by (N := ["paints", "turn"]) (sc := defScope sLeav) (by decide +kernel))
      (fun _ _ _ _ _ => pg_name (i := 1) scLeav.nd rfl (Or.inl rfl))
      (fun _ _ _ _ _ => pts_one (pt_cmpR (r := rTT K id) (op_eqTT (hu64 hr)) (pe_call G3 (hr.mono (by decide)) (by rfl) m3 F3.kp b3 .nil pass0 (pa_cons (pv 0) (pa_cons (pv 1) pa_nil))) (pv 0) (nomark _))) (fun _ _ _ _ _ => pv 1)))), ?_⟩
    refine ⟨_, rfl, a, p, rfl, ha, hp, fun H0 s0 => ?_⟩
    refine ⟨rfl, fun H1 r s1 hr1 hL => ?_⟩
    obtain ⟨ks, hks, hK, eK⟩ := id hL
    have s01 := s0.trans s1
    refine ⟨r, rfl, ⟨_, SqL.of hks⟩, fun D hD => ?_⟩
    refine lc_list (K := K) (a := r) (xs := refs ks) (fun i H' => Same H1 H' ∧ KL K H' D ((TURNS.take i).filter fun t => tb p t == p)) ⟨Same.new hD, KL.nil⟩ (fun i H' _ ⟨sm, _⟩ => sm.seq (SqL.of hks)) ?_ ?_
    · rintro i x H' hx ⟨sm, hl⟩
      obtain ⟨k, hk, rfl, ht⟩ := snd_at eK hx
      have htm := List.mem_of_getElem? ht
      have hi : i < 24 := (List.getElem?_eq_some_iff.mp ht).1
      have hkt := hK k (List.mem_of_getElem? hk)
      refine ⟨rfl, ?_⟩
      refine ⟨_, rfl, _, rfl, a, k.1, p, k.2, rfl, Same.tup (s01.trans sm) ha, hkt.1 H', hp.1, htm, fun H2 y s2 hy => ?_⟩
      refine ⟨_, rfl, y, a, tb p k.2, p, rfl, rfl, hy, Same.tup ((s01.trans sm).trans s2) ha, _, rfl, ?_⟩
      refine ite2 (fun hc => ?_) (fun hc => ?_)
      · have hc : tb p k.2 = p := of_decide_eq_true hc
        obtain ⟨acc, e1, e2, e3⟩ := KL.snoc (Same.kl s2 hl) hkt
        refine ⟨_, rfl, acc, e1, ?_, Same.next hD (sm.trans s2), ?_⟩
        · have e4 := List.length_filter_le (fun t => tb p t == p) (TURNS.take i)
          rw [List.length_take, turns_len] at e4
          rw [e2]
          exact small1000 (by omega)
        · rw [tk1 ht, List.filter_append, List.filter_cons, if_pos (by rw [hc]; exact beq_self_eq_true _)]
          exact e3
      · have hc : ¬ tb p k.2 = p := fun z => hc (decide_eq_true z)
        refine ⟨sm.trans s2, ?_⟩
        rw [tk1 ht, List.filter_append, List.filter_cons, if_neg (by rw [beq_iff_eq]; exact hc), List.filter_nil, List.append_nil]
        exact Same.kl s2 hl
    · rintro H' ⟨sm, hl⟩
      rw [snd_len eK, List.take_length] at hl
      exact q H' D (s01.trans sm) (s01.free hD) hl

/-! ### looks -/
def spLooks (K : PySem.W.Frag) : Sp := fun vs H Q _ => ∃ (a : Addr) (p : List Int), vs = [.ref a] ∧ TupA K H a p ∧ Six p ∧ ∀ H' r l, Same H H' → H r = none → Looks p l → LT K H' r l → Q (.ref r) H'
theorem scLooks : FnScope ["paints"] ["paints"] (defScope sLooks) := ⟨rfl, rfl, rfl, by decide +kernel, rfl, by decide +kernel, by decide +kernel⟩
/-- what sorted hands back rises as tuples do -/
theorem rising_of {B : Int} {L : List (Addr × List Int)} (hn : (L.map (·.2)).Nodup) (hd : ∀ p ∈ L, p.2.length = 6 ∧ TS.Bd B p.2) (h : L.Pairwise fun q r => TS.code B q.2 ≤ TS.code B r.2) : (L.map (·.2)).Pairwise lt := by
  have hn2 : L.Pairwise fun q r => q.2 ≠ r.2 := List.pairwise_map.mp hn
  rw [List.pairwise_map]
  exact List.Pairwise.imp_of_mem (fun {q r} hq hr z => lt_of_code ((hd q hq).1.trans (hd r hr).1.symm) (hd q hq).2 (hd r hr).2 z.2 z.1) (hn2.and h)
theorem has_looks (D : Df K mg "looks" sLooks ["paints"]) (T : Bl mg) (G : Has P w K mg base 4 "must_be_paints" sMustP ["paints"] (spMustP K)) (G' : Has P w K mg base 2 "all_looks" sLooksA ["paints"] (spLooksA K)) :
    Has P w K mg base 5 "looks" sLooks ["paints"] (spLooks K) := mkHas D fun f fd F => by
  obtain ⟨f1, fd1, F1, m1, b1, G1⟩ := G
  obtain ⟨f2, fd2, F2, m2, b2, G2⟩ := G'
  refine F.ok scLooks (fun vs H Q E h => ?_) (fun cdv A outer st H vs Q E hr h => ?_)
  · obtain ⟨a, p, rfl, _⟩ := h
    rfl
  · obtain ⟨a, p, rfl, ha, hp, q⟩ := h
    refine ⟨_, pss_cons (ps_expr (pe_call G1 hr (by rfl) m1 F1.kp b1 .nil pass0 (pa_cons (pv 0) pa_nil)))
      (pss_one (ps_ret (pe_callB (cr_sortedT rfl) (by rfl) T.sorted (by decide +kernel) (pa_cons (pe_callTy (cr_setOfT rfl (hu64 hr)) (by rfl) T.set (by decide +kernel) (pa_cons (pe_call G2 (hr.mono (by decide)) (by rfl) m2 F2.kp b2 .nil pass0 (pa_cons (pv 0) pa_nil)) pa_nil)) pa_nil)))), ?_⟩
    refine ⟨_, rfl, a, p, rfl, ha, hp, fun H0 s0 => ?_⟩
    refine ⟨_, rfl, a, p, rfl, Same.tup s0 ha, hp.1, fun H1 r s1 hr1 hL => ?_⟩
    obtain ⟨ks, hks, hA, eK⟩ := hL
    have s01 := s0.trans s1
    have len : ks.length = 24 := by
      have z := congrArg List.length eK
      rw [List.length_map] at z
      exact z
    have mem : ∀ x, x ∈ allL p ↔ ∃ k ∈ ks, k.2 = x := fun x => by
      rw [← eK, List.mem_map]
    obtain ⟨B, hB⟩ := bd_of p hp.2
    have good : ∀ k ∈ ks, k.2.length = 6 ∧ TS.Bd B k.2 := fun k hk => by
      have hm := (mem k.2).mpr ⟨k, hk, rfl⟩
      refine ⟨allL_len hp.1 hm, fun x hx => ?_⟩
      obtain ⟨t, _, e⟩ := mem_allL.mp hm
      rw [← e] at hx
      exact hB x (tb_mem hx)
    refine ⟨r, ks, rfl, SqL.of hks, hA, by omega, fun u L hu hL1 hL2 => ?_⟩
    have s2 : Same H1 (upd H1 u (SetTO P w u L)) := Same.new hu
    refine ⟨u, L, 6, B, rfl, upd_same, fun k hk => Same.tup s2 (hA k (hL1 k hk)), by decide, fun k hk => good k (hL1 k hk), fun L' v pm nd few pw hv => ?_⟩
    have inK : ∀ k ∈ L', k ∈ ks := fun k hk => hL1 k (pm.mem_iff.mp hk)
    have s3 := s2.trans (Same.new (o := .lst (L'.map fun q => V.ref q.1)) hv)
    refine q _ v (L'.map (·.2)) (s01.trans s3) ((s01.trans s2).free hv) ⟨rising_of nd (fun k hk => good k (inK k hk)) pw, fun x => ?_⟩ ⟨L', upd_same, fun k hk => Same.tup s3 (hA k (inK k hk)), rfl⟩
    rw [mem x, List.mem_map]
    constructor
    · rintro ⟨k, hk, rfl⟩
      exact ⟨k, inK k hk, rfl⟩
    · rintro ⟨k, hk, rfl⟩
      obtain ⟨j, hj, e⟩ := List.mem_map.mp (hL2 k hk)
      exact ⟨j, pm.mem_iff.mpr hj, e⟩
end
end Cub

namespace Cub
open PySem PySem.Spec PyProof.Rows L2
/-! ### a cut: what holds between two statements -/
def tMid (t u : TS) : TS := fun D σ H => ∃ Mid : L2.St → Hp → Prop, t { D with nx := Mid } σ H ∧ ∀ σ' H', Mid σ' H' → u D σ' H'
theorem pss_mid {X : Cx} {st : Stmt} {rest : List Stmt} {t u : TS} (h1 : PS X st t) (h2 : PSs X rest u) : PSs X (st :: rest) (tMid t u) := by
  refine ⟨fun pins s σ H D I ⟨Mid, q1, q2⟩ => ?_⟩
  refine wpAny_execs_cons (thn (h1.run pins s σ H { D with nx := Mid } I q1) fun f s1 q => ?_)
  cases f with
  | next =>
    have ⟨σ', H', I', q⟩ := q
    exact h2.run pins s1 σ' H' D I' (q2 σ' H' q)
  | ret v => exact q
  | brk => exact q
  | cont => exact q

/-! ### the purse -/
def Purse (p c : Addr) (N : Nat) (H : Hp) : Prop := p ≠ c ∧ ∃ (cells : List Int) (went : Int), H p = some (.lst [.ref c, .int went]) ∧ H c = some (.lst (cells.map V.int)) ∧ cells ≠ [] ∧ cells.length ≤ 63 ∧ 0 ≤ went ∧ went ≤ N
/-- all but the purse is as it was -/
def Keep (p c : Addr) (H H' : Hp) : Prop := ∀ b o, H b = some o → b ≠ p → b ≠ c → H' b = some o
theorem Keep.refl {p c : Addr} {H : Hp} : Keep p c H H := fun _ _ e _ _ => e
theorem Keep.trans {p c : Addr} {H H1 H2 : Hp} (a : Keep p c H H1) (b : Keep p c H1 H2) : Keep p c H H2 := fun d o e h1 h2 => b d o (a d o e h1 h2) h1 h2
theorem Keep.of {p c : Addr} {H H' : Hp} (s : Same H H') : Keep p c H H' := fun b o e _ _ => s b o e
theorem Purse.mono {p c : Addr} {N M : Nat} {H : Hp} (h : Purse p c N H) (l : N ≤ M) : Purse p c M H := by
  obtain ⟨n, cells, went, h1, h2, h3, h4, h5, h6⟩ := h
  exact ⟨n, cells, went, h1, h2, h3, h4, h5, by omega⟩
theorem Purse.same {p c : Addr} {N : Nat} {H H' : Hp} (h : Purse p c N H) (s : Same H H') : Purse p c N H' := by
  obtain ⟨n, cells, went, h1, h2, h3⟩ := h
  exact ⟨n, cells, went, s _ _ h1, s _ _ h2, h3⟩
theorem Purse.notTup {p c : Addr} {N : Nat} {H : Hp} (h : Purse p c N H) {b : Addr} {o : HO} (e : H b = some o) (hn : ∀ xs, o ≠ .lst xs) : b ≠ p ∧ b ≠ c := by
  obtain ⟨n, cells, went, h1, h2, h3⟩ := h
  exact ⟨ne_of e h1 (hn _), ne_of e h2 (hn _)⟩
theorem Purse.apart {p c : Addr} {N : Nat} {H : Hp} (h : Purse p c N H) {b : Addr} (e : H b = none) : b ≠ p ∧ b ≠ c := by
  obtain ⟨n, cells, went, h1, h2, h3⟩ := h
  exact ⟨fun z => (by rw [z, h1] at e; cases e), fun z => (by rw [z, h2] at e; cases e)⟩
theorem Keep.tup {K : PySem.W.Frag} {p c a : Addr} {N : Nat} {H H' : Hp} {xs : List V} (k : Keep p c H H') (u : Purse p c N H) (h : SqT K H a xs) : SqT K H' a xs := by
  rcases h with (h | ⟨o, h⟩) | h
  · have z := u.notTup h fun _ q => by cases q
    exact .inl (.inl (k _ _ h z.1 z.2))
  · have z := u.notTup h fun _ q => by cases q
    exact .inl (.inr ⟨o, k _ _ h z.1 z.2⟩)
  · exact .inr h
theorem Keep.lt {K : PySem.W.Frag} {p c r : Addr} {N : Nat} {H H' : Hp} {ls : List (List Int)} (k : Keep p c H H') (u : Purse p c N H) (h1 : r ≠ p) (h2 : r ≠ c) (h : LT K H r ls) : LT K H' r ls := by
  obtain ⟨ks, e, a, q⟩ := h
  exact ⟨ks, k _ _ e h1 h2, fun p hp => k.tup u (a p hp), q⟩
theorem Keep.kl {K : PySem.W.Frag} {p c r : Addr} {H H' : Hp} {ls : List (List Int)} (k : Keep p c H H') (h1 : r ≠ p) (h2 : r ≠ c) (h : KL K H r ls) : KL K H' r ls := by
  obtain ⟨ks, e, a, q⟩ := h
  exact ⟨ks, k _ _ e h1 h2, a, q⟩
theorem ixN_of {n : Nat} {k : Int} (h0 : 0 ≤ k) (h1 : k < n) : ixN n k = some k.toNat := by
  unfold ixN
  rw [if_pos h0, if_pos h1]
theorem ints_at {l : List Int} {k : Int} (h0 : 0 ≤ k) (h1 : k < l.length) : ∃ y, l[k.toNat]? = some y ∧ atI (l.map V.int) k = some (V.int y) := by
  have hk : k.toNat < l.length := by omega
  refine ⟨l[k.toNat], List.getElem?_eq_getElem hk, at_of (j := k.toNat) (by omega) ?_⟩
  rw [List.getElem?_map, List.getElem?_eq_getElem hk] <;> rfl

section
variable {P : Program} {w : World} {K : PySem.W.Frag} {mg : Str → Option Value} {base : Heap}
/-! ### _law_purse -/
def spPurse (K : PySem.W.Frag) : Sp := fun vs H Q _ => ∃ (a : Addr) (ns : List Int), vs = [.ref a] ∧ SqL K H a (ns.map V.int) ∧ ns.length ≤ 63 ∧ ∀ H' p c, Same H H' → H p = none → H c = none → Purse p c 0 H' → Q (.ref p) H'
theorem cut63 {xs : List V} (h : xs.length ≤ 63) : cutV xs none (some 63) = xs := by
  unfold cutV
  have e : HT.sIx xs.length xs.length (some 63) = min 63 xs.length := HT.sIx_nat _ _ 63
  rw [HT.sIx_none, e, List.drop_zero]
  exact List.take_of_length_le (by omega)
theorem pow_pos_big : (0 : Int) < ((10 : Int) ^ (60 : Int).toNat) ^ (20 : Int).toNat := by decide +kernel
theorem pow_ok_big : CPowX ((10 : Int) ^ (60 : Int).toNat) 20 := ⟨by decide, by decide +kernel⟩
theorem pow_ok {i j : Int} (h : 0 ≤ j ∧ j ≤ 1000000 ∧ i.natAbs < 2 ^ 64) : CPow i j := h
theorem scPurse : FnScope ["_law_script", "_law_cells", "_law_k"] ["_law_script"] (defScope sPurse) := ⟨rfl, rfl, rfl, by decide +kernel, rfl, by decide +kernel, by decide +kernel⟩
theorem has_purse (D : Df K mg "_law_purse" sPurse ["_law_script"]) (T : Bl mg) : Has P w K mg base 1 "_law_purse" sPurse ["_law_script"] (spPurse K) := mkHas D fun f fd F => by
  refine F.ok scPurse (fun vs H Q E h => ?_) (fun cdv A outer st H vs Q E hr h => ?_)
  · obtain ⟨a, ns, rfl, _⟩ := h
    rfl
  · obtain ⟨a, ns, rfl, ha, h63, q⟩ := h
    refine ⟨_, pss_cons (ps_set (i := 1) scPurse.nd rfl (Or.inl rfl) (pe_slice sl_list (pv 0) po_none (po_some pe_int)))
      (pss_cons (ps_for PassesOwn.never rfl (pi_range1 (by rfl) T.range (pa_cons (pe_callB call_len_seq (by rfl) T.len (by decide +kernel) (pa_cons (pv 1) pa_nil)) pa_nil)) (pg_name (i := 2) scPurse.nd rfl (Or.inl rfl))
        (pss_one (ps_if (pt_cmpR op_ge (pe_callB call_abs (by rfl) T.abs (by decide +kernel) (pa_cons (pe_ix ix_list (pv 1) (pv 2) (fun _ _ => rfl)) pa_nil)) (pe_op op_pow pe_int pe_int) (nomark _))
          (pss_one (ps_asg (pe_op op_mod (pe_ix ix_list (pv 1) (pv 2) (fun _ _ => rfl)) (pe_op op_powX (pe_op op_pow pe_int pe_int) pe_int)) (pg_sub (pv 1) (pv 2) set_list))) pss_nil)))
      (pss_mid (ps_if (pt_cmpR (op_eqNil (hu64 hr)) (pv 1) (pe_lst pa_nil) (nomark _)) (pss_one (ps_set (i := 1) scPurse.nd rfl (Or.inl rfl) (pe_lst (pa_cons pe_int pa_nil)))) pss_nil)
      (pss_one (ps_ret (pe_lst (pa_cons (pv 1) (pa_cons pe_int pa_nil))))))), ?_⟩
    refine ⟨_, rfl, 63, rfl, a, _, rfl, ha, fun l hl => ?_⟩
    rw [cut63 (by rw [List.length_map]; exact h63)]
    have s0 : Same H (upd H l (.lst (ns.map V.int))) := Same.new hl
    refine ⟨_, rfl, l, _, rfl, .inl (SqL.of upd_same), _, rfl, ?_, ?_, ?_⟩
    · rw [List.length_map]
      omega
    · rw [List.length_map]
      omega
    refine for_range (lo := 0) (fun i σ H' => ∃ v, σ = [some (.ref a), some (.ref l), v] ∧ Same H H' ∧ ∃ cs : List Int, H' l = some (.lst (cs.map V.int)) ∧ cs.length = ns.length) ⟨none, rfl, s0, ns, upd_same, rfl⟩ ?_ ?_
    · rintro i σ H' hi ⟨v, rfl, sm, cs, hL, hlen⟩
      rw [List.length_map] at hi
      have hi2 : i < ns.length := by omega
      obtain ⟨y, hy, hat⟩ := ints_at (l := cs) (k := 0 + (i : Int)) (by omega) (by omega)
      refine ⟨_, rfl, _, rfl, l, _, _, _, rfl, rfl, SqL.of hL, hat, _, rfl, 10, 18, rfl, rfl, pow_ok (by decide), _, _, rfl, rfl, _, rfl, ?_⟩
      refine ite2 (fun _ => ?_) (fun _ => ?_)
      · refine ⟨_, rfl, _, rfl, l, _, _, _, rfl, rfl, SqL.of hL, hat, 10, 60, rfl, rfl, pow_ok (by decide), _, 20, rfl, rfl, pow_ok_big, _, _, rfl, rfl, pow_pos_big, ?_⟩
        refine ⟨_, rfl, _, rfl, l, _, _, _, rfl, rfl, hL, ixN_of (by omega) (by rw [List.length_map]; omega), ?_⟩
        refine ⟨_, rfl, Same.next hl sm, cs.set (0 + (i : Int)).toNat (y % ((10 : Int) ^ (60 : Int).toNat) ^ (20 : Int).toNat), ?_, ?_⟩
        · rw [upd_same, List.map_set]
        · rw [List.length_set, hlen]
      · exact ⟨_, rfl, sm, cs, hL, hlen⟩
    · rintro σ H' ⟨v, rfl, sm, cs, hL, hlen⟩
      refine ⟨fun σ' H2 => ∃ (c : Addr) (ds : List Int) (v : Option V), σ' = [some (.ref a), some (.ref c), v] ∧ Same H H2 ∧ H c = none ∧ H2 c = some (.lst (ds.map V.int)) ∧ ds ≠ [] ∧ ds.length ≤ 63, ?_, ?_⟩
      · refine ⟨_, rfl, Nat.zero_le _, fun e he => ?_⟩
        have nle : l ≠ e := ne_of_none hL he
        refine ⟨l, e, cs, rfl, rfl, (upd_ne nle).trans hL, upd_same, _, rfl, ?_⟩
        have s2 := sm.trans (Same.new (o := .lst []) he)
        refine ite2 (fun hc => ?_) (fun hc => ?_)
        · refine ⟨by show 1 ≤ sizeLine; decide, fun g hg => ?_⟩
          exact ⟨g, [0], _, rfl, s2.trans (Same.new hg), s2.free hg, upd_same, by simp, by decide⟩
        · have hc : cs ≠ [] := fun z => hc (decide_eq_true z)
          exact ⟨l, cs, _, rfl, s2, hl, (upd_ne nle).trans hL, hc, by omega⟩
      · rintro σ' H2 ⟨c, ds, v, rfl, s2, hc, hL2, hn, hlen2⟩
        refine ⟨_, rfl, (by show 2 ≤ sizeLine; decide), fun g hg => ?_⟩
        have ngc : g ≠ c := (ne_of_none hL2 hg).symm
        exact q _ g c (s2.trans (Same.new hg)) (s2.free hg) hc ⟨ngc, ds, 0, upd_same, (upd_ne ngc.symm).trans hL2, hn, hlen2, Int.le_refl _, Int.le_refl _⟩

/-! ### _law_draw -/
def spDraw : Sp := fun vs H Q _ => ∃ (p c : Addr) (N : Nat) (n : Int), vs = [.ref p, .int n] ∧ Purse p c N H ∧ N ≤ 1000000 ∧ 0 < n ∧ n ≤ 1000000000 ∧ ∀ H' k, Keep p c H H' → Purse p c (N + 1) H' → 0 ≤ k → k < n → Q (.int k) H'
theorem scDraw : FnScope ["_law_purse_here", "_law_out_of", "_law_cells", "_law_went", "_law_at", "_law_cell", "_law_number", "_law_other"] ["_law_purse_here", "_law_out_of"] (defScope sDraw) := ⟨rfl, rfl, rfl, by decide +kernel, rfl, by decide +kernel, by decide +kernel⟩
theorem mulR {i j : Int} (h1 : -(2 ^ 64) < j) (h2 : j < 2 ^ 64) : CMul i j := .inr ⟨h1, h2⟩
theorem mulL {i j : Int} (h1 : 0 ≤ i) (h2 : i < 2147483647) : CMul i j := .inl ⟨by omega, by omega⟩
theorem rem_in {x m : Int} (h : 0 < m) : 0 ≤ x % m ∧ x % m < m := ⟨Int.emod_nonneg _ (by omega), Int.emod_lt_of_pos _ h⟩
theorem has_draw (D : Df K mg "_law_draw" sDraw ["_law_purse_here", "_law_out_of"]) (T : Bl mg) : Has P w K mg base 1 "_law_draw" sDraw ["_law_purse_here", "_law_out_of"] spDraw := mkHas D fun f fd F => by
  refine F.ok scDraw (fun vs H Q E h => ?_) (fun cdv A outer st H vs Q E hr h => ?_)
  · obtain ⟨p, c, N, n, rfl, _⟩ := h
    rfl
  · obtain ⟨p, c, N, n, rfl, ⟨npc, cells, went, hp, hc, hne, hlen, w0, wN⟩, hN, n0, n9, q⟩ := h
    have nd := scDraw.nd
    refine ⟨_, pss_cons (ps_asg (pv 0) (pg_unl rfl (pgs_cons (pg_name (i := 2) nd rfl (Or.inl rfl)) (pgs_cons (pg_name (i := 3) nd rfl (Or.inl rfl)) pgs_nil))))
      (pss_cons (ps_set (i := 4) nd rfl (Or.inl rfl) (pe_op op_mod (pv 3) (pe_callB call_len_seq (by rfl) T.len (by decide +kernel) (pa_cons (pv 2) pa_nil))))
      (pss_cons (ps_set (i := 5) nd rfl (Or.inl rfl) (pe_ix ix_list (pv 2) (pv 4) (fun _ _ => rfl)))
      (pss_cons (ps_asg (pe_op op_add (pv 3) pe_int) (pg_sub (pv 0) pe_int set_list))
      (pss_cons (ps_if (pt_cmpR op_ge (pv 5) (pe_op op_pow pe_int pe_int) (nomark _)) (pss_cons (ps_asg (pe_op op_fdiv (pv 5) (pv 1)) (pg_sub (pv 2) (pv 4) set_list)) (pss_one (ps_ret (pe_op op_mod (pv 5) (pv 1))))) pss_nil)
      (pss_cons (ps_set (i := 6) nd rfl (Or.inl rfl) (pe_op op_mod (pe_op op_add (pe_op op_add (pe_op op_mul (pe_op op_mod (pv 5) pe_int) pe_int) (pe_op op_mul (pe_op op_mul (pv 3) (pv 3)) pe_int)) pe_int) pe_int))
      (pss_cons (ps_set (i := 6) nd rfl (Or.inl rfl) (pe_op op_mod (pe_op op_mul (pv 6) (pv 6)) pe_int))
      (pss_cons (ps_set (i := 6) nd rfl (Or.inl rfl) (pe_op op_mod (pe_op op_mul (pv 6) (pv 6)) pe_int))
      (pss_cons (ps_if (pt_cmpR op_gt (pv 1) (pe_op op_pow pe_int pe_int) (nomark _)) pss_never pss_nil)
      (pss_one (ps_ret (pe_op op_mod (pv 6) (pv 1)))))))))))), ?_⟩
    have pos : 0 < cells.length := List.length_pos_iff.mpr hne
    have lpos : (0 : Int) < ((cells.map V.int).length : Nat) := by
      rw [List.length_map]
      omega
    refine ⟨_, rfl, p, _, rfl, SqL.of hp, rfl, _, _, rfl, _, _, rfl, rfl, ?_⟩
    refine ⟨_, rfl, _, rfl, c, _, rfl, .inl (SqL.of hc), _, _, rfl, rfl, lpos, ?_⟩
    obtain ⟨r0, r1⟩ := rem_in (x := went) lpos
    have r1' : went % ((cells.map V.int).length : Nat) < (cells.length : Int) := by
      rw [List.length_map] at r1 ⊢
      exact r1
    obtain ⟨y, hy, hat⟩ := ints_at (l := cells) r0 r1'
    refine ⟨_, rfl, _, rfl, c, _, _, _, rfl, rfl, SqL.of hc, hat, ?_⟩
    refine ⟨_, rfl, _, _, rfl, rfl, _, rfl, p, _, 1, 1, rfl, rfl, hp, rfl, ?_⟩
    have k1 : Keep p c H (upd H p (.lst ([V.ref c, V.int went].set 1 (V.int (went + 1))))) := fun b o e h1 _ => (upd_ne h1).trans e
    have hc1 : (upd H p (.lst ([V.ref c, V.int went].set 1 (V.int (went + 1))))) c = some (.lst (cells.map V.int)) := (upd_ne npc.symm).trans hc
    refine ⟨_, rfl, 10, 18, rfl, rfl, pow_ok (by decide), _, _, rfl, rfl, _, rfl, ?_⟩
    refine ite2 (fun _ => ?_) (fun _ => ?_)
    · refine ⟨_, rfl, _, rfl, _, _, rfl, rfl, ⟨n0, by omega⟩, _, rfl, _, rfl, c, _, _, _, rfl, rfl, hc1, ixN_of r0 r1, ?_⟩
      refine ⟨_, rfl, _, rfl, _, _, rfl, rfl, n0, ?_⟩
      obtain ⟨z0, z1⟩ := rem_in (x := y) n0
      refine q _ _ (fun b o e h1 h2 => (upd_ne h2).trans (k1 b o e h1 h2)) ⟨npc, cells.set (went % ((cells.map V.int).length : Nat)).toNat (y / n), went + 1, (upd_ne npc).trans upd_same, ?_, ?_, ?_, by omega, by omega⟩ z0 z1
      · rw [upd_same, List.map_set]
      · intro z
        have z := congrArg List.length z
        rw [List.length_set] at z
        exact absurd z (Nat.ne_of_gt pos)
      · rw [List.length_set]
        exact hlen
    · refine ⟨_, rfl, _, _, rfl, rfl, (by show (0 : Int) < 2147483629; decide), _, _, rfl, rfl, mulR (by decide) (by decide), _, rfl, _, rfl, _, _, rfl, rfl, mulL w0 (by omega), _, _, rfl, rfl, mulR (by decide) (by decide), _, _, rfl, rfl, _, _, rfl, rfl, _, _, rfl, rfl,
        (by show (0 : Int) < 2147483647; decide), ?_⟩
      obtain ⟨a0, a1⟩ := rem_in (x := y % 2147483629 * 48271 + went * went * 69621 + 11) (m := 2147483647) (by decide)
      refine ⟨_, rfl, _, rfl, _, _, rfl, rfl, mulL a0 a1, _, _, rfl, rfl, (by show (0 : Int) < 2147483629; decide), ?_⟩
      obtain ⟨c0, c1⟩ := rem_in (x := (y % 2147483629 * 48271 + went * went * 69621 + 11) % 2147483647 * ((y % 2147483629 * 48271 + went * went * 69621 + 11) % 2147483647)) (m := 2147483629) (by decide)
      refine ⟨_, rfl, _, rfl, _, _, rfl, rfl, mulL c0 (by omega), _, _, rfl, rfl, (by show (0 : Int) < 2147483587; decide), ?_⟩
      have big : decide (((10 : Int) ^ (9 : Int).toNat) < n) = false := decide_eq_false (by
        have e : (10 : Int) ^ (9 : Int).toNat = 1000000000 := by decide
        rw [e]
        omega)
      refine ⟨_, rfl, 10, 9, rfl, rfl, pow_ok (by decide), _, _, rfl, rfl, _, rfl, ?_⟩
      rw [big]
      refine iteF ?_
      refine ⟨_, rfl, _, rfl, _, _, rfl, rfl, n0, ?_⟩
      exact q _ _ k1 ⟨npc, cells, went + 1, upd_same, hc1, hne, hlen, by omega, by omega⟩ (rem_in n0).1 (rem_in n0).2
end
end Cub

namespace Cub
open PySem PySem.Spec PyProof.Rows L2
section
variable {P : Program} {w : World} {K : PySem.W.Frag} {mg : Str → Option Value} {base : Heap}
/-- small paints -/
def Small (ns : List Int) : Prop := ∀ n ∈ ns, 0 ≤ n ∧ n < 110
/-! ### _law_mixed -/
def spMixed : Sp := fun vs H Q _ => ∃ (p c a : Addr) (N : Nat) (ns : List Int), vs = [.ref p, .ref a] ∧ Purse p c N H ∧ N + ns.length ≤ 1000000 ∧ H a = some (.lst (ns.map V.int)) ∧ ns.length ≤ 100 ∧ Small ns ∧
  ∀ H' r ms, Keep p c H H' → H r = none → H' r = some (.lst (ms.map V.int)) → Purse p c (N + ns.length) H' → ms.length = ns.length → Small ms → Q (.ref r) H'
theorem eraseMap {α β : Type} (g : α → β) : ∀ (l : List α) (i : Nat), (l.map g).eraseIdx i = (l.eraseIdx i).map g
  | [], _ => rfl
  | _ :: _, 0 => rfl
  | a :: l, i + 1 => congrArg (g a :: ·) (eraseMap g l i)
def lenAt (H : Hp) (l : Addr) : Nat := match H l with
  | some (.lst xs) => xs.length
  | _ => 0
theorem lenAt_eq {H : Hp} {l : Addr} {xs : List V} (h : H l = some (.lst xs)) : lenAt H l = xs.length := by
  unfold lenAt
  rw [h]
theorem Keep.next {p c D : Addr} {H H' : Hp} {o : HO} (hD : H D = Option.none) (e : Keep p c H H') : Keep p c H (upd H' D o) := fun b u h h1 h2 => by
  rw [upd_ne (ne_of_none h hD)]
  exact e b u h h1 h2
theorem Purse.next {p c D : Addr} {N : Nat} {H : Hp} {o : HO} (h : Purse p c N H) (h1 : D ≠ p) (h2 : D ≠ c) : Purse p c N (upd H D o) := by
  obtain ⟨n, cells, went, e1, e2, r⟩ := h
  exact ⟨n, cells, went, (upd_ne h1.symm).trans e1, (upd_ne h2.symm).trans e2, r⟩
theorem scMixed : FnScope ["_law_purse_here", "_law_some", "_law_left", "_law_found"] ["_law_purse_here", "_law_some"] (defScope sMixed) := ⟨rfl, rfl, rfl, by decide +kernel, rfl, by decide +kernel, by decide +kernel⟩
theorem has_mixed (D : Df K mg "_law_mixed" sMixed ["_law_purse_here", "_law_some"]) (T : Bl mg) (G : Has P w K mg base 1 "_law_draw" sDraw ["_law_purse_here", "_law_out_of"] spDraw) :
    Has P w K mg base 2 "_law_mixed" sMixed ["_law_purse_here", "_law_some"] spMixed := mkHas D fun f fd F => by
  obtain ⟨f1, fd1, F1, m1, b1, G1⟩ := G
  refine F.ok scMixed (fun vs H Q E h => ?_) (fun cdv A outer st H vs Q E hr h => ?_)
  · obtain ⟨p, c, a, N, ns, rfl, _⟩ := h
    rfl
  · obtain ⟨p, c, a, N, ns, rfl, hP, hN, ha, h100, hS, q⟩ := h
    have nd := scMixed.nd
    refine ⟨_, pss_cons (ps_set (i := 2) nd rfl (Or.inl rfl) (pe_callTy call_list_of (by rfl) T.list (by decide +kernel) (pa_cons (pv 1) pa_nil)))
      (pss_cons (ps_set (i := 3) nd rfl (Or.inl rfl) (pe_lst pa_nil))
      (pss_cons (ps_while PassesOwn.never (pt_cmpR (op_neNil (hu64 hr)) (pv 2) (pe_lst pa_nil) (nomark _))
        (pss_one (ps_expr (pe_bm PySem.F.plainAttrs_list PySem.F.slot_list_append PySem.F.type_list_append mt_append (pv 3) (pa_cons (pe_bm PySem.F.plainAttrs_list PySem.F.slot_list_pop PySem.F.type_list_pop mt_popAt (pv 2)
          (pa_cons (pe_call G1 hr (by rfl) m1 F1.kp b1 .nil pass0 (pa_cons (pv 0) (pa_cons (pe_callB call_len_seq (by rfl) T.len (by decide +kernel) (pa_cons (pv 2) pa_nil)) pa_nil))) pa_nil)) pa_nil)))))
      (pss_one (ps_ret (pv 3))))), ?_⟩
    refine ⟨_, rfl, a, _, rfl, .inl (SqL.of ha), fun l hl => ?_⟩
    refine ⟨Nat.zero_le _, fun g hg => ?_⟩
    obtain ⟨lp, lc⟩ := hP.apart hl
    have nlg : l ≠ g := ne_of_none upd_same hg
    have hg0 : H g = none := (Same.new hl).free hg
    obtain ⟨gp, gc⟩ := hP.apart hg0
    refine while_by (fun σ H' => ∃ (ls fs : List Int), σ = [some (.ref p), some (.ref a), some (.ref l), some (.ref g)] ∧ Keep p c H H' ∧ H' l = some (.lst (ls.map V.int)) ∧ H' g = some (.lst (fs.map V.int)) ∧ ls.length + fs.length = ns.length ∧
      Purse p c (N + fs.length) H' ∧ Small ls ∧ Small fs) (fun _ H' => lenAt H' l) ?_ ?_ ?_
    · refine ⟨ns, [], rfl, Keep.next hg0 (Keep.next hl Keep.refl), (upd_ne nlg).trans upd_same, upd_same, rfl, ?_, hS, fun n h => by simp at h⟩
      exact (hP.next lp lc).next gp gc
    · rintro σ H' ⟨ls, fs, rfl, kp, hL, hG, hlen, hP', sl, sf⟩
      refine ⟨_, rfl, Nat.zero_le _, fun e he => ?_⟩
      have nle : l ≠ e := ne_of_none hL he
      have nge : g ≠ e := ne_of_none hG he
      have hL1 : upd H' e (.lst []) l = some (.lst (ls.map V.int)) := (upd_ne nle).trans hL
      have hG1 : upd H' e (.lst []) g = some (.lst (fs.map V.int)) := (upd_ne nge).trans hG
      refine ⟨l, e, ls, rfl, rfl, hL1, upd_same, _, rfl, ?_⟩
      obtain ⟨ep, ec⟩ := hP'.apart he
      have hP1 : Purse p c (N + fs.length) (upd H' e (.lst [])) := hP'.next ep ec
      have kp1 : Keep p c H (upd H' e (.lst [])) := fun b o h1 h2 h3 => (Same.new he) b o (kp b o h1 h2 h3)
      refine ite2 (fun hc => ?_) (fun hc => ?_)
      · have hne : ls ≠ [] := fun z => by
          rw [decide_eq_true z] at hc
          cases hc
        have pos : 0 < ls.length := List.length_pos_iff.mpr hne
        refine ⟨_, rfl, .inl ⟨rfl, _, SqL.of hG1⟩, _, rfl, .inl ⟨rfl, _, SqL.of hL1⟩, _, rfl, _, rfl, l, _, rfl, .inl (SqL.of hL1), ?_⟩
        refine ⟨p, c, _, _, rfl, hP1, by omega, ?_, ?_, fun H2 k kp2 hP2 k0 kn => ?_⟩
        · rw [List.length_map]
          omega
        · rw [List.length_map]
          omega
        rw [List.length_map] at kn
        have hL2 := kp2 _ _ hL1 lp lc
        have hG2 := kp2 _ _ hG1 gp gc
        obtain ⟨y, hy, _⟩ := ints_at (l := ls) k0 kn
        refine ⟨l, _, k, k.toNat, V.int y, rfl, rfl, hL2, by omega, by omega, ?_, ?_, ?_⟩
        · rw [List.length_map]
          exact (ixN_seq (ixN_of k0 kn)).1
        · rw [List.getElem?_map, hy] <;> rfl
        have hG3 : upd H2 l (.lst ((ls.map V.int).eraseIdx k.toNat)) g = some (.lst (fs.map V.int)) := (upd_ne nlg.symm).trans hG2
        have hk : k.toNat < ls.length := by omega
        refine ⟨g, _, V.int y, rfl, rfl, hG3, ?_, ⟨ls.eraseIdx k.toNat, fs ++ [y], rfl, ?_, ?_, ?_, ?_, ?_, ?_, ?_⟩, ?_⟩
        · rw [List.length_map]
          exact small1000 (by omega)
        · exact Keep.next hg0 (Keep.next hl (kp1.trans kp2))
        · rw [upd_ne nlg, upd_same, eraseMap]
        · rw [upd_same, List.map_append] <;> rfl
        · rw [List.length_eraseIdx_of_lt hk, List.length_append, List.length_singleton]
          omega
        · rw [List.length_append, List.length_singleton]
          exact (hP2.next lp lc).next gp gc
        · exact fun n hn => sl n (List.mem_of_mem_eraseIdx hn)
        · intro n hn
          rcases List.mem_append.mp hn with hn | hn
          · exact sf n hn
          · rw [List.mem_singleton.mp hn]
            exact sl y (List.mem_of_getElem? hy)
        · show lenAt _ l < lenAt H' l
          have e1 : upd (upd H2 l (.lst ((ls.map V.int).eraseIdx k.toNat))) g (.lst (fs.map V.int ++ [V.int y])) l = some (.lst ((ls.map V.int).eraseIdx k.toNat)) := (upd_ne nlg).trans upd_same
          rw [lenAt_eq e1, lenAt_eq hL, List.length_eraseIdx_of_lt (by rw [List.length_map]; exact hk), List.length_map]
          omega
      · have hnil : ls = [] := Classical.byContradiction fun z => hc (by rw [decide_eq_false z] <;> rfl)
        have e0 : fs.length = ns.length := by
          rw [hnil] at hlen
          simpa using hlen
        refine ⟨_, rfl, ?_⟩
        exact q _ g fs kp1 hg0 hG1 (by rw [← e0]; exact hP1) e0 sf
    · rintro σ H' Q1 Q2 im ⟨v, hv, hz, k⟩
      refine ⟨v, hv, hz, fun e he => ?_⟩
      obtain ⟨a1, b1', n1, e1, e2, e3, e4, k1, e5, z⟩ := k e he
      exact ⟨a1, b1', n1, e1, e2, e3, e4, k1, e5, im _ _ z⟩

/-! ### _law_coat -/
def spCoat (K : PySem.W.Frag) : Sp := fun vs H Q _ => ∃ (p c : Addr) (N : Nat), vs = [.ref p] ∧ Purse p c N H ∧ N + 30 ≤ 1000000 ∧ ∀ H' r ns, Keep p c H H' → TupA K H' r ns → Six ns → Purse p c (N + 30) H' → Q (.ref r) H'
theorem scCoat : FnScope ["_law_purse_here", "_law_few", "_law_found", "_law_way", "_law_side", "_law_tone"] ["_law_purse_here"] (defScope sCoat) := ⟨rfl, rfl, rfl, by decide +kernel, rfl, by decide +kernel, by decide +kernel⟩
theorem few_at {k : Int} (h0 : 0 ≤ k) (h1 : k < 5) : ∃ y, atI (([1, 2, 3, 12, 110] : List Int).map V.int) k = some (V.int y) ∧ 0 < y ∧ y ≤ 110 := by
  obtain ⟨y, hy, e⟩ := ints_at (l := [1, 2, 3, 12, 110]) h0 h1
  refine ⟨y, e, ?_⟩
  have hm := List.mem_of_getElem? hy
  revert hm
  exact (by decide : ∀ y ∈ ([1, 2, 3, 12, 110] : List Int), 0 < y ∧ y ≤ 110) y
theorem rg6 : rgV 0 6 = ([0, 1, 2, 3, 4, 5] : List Int).map V.int := by decide
theorem small6 : Small [0, 1, 2, 3, 4, 5] := by unfold Small; decide
theorem has_coat (D : Df K mg "_law_coat" sCoat ["_law_purse_here"]) (T : Bl mg) (G : Has P w K mg base 1 "_law_draw" sDraw ["_law_purse_here", "_law_out_of"] spDraw) (G' : Has P w K mg base 2 "_law_mixed" sMixed ["_law_purse_here", "_law_some"] spMixed) :
    Has P w K mg base 3 "_law_coat" sCoat ["_law_purse_here"] (spCoat K) := mkHas D fun f fd F => by
  obtain ⟨f1, fd1, F1, m1, b1, G1⟩ := G
  obtain ⟨f2, fd2, F2, m2, b2, G2⟩ := G'
  refine F.ok scCoat (fun vs H Q E h => ?_) (fun cdv A outer st H vs Q E hr h => ?_)
  · obtain ⟨p, c, N, rfl, _⟩ := h
    rfl
  · obtain ⟨p, c, N, rfl, hP, hN, q⟩ := h
    have nd := scCoat.nd
    have hr1 : Room 1 _ := hr.mono (by decide)
    refine ⟨_, pss_cons (ps_set (i := 1) nd rfl (Or.inr rfl) (pe_ix ix_list (pe_lst (pa_cons pe_int (pa_cons pe_int (pa_cons pe_int (pa_cons pe_int (pa_cons pe_int pa_nil)))))) (pe_call G1 hr1 (by rfl) m1 F1.kp b1 .nil pass0 (pa_cons (pv 0) (pa_cons pe_int pa_nil))) (fun _ _ => rfl)))
      (pss_mid (ps_set (i := 2) nd rfl (Or.inl rfl) (pe_callTy call_tuple_of (by rfl) T.tuple (by decide +kernel) (pa_cons (pe_lc (own := [("_law_side", 4)]) (g := gName 4) (tt := tYes) rfl nd (pi_range1 (by rfl) T.range (pa_cons pe_int pa_nil))
        (blkOk_by (N := ["_law_purse_here", "_law_few", "_law_found", "_law_way", "_law_side", "_law_tone"]) (sc := defScope sCoat) (by decide +kernel)) (fun _ _ _ _ _ => pg_name (i := 4) nd rfl (Or.inl rfl)) (fun _ _ _ _ _ => pts_nil)
        (fun _ _ _ _ _ => pe_call G1 hr1 (by rfl) m1 F1.kp b1 .nil pass0 (pa_cons (pv 0) (pa_cons (pv 1) pa_nil)))) pa_nil)))
      (pss_cons (ps_set (i := 3) nd rfl (Or.inl rfl) (pe_call G1 hr1 (by rfl) m1 F1.kp b1 .nil pass0 (pa_cons (pv 0) (pa_cons pe_int pa_nil))))
      (pss_mid (ps_if (pt_cmpR op_eq (pv 3) pe_int (nomark _)) (pss_one (ps_set (i := 2) nd rfl (Or.inl rfl) (pe_callTy call_tuple_of (by rfl) T.tuple (by decide +kernel) (pa_cons (pe_call G2 hr (by rfl) m2 F2.kp b2 .nil pass0
        (pa_cons (pv 0) (pa_cons (pe_listRg rfl (by rfl) T.list (prg_1 (by rfl) T.range pe_int)) pa_nil))) pa_nil)))) pss_nil)
      (pss_mid (ps_if (pt_cmpR op_eq (pv 3) pe_int (nomark _)) (pss_one (ps_set (i := 2) nd rfl (Or.inl rfl) (pe_callTy call_tuple_of (by rfl) T.tuple (by decide +kernel) (pa_cons (pe_lc (own := [("_law_tone", 5)]) (g := gName 5) (tt := tYes) rfl nd (pi_tup (pv 2))
        (blkOk_by (N := ["_law_purse_here", "_law_few", "_law_found", "_law_way", "_law_side", "_law_tone"]) (sc := defScope sCoat) (by decide +kernel)) (fun _ _ _ _ _ => pg_name (i := 5) nd rfl (Or.inl rfl)) (fun _ _ _ _ _ => pts_nil)
        (fun _ _ _ _ _ => pe_op op_add (pe_op op_mul (pv 5) (pe_op op_pow pe_int pe_int)) (pe_call G1 hr1 (by rfl) m1 F1.kp b1 .nil pass0 (pa_cons (pv 0) (pa_cons pe_int pa_nil))))) pa_nil)))) pss_nil)
      (pss_one (ps_ret (pv 2))))))), ?_⟩
    -- few
    refine ⟨by show 5 ≤ sizeLine; decide, fun l hl => ?_⟩
    obtain ⟨lp, lc⟩ := hP.apart hl
    refine ⟨_, rfl, p, c, N, 5, rfl, hP.next lp lc, by omega, by decide, by decide, fun H1 k k1 hP1 k0 k5 => ?_⟩
    obtain ⟨y, hat, y0, y110⟩ := few_at k0 k5
    refine ⟨l, _, k, V.int y, rfl, rfl, SqL.of (k1 _ _ upd_same lp lc), hat, ?_⟩
    have kp1 : Keep p c H H1 := (Keep.of (Same.new hl)).trans k1
    -- found
    refine ⟨fun σ H2 => ∃ (r : Addr) (ns : List Int), σ = [some (.ref p), some (.int y), some (.ref r), none, none, none] ∧ Keep p c H H2 ∧ TupA K H2 r ns ∧ ns.length = 6 ∧ Small ns ∧ Purse p c (N + 10) H2, ?_, ?_⟩
    · refine ⟨6, rfl, by decide, by decide, fun d hd => ?_⟩
      obtain ⟨dp, dc⟩ := hP1.apart hd
      refine lc_range (lo := 0) (fun i H' => ∃ ns : List Int, Keep p c H1 H' ∧ H' d = some (.lst (ns.map V.int)) ∧ ns.length = i ∧ Small ns ∧ Purse p c (N + 1 + i) H') ⟨[], Keep.of (Same.new hd), upd_same, rfl, fun n h => by simp at h, hP1.next dp dc⟩ ?_ ?_
      · rintro i H' hi ⟨ns, kp, hL, hlen, sm, hP'⟩
        have hi6 : i < 6 := hi
        refine ⟨rfl, yes_ (iteT ?_)⟩
        refine ⟨_, rfl, _, rfl, p, c, _, y, rfl, hP', by omega, y0, by omega, fun H2 k' kp2 hP2 q0 qn => ?_⟩
        have hL2 := kp2 _ _ hL dp dc
        refine ⟨_, hL2, ?_, ns ++ [k'], Keep.next hd (kp.trans kp2), ?_, ?_, ?_, ?_⟩
        · rw [List.length_map]
          exact small1000 (by omega)
        · rw [upd_same, List.map_append] <;> rfl
        · rw [List.length_append, List.length_singleton, hlen]
        · intro n hn
          rcases List.mem_append.mp hn with hn | hn
          · exact sm n hn
          · rw [List.mem_singleton.mp hn]
            exact ⟨q0, by omega⟩
        · exact hP2.next dp dc
      · rintro H' ⟨ns, kp, hL, hlen, sm, hP'⟩
        have hP' : Purse p c (N + 1 + 6) H' := hP'
        have hlen : ns.length = 6 := hlen
        refine ⟨d, _, rfl, .inl ⟨SqL.of hL, fun r hr2 => ?_⟩⟩
        obtain ⟨rp, rc⟩ := hP'.apart hr2
        exact ⟨r, ns, rfl, (kp1.trans kp).trans (Keep.of (Same.new hr2)), TupA.new, hlen, sm, (hP'.next rp rc).mono (by omega)⟩
    rintro σ H2 ⟨r, ns, rfl, kp2, hR, hlen, sm, hP2⟩
    -- way
    refine ⟨_, rfl, p, c, _, 6, rfl, hP2, by omega, by decide, by decide, fun H3 way k3 hP3 _ _ => ?_⟩
    have hR3 := k3.tup hP2 hR
    have kp3 := kp2.trans k3
    refine ⟨fun σ H4 => ∃ (r : Addr) (ns : List Int), σ = [some (.ref p), some (.int y), some (.ref r), some (.int way), none, none] ∧ Keep p c H H4 ∧ TupA K H4 r ns ∧ ns.length = 6 ∧ Small ns ∧ Purse p c (N + 20) H4, ?_, ?_⟩
    · refine ⟨_, rfl, rfl, _, rfl, ite2 (fun _ => ?_) (fun _ => ?_)⟩
      · refine ⟨_, rfl, 6, rfl, RgOk.of_le (by decide) (by decide) (by decide) (by decide), fun d hd => ?_⟩
        obtain ⟨dp, dc⟩ := hP3.apart hd
        have s4 : Same H3 (upd H3 d (.lst (rgV 0 6))) := Same.new hd
        refine ⟨p, c, d, _, [0, 1, 2, 3, 4, 5], rfl, hP3.next dp dc, (by show N + 10 + 1 + 6 ≤ 1000000; omega), (by rw [upd_same, rg6]), (by decide), small6, fun H4 g ms k4 hg hG hP4 hl4 sm4 => ?_⟩
        refine ⟨g, _, rfl, .inl ⟨SqL.of hG, fun u hu => ?_⟩⟩
        obtain ⟨up, uc⟩ := hP4.apart hu
        have hP4 : Purse p c (N + 10 + 1 + 6) H4 := hP4
        exact ⟨u, ms, rfl, ((kp3.trans (Keep.of s4)).trans k4).trans (Keep.of (Same.new hu)), TupA.new, hl4, sm4, (hP4.next up uc).mono (by omega)⟩
      · exact ⟨r, ns, rfl, kp3, hR3, hlen, sm, hP3.mono (by omega)⟩
    rintro σ H4 ⟨r, ns, rfl, kp4, hR4, hlen, sm, hP4⟩
    refine ⟨fun σ H5 => ∃ (r : Addr) (ns : List Int), σ = [some (.ref p), some (.int y), some (.ref r), some (.int way), none, none] ∧ Keep p c H H5 ∧ TupA K H5 r ns ∧ Six ns ∧ Purse p c (N + 30) H5, ?_, ?_⟩
    · refine ⟨_, rfl, rfl, _, rfl, ite2 (fun _ => ?_) (fun _ => ?_)⟩
      · refine ⟨_, rfl, r, rfl, ⟨_, hR4⟩, fun d hd => ?_⟩
        obtain ⟨dp, dc⟩ := hP4.apart hd
        refine lc_tup (K := K) (a := r) (xs := ns.map V.int) (fun i H' => ∃ ms : List Int, Keep p c H4 H' ∧ H' d = some (.lst (ms.map V.int)) ∧ ms.length = i ∧ (∀ m ∈ ms, 0 ≤ m) ∧ Purse p c (N + 20 + i) H') ⟨[], Keep.of (Same.new hd), upd_same, rfl, fun n h => by simp at h, hP4.next dp dc⟩
          (fun i H' _ ⟨_, kp, _⟩ => kp.tup hP4 hR4) ?_ ?_
        · rintro i x H' hx ⟨ms, kp, hL, hl, h0, hP'⟩
          obtain ⟨n, hn, rfl⟩ := map_get hx
          have hi : i < 6 := hlen ▸ (List.getElem?_eq_some_iff.mp hn).1
          obtain ⟨n0, n110⟩ := sm n (List.mem_of_getElem? hn)
          refine ⟨rfl, yes_ (iteT ?_)⟩
          refine ⟨_, rfl, 10, 27, rfl, rfl, pow_ok (by decide), _, _, rfl, rfl, mulL n0 (by omega), _, rfl, p, c, _, 2, rfl, hP', by omega, by decide, by decide, fun H5 k' k5 hP5 q0 _ => ?_⟩
          have hL5 := k5 _ _ hL dp dc
          have t0 : 0 ≤ n * (10 : Int) ^ (27 : Int).toNat + k' := Int.add_nonneg (Int.mul_nonneg n0 (by decide)) q0
          refine ⟨_, _, rfl, rfl, _, hL5, ?_, ms ++ [n * (10 : Int) ^ (27 : Int).toNat + k'], Keep.next hd (kp.trans k5), ?_, ?_, ?_, ?_⟩
          · rw [List.length_map]
            exact small1000 (by omega)
          · rw [upd_same, List.map_append] <;> rfl
          · rw [List.length_append, List.length_singleton, hl]
          · intro m hm
            rcases List.mem_append.mp hm with hm | hm
            · exact h0 m hm
            · rw [List.mem_singleton.mp hm]
              exact t0
          · exact hP5.next dp dc
        · rintro H' ⟨ms, kp, hL, hl, h0, hP'⟩
          rw [List.length_map, hlen] at hl hP'
          refine ⟨d, _, rfl, .inl ⟨SqL.of hL, fun u hu => ?_⟩⟩
          obtain ⟨up, uc⟩ := hP'.apart hu
          exact ⟨u, ms, rfl, (kp4.trans kp).trans (Keep.of (Same.new hu)), TupA.new, ⟨hl, h0⟩, (hP'.next up uc).mono (by omega)⟩
      · exact ⟨r, ns, rfl, kp4, hR4, ⟨hlen, fun n hn => (sm n hn).1⟩, hP4.mono (by omega)⟩
    rintro σ H5 ⟨r, ns, rfl, kp5, hR5, h6, hP5⟩
    exact ⟨_, rfl, q H5 r ns kp5 hR5 h6 hP5⟩

/-! ### _law_renamed -/
def spRen (K : PySem.W.Frag) : Sp := fun vs H Q _ => ∃ (a d : Addr) (ns : List Int) (g : Int → Int) (kvs : List (Key × V)), vs = [.ref a, .ref d] ∧ TupA K H a ns ∧ H d = some (.dK kvs) ∧ (∀ n ∈ ns, valV kvs (Sum.inl n) = some (.int (g n))) ∧ ns.length = 6 ∧
  ∀ H' r, Same H H' → TupA K H' r (ns.map g) → Q (.ref r) H'
theorem scRen : FnScope ["_law_coat_here", "_law_fresh", "_law_tone"] ["_law_coat_here", "_law_fresh"] (defScope sRen) := ⟨rfl, rfl, rfl, by decide +kernel, rfl, by decide +kernel, by decide +kernel⟩
theorem has_ren (D : Df K mg "_law_renamed" sRen ["_law_coat_here", "_law_fresh"]) (T : Bl mg) : Has P w K mg base 1 "_law_renamed" sRen ["_law_coat_here", "_law_fresh"] (spRen K) := mkHas D fun f fd F => by
  refine F.ok scRen (fun vs H Q E h => ?_) (fun cdv A outer st H vs Q E hr h => ?_)
  · obtain ⟨a, d, ns, g, kvs, rfl, _⟩ := h
    rfl
  · obtain ⟨a, d, ns, g, kvs, rfl, ha, hd, hv, h6, q⟩ := h
    refine ⟨_, pss_one (ps_ret (pe_callTy call_tuple_of (by rfl) T.tuple (by decide +kernel) (pa_cons (pe_lc (own := [("_law_tone", 2)]) (g := gName 2) (tt := tYes) rfl scRen.nd (pi_tup (pv 0)) (blkOk_by (N := ["_law_coat_here", "_law_fresh", "_law_tone"]) (sc := defScope sRen) (by decide +kernel))
      (fun _ _ _ _ _ => pg_name (i := 2) scRen.nd rfl (Or.inl rfl)) (fun _ _ _ _ _ => pts_nil) (fun _ _ _ _ _ => pe_dget (hu_of hr) (pv 1) (pv 2) (fun _ _ => rfl))) pa_nil))), ?_⟩
    refine ⟨_, rfl, a, rfl, ⟨_, ha⟩, fun l hl => ?_⟩
    refine lc_tup (K := K) (a := a) (xs := ns.map V.int) (fun i H' => Same H H' ∧ H' l = some (.lst (((ns.map g).take i).map V.int))) ⟨Same.new hl, upd_same⟩ (fun i H' _ ⟨sm, _⟩ => Same.tup sm ha) ?_ ?_
    · rintro i x H' hx ⟨sm, hL⟩
      obtain ⟨n, hn, rfl⟩ := map_get hx
      have hi : i < 6 := h6 ▸ (List.getElem?_eq_some_iff.mp hn).1
      refine ⟨rfl, yes_ (iteT ?_)⟩
      have hg : DGet H' d (.int n) (some (V.int (g n))) := by
        have z := DGet.k (k := Sum.inl n) (sm _ _ hd)
        rw [hv n (List.mem_of_getElem? hn)] at z
        exact z
      refine ⟨_, rfl, _, rfl, d, _, rfl, hg, _, hL, ?_, Same.next hl sm, ?_⟩
      · rw [List.length_map, List.length_take]
        exact small1000 (by omega)
      · have e : (ns.map g)[i]? = some (g n) := by rw [List.getElem?_map, hn] <;> rfl
        rw [upd_same, tk1 e, List.map_append] <;> rfl
    · rintro H' ⟨sm, hL⟩
      have e : (ns.map g).take (ns.map V.int).length = ns.map g := by rw [List.length_map, ← List.length_map g, List.take_length]
      rw [e] at hL
      exact ⟨l, _, rfl, .inl ⟨SqL.of hL, fun p hp => q _ p (sm.trans (Same.new hp)) TupA.new⟩⟩
end
end Cub

namespace Cub
open PySem PySem.Spec PyProof.Rows L2
section
variable {P : Program} {w : World} {K : PySem.W.Frag} {mg : Str → Option Value} {base : Heap}
theorem eqNat (n : Nat) : decide (V.int (n : Int) = V.int (n : Int)) = true := decide_eq_true rfl
/-! ### _law_closed -/
def spClosed (K : PySem.W.Frag) : Sp := fun vs H Q _ => ∃ (a r : Addr) (p : List Int), vs = [.ref a, .ref r] ∧ TupA K H a p ∧ Six p ∧ KL K H r TURNS ∧ ∀ H', Same H H' → Q (.bl true) H'
theorem scClosed : FnScope ["_law_coat_here", "_law_some", "_law_stay", "_law_first", "_law_second", "_law_spun"] ["_law_coat_here", "_law_some"] (defScope sClosed) := ⟨rfl, rfl, rfl, by decide +kernel, rfl, by decide +kernel, by decide +kernel⟩
theorem has_closed (D : Df K mg "_law_closed" sClosed ["_law_coat_here", "_law_some"]) (T : Bl mg) (GL : Has P w K mg base 5 "leaving" sLeav ["paints"] (spLeav K)) (GT : Has P w K mg base 5 "turned" sTurned ["paints", "turn"] (spTurned K))
    (GB : Has P w K mg base 5 "turned_back" sBack ["turn"] (spBack K)) (GP : Has P w K mg base 5 "put_together" sPutT ["one", "other"] (spAfter K)) :
    Has P w K mg base 6 "_law_closed" sClosed ["_law_coat_here", "_law_some"] (spClosed K) := mkHas D fun f fd F => by
  obtain ⟨f1, fd1, F1, m1, b1, G1⟩ := GL
  obtain ⟨f2, fd2, F2, m2, b2, G2⟩ := GT
  obtain ⟨f3, fd3, F3, m3, b3, G3⟩ := GB
  obtain ⟨f4, fd4, F4, m4, b4, G4⟩ := GP
  refine F.ok scClosed (fun vs H Q E h => ?_) (fun cdv A outer st H vs Q E hr h => ?_)
  · obtain ⟨a, r, p, rfl, _⟩ := h
    rfl
  · obtain ⟨a, r, p, rfl, ha, hp, hT, q⟩ := h
    have nd := scClosed.nd
    refine ⟨_, pss_cons (ps_set (i := 2) nd rfl (Or.inr rfl) (pe_call G1 hr (by rfl) m1 F1.kp b1 .nil pass0 (pa_cons (pv 0) pa_nil)))
      (pss_cons (ps_for PassesOwn.never rfl (pi_list (pv 2)) (pg_name (i := 3) nd rfl (Or.inr rfl))
        (pss_mid (ps_if (PW.pt (pw_or (pt_cmpR (op_neTT (hu64 hr)) (pe_call G2 hr (by rfl) m2 F2.kp b2 .nil pass0 (pa_cons (pv 0) (pa_cons (pv 3) pa_nil))) (pv 0) (nomark _))
          (pw_or1 (pt_cmpR (op_notInTL (hu65 hr)) (pe_call G3 hr (by rfl) m3 F3.kp b3 .nil pass0 (pa_cons (pv 3) pa_nil)) (pv 2) (by rfl))))) pss_never pss_nil)
        (pss_one (ps_if (pt_cmpR (op_neLL (hu64 hr)) (pe_lc (own := [("_law_second", 4)]) (g := gName 4) rfl nd (pi_list (pv 2)) (blkOk_by (N := ["_law_coat_here", "_law_some", "_law_stay", "_law_first", "_law_second", "_law_spun"]) (sc := defScope sClosed) (by decide +kernel))
          (fun _ _ _ _ _ => pg_name (i := 4) nd rfl (Or.inl rfl))
          (fun _ _ _ _ _ => pts_one (pt_cmpR (r := rTL K not) (op_notInTL (hu65 hr)) (pe_call G4 hr (by rfl) m4 F4.kp b4 .nil pass0 (pa_cons (pv 3) (pa_cons (pv 4) pa_nil))) (pv 2) (by rfl))) (fun _ _ _ _ _ => pv 4)) (pe_lst pa_nil) (nomark _)) pss_never pss_nil))))
      (pss_one (ps_ret (pe_cmpR op_eq (pe_callB call_len_seq (by rfl) T.len (by decide +kernel) (pa_cons (pe_lc (own := [("_law_spun", 5)]) (g := gName 5) rfl nd (pi_list (pv 1)) (blkOk_by (N := ["_law_coat_here", "_law_some", "_law_stay", "_law_first", "_law_second", "_law_spun"]) (sc := defScope sClosed) (by decide +kernel))
          (fun _ _ _ _ _ => pg_name (i := 5) nd rfl (Or.inl rfl))
          (fun _ _ _ _ _ => pts_one (pt_cmpR (r := rTT K id) (op_eqTT (hu64 hr)) (pe_call G2 hr (by rfl) m2 F2.kp b2 .nil pass0 (pa_cons (pv 0) (pa_cons (pv 5) pa_nil))) (pv 0) (nomark _))) (fun _ _ _ _ _ => pv 5)) pa_nil))
        (pe_callB call_len_seq (by rfl) T.len (by decide +kernel) (pa_cons (pv 2) pa_nil)) (nomark _))))), ?_⟩
    -- stay
    refine ⟨_, rfl, a, p, rfl, ha, hp, fun H1 s s1 hs hS => ?_⟩
    obtain ⟨ks, hks, hK, eK⟩ := id hS
    have ha1 := Same.tup s1 ha
    refine ⟨_, rfl, s, rfl, ⟨_, SqL.of hks⟩, ?_⟩
    refine for_list (K := K) (a := s) (xs := refs ks) (fun i σ H' => ∃ v, σ = [some (.ref a), some (.ref r), some (.ref s), v, none, none] ∧ Same H1 H') ⟨none, rfl, Same.refl _⟩ (fun i σ H' _ ⟨_, _, sm⟩ => sm.seq (SqL.of hks)) ?_ ?_
    · rintro i x σ H' hx ⟨v, rfl, sm⟩
      obtain ⟨k, hk, rfl, ht⟩ := snd_at eK hx
      have hkt := hK k (List.mem_of_getElem? hk)
      have hst : k.2 ∈ stay p := List.mem_of_getElem? ht
      obtain ⟨htm, htp⟩ := mem_stay.mp hst
      refine ⟨fun σ' H2 => σ' = [some (.ref a), some (.ref r), some (.ref s), some (.ref k.1), none, none] ∧ Same H1 H2, ?_, ?_⟩
      · refine ⟨_, rfl, _, rfl, a, k.1, p, k.2, rfl, Same.tup sm ha1, hkt.1 H', hp, htm, fun H2 y s2 hy => ?_⟩
        have s12 := sm.trans s2
        refine ⟨_, rfl, y, a, _, p, rfl, rfl, hy, Same.tup s12 ha1, _, rfl, ?_⟩
        rw [htp, decide_eq_true rfl]
        refine iteF ?_
        refine ⟨_, rfl, k.1, k.2, rfl, hkt, htm, fun H3 z s3 hz => ?_⟩
        refine ⟨_, rfl, z, s, _, _, rfl, rfl, hz, Same.lt (s12.trans s3) hS.lt, _, rfl, ?_⟩
        rw [decide_eq_true (stay_back hp.1 hst)]
        exact iteF ⟨rfl, s12.trans s3⟩
      · rintro σ' H2 ⟨rfl, s2⟩
        refine ⟨_, rfl, s, rfl, ⟨_, s2.seq (SqL.of hks)⟩, fun d hd => ?_⟩
        refine lc_list (K := K) (a := s) (xs := refs ks) (fun i H' => Same H2 H' ∧ LT K H' d []) ⟨Same.new hd, LT.nil⟩ (fun i H' _ ⟨sm, _⟩ => (s2.trans sm).seq (SqL.of hks)) ?_ ?_
        · rintro j x2 H4 hx2 ⟨s4, hl4⟩
          obtain ⟨k2, hk2, rfl, ht2⟩ := snd_at eK hx2
          have hkt2 := hK k2 (List.mem_of_getElem? hk2)
          have hst2 : k2.2 ∈ stay p := List.mem_of_getElem? ht2
          refine ⟨rfl, ?_⟩
          refine ⟨_, rfl, _, rfl, k.1, k2.1, k.2, k2.2, rfl, hkt.1 H4, hkt2.1 H4, htm, (mem_stay.mp hst2).1, fun H5 y s5 hy => ?_⟩
          refine ⟨_, rfl, y, s, _, _, rfl, rfl, hy, Same.lt ((s2.trans s4).trans s5) hS.lt, _, rfl, ?_⟩
          rw [decide_eq_true (stay_after hp.1 hst hst2)]
          exact iteF ⟨s4.trans s5, Same.lt s5 hl4⟩
        · rintro H4 ⟨s4, hl4⟩
          refine ⟨Nat.zero_le _, fun e he => ?_⟩
          refine ⟨d, e, [], [], rfl, rfl, Same.lt (Same.new he) hl4, LT.nil, _, rfl, ?_⟩
          exact iteF ⟨_, rfl, (s2.trans s4).trans (Same.new he)⟩
    · rintro σ H2 ⟨v, rfl, s2⟩
      have hT2 := Same.kl (s1.trans s2) hT
      obtain ⟨kt, hkt, hKT, eT⟩ := id hT2
      refine ⟨_, rfl, r, rfl, ⟨_, SqL.of hkt⟩, fun d hd => ?_⟩
      refine lc_list (K := K) (a := r) (xs := refs kt) (fun i H' => Same H2 H' ∧ KL K H' d ((TURNS.take i).filter fun t => tb p t == p)) ⟨Same.new hd, KL.nil⟩ (fun i H' _ ⟨sm, _⟩ => sm.seq (SqL.of hkt)) ?_ ?_
      · rintro i x H' hx ⟨sm, hl⟩
        obtain ⟨k, hk, rfl, ht⟩ := snd_at eT hx
        have htm := List.mem_of_getElem? ht
        have hi : i < 24 := (List.getElem?_eq_some_iff.mp ht).1
        have hk1 := hKT k (List.mem_of_getElem? hk)
        refine ⟨rfl, ?_⟩
        have ha2 := Same.tup (s2.trans sm) ha1
        refine ⟨_, rfl, _, rfl, a, k.1, p, k.2, rfl, ha2, hk1.1 H', hp, htm, fun H3 y s3 hy => ?_⟩
        refine ⟨_, rfl, y, a, _, p, rfl, rfl, hy, Same.tup s3 ha2, _, rfl, ?_⟩
        refine ite2 (fun hc => ?_) (fun hc => ?_)
        · have hc : tb p k.2 = p := of_decide_eq_true hc
          obtain ⟨acc, e1, e2, e3⟩ := KL.snoc (Same.kl s3 hl) hk1
          refine ⟨_, rfl, acc, e1, ?_, Same.next hd (sm.trans s3), ?_⟩
          · have e4 := List.length_filter_le (fun t => tb p t == p) (TURNS.take i)
            rw [List.length_take, turns_len] at e4
            rw [e2]
            exact small1000 (by omega)
          · rw [tk1 ht, List.filter_append, List.filter_cons, if_pos (by rw [hc]; exact beq_self_eq_true _)]
            exact e3
        · have hc : ¬ tb p k.2 = p := fun z => hc (decide_eq_true z)
          refine ⟨sm.trans s3, ?_⟩
          rw [tk1 ht, List.filter_append, List.filter_cons, if_neg (by rw [beq_iff_eq]; exact hc), List.filter_nil, List.append_nil]
          exact Same.kl s3 hl
      · rintro H3 ⟨s3, hl⟩
        rw [snd_len eT, List.take_length] at hl
        obtain ⟨kd, hkd, _, eD⟩ := hl
        refine ⟨d, _, rfl, .inl (SqL.of hkd), _, rfl, s, _, rfl, .inl ((s2.trans s3).seq (SqL.of hks)), rfl, ?_⟩
        have e : (refs kd).length = (refs ks).length := by
          rw [snd_len eD, snd_len eK]
          rfl
        show Q (.bl (decide (V.int ((refs kd).length : Nat) = V.int ((refs ks).length : Nat)))) H3
        rw [e, eqNat]
        exact q H3 ((s1.trans s2).trans s3)

/-! ### _law_of_glass -/
def spGlass (K : PySem.W.Frag) : Sp := fun vs H Q _ => ∃ (a : Addr) (p : List Int), vs = [.ref a] ∧ TupA K H a p ∧ Six p ∧ ∀ H', Same H H' → Q (.bl true) H'
theorem scGlass : FnScope ["_law_coat_here", "_law_glass", "_law_look"] ["_law_coat_here"] (defScope sGlass) := ⟨rfl, rfl, rfl, by decide +kernel, rfl, by decide +kernel, by decide +kernel⟩
theorem mir_mem {α : Type} {p : List α} (hp : p.length = 6) {x : α} (h : x ∈ mir p) : x ∈ p := by
  match p, hp, h with
  | [a, b, c, d, e, f], _, h =>
    have h : x ∈ [a, b, c, d, f, e] := h
    simp only [List.mem_cons, List.mem_nil_iff, or_false] at h ⊢
    rcases h with h | h | h | h | h | h <;> simp [h]
theorem mir_six {p : List Int} (hp : Six p) : Six (mir p) := ⟨mir_len hp.1, fun n hn => hp.2 n (mir_mem hp.1 hn)⟩
theorem look_six {p x : List Int} (hp : Six p) (h : x ∈ allL p) : Six x := ⟨allL_len hp.1 h, fun n hn => by
  obtain ⟨t, _, rfl⟩ := mem_allL.mp h
  exact hp.2 n (tb_mem hn)⟩
theorem has_glass (D : Df K mg "_law_of_glass" sGlass ["_law_coat_here"]) (T : Bl mg) (GM : Has P w K mg base 5 "mirrored" sMir ["paints"] (spMir K)) (GL : Has P w K mg base 5 "leaving" sLeav ["paints"] (spLeav K)) (GK : Has P w K mg base 5 "looks" sLooks ["paints"] (spLooks K)) :
    Has P w K mg base 6 "_law_of_glass" sGlass ["_law_coat_here"] (spGlass K) := mkHas D fun f fd F => by
  obtain ⟨f1, fd1, F1, m1, b1, G1⟩ := GM
  obtain ⟨f2, fd2, F2, m2, b2, G2⟩ := GL
  obtain ⟨f3, fd3, F3, m3, b3, G3⟩ := GK
  refine F.ok scGlass (fun vs H Q E h => ?_) (fun cdv A outer st H vs Q E hr h => ?_)
  · obtain ⟨a, p, rfl, _⟩ := h
    rfl
  · obtain ⟨a, p, rfl, ha, hp, q⟩ := h
    have nd := scGlass.nd
    obtain ⟨B, hB⟩ := bd_of p hp.2
    refine ⟨_, pss_cons (ps_set (i := 1) nd rfl (Or.inl rfl) (pe_call G1 hr (by rfl) m1 F1.kp b1 .nil pass0 (pa_cons (pv 0) pa_nil)))
      (pss_cons (ps_if (PW.pt (pw_or (pt_cmpR (op_neTT (hu64 hr)) (pe_call G1 hr (by rfl) m1 F1.kp b1 .nil pass0 (pa_cons (pv 1) pa_nil)) (pv 0) (nomark _))
        (pw_or1 (pt_cmpR op_ne (pe_callB call_len_seq (by rfl) T.len (by decide +kernel) (pa_cons (pe_call G2 hr (by rfl) m2 F2.kp b2 .nil pass0 (pa_cons (pv 1) pa_nil)) pa_nil))
          (pe_callB call_len_seq (by rfl) T.len (by decide +kernel) (pa_cons (pe_call G2 hr (by rfl) m2 F2.kp b2 .nil pass0 (pa_cons (pv 0) pa_nil)) pa_nil)) (nomark _))))) pss_never pss_nil)
      (pss_one (ps_ret (pe_cmpR (op_eqLL (hu64 hr)) (pe_callB (cr_sortT (d := 6) (B := B) (by decide)) (by rfl) T.sorted (by decide +kernel) (pa_cons
        (pe_lc (own := [("_law_look", 2)]) (g := gName 2) (tt := tYes) rfl nd (pi_list (pe_call G3 hr (by rfl) m3 F3.kp b3 .nil pass0 (pa_cons (pv 0) pa_nil))) (blkOk_by (N := ["_law_coat_here", "_law_glass", "_law_look"]) (sc := defScope sGlass) (by decide +kernel))
          (fun _ _ _ _ _ => pg_name (i := 2) nd rfl (Or.inl rfl)) (fun _ _ _ _ _ => pts_nil) (fun _ _ _ _ _ => pe_call G1 hr (by rfl) m1 F1.kp b1 .nil pass0 (pa_cons (pv 2) pa_nil))) pa_nil))
        (pe_call G3 hr (by rfl) m3 F3.kp b3 .nil pass0 (pa_cons (pv 1) pa_nil)) (nomark _))))), ?_⟩
    refine ⟨_, rfl, a, p, rfl, ha, hp, fun H1 g s1 hg => ?_⟩
    have hm := mir_six hp
    refine ⟨_, rfl, g, mir p, rfl, hg, hm, fun H2 z s2 hz => ?_⟩
    have s12 := s1.trans s2
    refine ⟨_, rfl, z, a, _, p, rfl, rfl, hz, Same.tup s12 ha, _, rfl, ?_⟩
    rw [mir_mir hp.1, decide_eq_true rfl]
    refine iteF ?_
    refine ⟨_, rfl, g, mir p, rfl, Same.tup s2 hg, hm, fun H3 u s3 hu hU => ?_⟩
    obtain ⟨ku, hku, _, eU⟩ := id hU
    refine ⟨u, _, rfl, .inl (SqL.of hku), _, rfl, a, p, rfl, Same.tup (s12.trans s3) ha, hp, fun H4 v s4 hv hV => ?_⟩
    obtain ⟨kv, hkv, _, eV⟩ := id hV
    refine ⟨v, _, rfl, .inl (SqL.of hkv), rfl, _, rfl, ?_⟩
    have e : (refs ku).length = (refs kv).length := by rw [snd_len eU, snd_len eV, stay_mir hp.1]
    have e2 : decide (V.int ((refs ku).length : Nat) = V.int ((refs kv).length : Nat)) = true := by rw [e, eqNat]
    rw [e2]
    refine iteF ?_
    have s14 := (s12.trans s3).trans s4
    refine ⟨_, rfl, a, p, rfl, Same.tup s14 ha, hp, fun H5 r l s5 hr5 hLk hLT => ?_⟩
    obtain ⟨ks, hks, hA, eK⟩ := id hLT
    refine ⟨r, rfl, ⟨_, SqL.of hks⟩, fun d hd => ?_⟩
    have few := hLk.few hp.1
    refine lc_list (K := K) (a := r) (xs := refs ks) (fun i H' => Same H5 H' ∧ LT K H' d ((l.take i).map mir)) ⟨Same.new hd, LT.nil⟩ (fun i H' _ ⟨sm, _⟩ => sm.seq (SqL.of hks)) ?_ ?_
    · rintro i x H' hx ⟨sm, hl⟩
      obtain ⟨k, hk, rfl, ht⟩ := snd_at eK hx
      have hx6 := look_six hp ((hLk.mem _).mp (List.mem_of_getElem? ht))
      have hi : i < l.length := (List.getElem?_eq_some_iff.mp ht).1
      refine ⟨rfl, yes_ (iteT ?_)⟩
      refine ⟨_, rfl, k.1, k.2, rfl, Same.tup sm (hA k (List.mem_of_getElem? hk)), hx6, fun H6 y s6 hy => ?_⟩
      obtain ⟨acc, e1, e2, e3⟩ := LT.snoc (Same.lt s6 hl) hy
      refine ⟨acc, e1, ?_, Same.next hd (sm.trans s6), ?_⟩
      · rw [e2, List.length_map, List.length_take]
        exact small1000 (by omega)
      · rw [tk1 ht, List.map_append]
        exact e3
    · rintro H6 ⟨s6, hl⟩
      rw [snd_len eK, List.take_length] at hl
      obtain ⟨kd, hkd, hAd, eD⟩ := hl
      have good : ∀ k ∈ kd, k.2.length = 6 ∧ TS.Bd B k.2 := fun k hk => by
        have hm2 : k.2 ∈ l.map mir := by
          rw [← eD]
          exact List.mem_map.mpr ⟨k, hk, rfl⟩
        obtain ⟨y, hy, e⟩ := List.mem_map.mp hm2
        have hy2 := (hLk.mem y).mp hy
        have hy6 := allL_len hp.1 hy2
        obtain ⟨t, _, et⟩ := mem_allL.mp hy2
        rw [← e]
        refine ⟨mir_len hy6, fun n hn => hB n ?_⟩
        have hn2 := mir_mem hy6 hn
        rw [← et] at hn2
        exact tb_mem hn2
      have ldlen : kd.length = l.length := by
        have z := congrArg List.length eD
        rw [List.length_map, List.length_map] at z
        exact z
      refine ⟨d, refs kd, rfl, SqL.of hkd, by rw [List.length_map]; omega, fun x hx => ?_, fun ys v2 pm pw hv2 => ?_⟩
      · obtain ⟨k, hk, rfl⟩ := List.mem_map.mp hx
        exact ⟨k.2, ⟨k.1, rfl, hAd k hk⟩, good k hk⟩
      obtain ⟨ks', pm', rfl⟩ := perm_map_inv pm kd rfl
      have s7 : Same H6 (upd H6 v2 (.lst (refs ks'))) := Same.new hv2
      have inD : ∀ k ∈ ks', k ∈ kd := fun k hk => pm'.mem_iff.mp hk
      have pm2 : (ks'.map (·.2)).Perm (l.map mir) := by
        rw [← eD]
        exact pm'.map _
      have nd2 : (l.map mir).Nodup := by
        refine List.pairwise_map.mpr (List.Pairwise.imp_of_mem (fun {x y} hx hy hne e => ?_) (rising_nodup hLk.up))
        exact hne (mir_inj (allL_len hp.1 ((hLk.mem x).mp hx)) (allL_len hp.1 ((hLk.mem y).mp hy)) e)
      have pw2 : ks'.Pairwise fun q r => TS.code B q.2 ≤ TS.code B r.2 :=
        List.Pairwise.imp_of_mem (fun {x y} hx hy h => h x.2 y.2 ⟨x.1, rfl, hAd x (inD x hx)⟩ ⟨y.1, rfl, hAd y (inD y hy)⟩) (List.pairwise_map.mp pw)
      have up := rising_of (pm2.nodup_iff.mpr nd2) (fun k hk => good k (inD k hk)) pw2
      have LkM := hLk.mirrored hp.1 up pm2
      have hS : LT K (upd H6 v2 (.lst (refs ks'))) v2 (ks'.map (·.2)) := ⟨ks', upd_same, fun k hk => Same.tup s7 (hAd k (inD k hk)), rfl⟩
      have s27 := (((s3.trans s4).trans s5).trans s6).trans s7
      refine ⟨_, rfl, g, mir p, rfl, Same.tup (s2.trans s27) hg, hm, fun H8 r2 l2 s8 hr8 hLk2 hLT2 => ?_⟩
      refine ⟨v2, r2, _, l2, rfl, rfl, Same.lt s8 hS, hLT2, ?_⟩
      rw [LkM.one hLk2, decide_eq_true rfl]
      exact q H8 ((s12.trans s27).trans s8)
end
end Cub

namespace Cub
open PySem PySem.Spec PyProof.Rows L2
section
variable {P : Program} {w : World} {K : PySem.W.Frag} {mg : Str → Option Value} {base : Heap}
/-- tuples stay where a dict is changed -/
theorem tup_updK {H : Hp} {D a : Addr} {kvs : List (Key × V)} {o : HO} {xs : List V} (hD : H D = some (.dK kvs)) (h : SqT K H a xs) : SqT K (upd H D o) a xs := by
  rcases h with (h | ⟨u, h⟩) | h
  · exact .inl (.inl ((upd_ne (ne_of h hD (by intro z; cases z))).trans h))
  · exact .inl (.inr ⟨u, (upd_ne (ne_of h hD (by intro z; cases z))).trans h⟩)
  · exact .inr h
theorem LT.updK {H : Hp} {D r : Addr} {kvs : List (Key × V)} {o : HO} {ls : List (List Int)} (hD : H D = some (.dK kvs)) (h : LT K H r ls) : LT K (upd H D o) r ls := by
  obtain ⟨ks, h1, h2, h3⟩ := h
  exact ⟨ks, (upd_ne (ne_of h1 hD (by intro z; cases z))).trans h1, fun p hp => tup_updK hD (h2 p hp), h3⟩
theorem KL.updK {H : Hp} {D r : Addr} {kvs : List (Key × V)} {o : HO} {ls : List (List Int)} (hD : H D = some (.dK kvs)) (h : KL K H r ls) : KL K (upd H D o) r ls := by
  obtain ⟨ks, h1, h2, h3⟩ := h
  exact ⟨ks, (upd_ne (ne_of h1 hD (by intro z; cases z))).trans h1, h2, h3⟩
theorem refs_at {ks : List (Addr × List Int)} {ls : List (List Int)} (h : ks.map (·.2) = ls) {k : Int} (h0 : 0 ≤ k) (h1 : k < ls.length) : ∃ p ∈ ks, ls[k.toNat]? = some p.2 ∧ p.2 ∈ ls ∧ atI (refs ks) k = some (V.ref p.1) := by
  have hl := congrArg List.length h
  rw [List.length_map] at hl
  have hk : k.toNat < ks.length := by omega
  have e : ks[k.toNat]? = some ks[k.toNat] := List.getElem?_eq_getElem hk
  have e2 : ls[k.toNat]? = some ks[k.toNat].2 := by rw [← h, List.getElem?_map, e] <;> rfl
  refine ⟨ks[k.toNat], List.getElem_mem hk, e2, List.mem_of_getElem? e2, at_of (j := k.toNat) (by omega) ?_⟩
  rw [List.getElem?_map, e] <;> rfl
theorem putK_len (kvs : List (Key × V)) (k : Key) (v : V) : (putK kvs k v).length ≤ kvs.length + 1 := by
  unfold putK
  split
  · rw [List.length_map]
    exact Nat.le_succ _
  · rw [List.length_append, List.length_singleton]
    exact Nat.le_refl _
/-- the fresh paints of the first ones -/
structure Fresh (us : List Int) (kvs : List (Key × V)) (g : Int → Int) (last : Int) : Prop where
  has : ∀ n ∈ us, valV kvs (Sum.inl n) = some (.int (g n))
  pos : ∀ n ∈ us, 0 < g n
  top : ∀ n ∈ us, g n ≤ last
  up : ∀ x ∈ us, ∀ y ∈ us, x < y → g x < g y
theorem Fresh.snoc {us : List Int} {kvs : List (Key × V)} {g : Int → Int} {last u new : Int} (h : Fresh us kvs g last) (hu : ∀ x ∈ us, x < u) (h0 : 0 ≤ last) (hn : last < new) :
    Fresh (us ++ [u]) (putK kvs (Sum.inl u) (.int new)) (fun n => if n = u then new else g n) new := by
  have ne : ∀ n ∈ us, n ≠ u := fun n hn => by have := hu n hn; omega
  have old : ∀ n ∈ us, (if n = u then new else g n) = g n := fun n hn => if_neg (ne n hn)
  have me : (if u = u then new else g u) = new := if_pos rfl
  refine ⟨fun n hn2 => ?_, fun n hn2 => ?_, fun n hn2 => ?_, fun x hx y hy hxy => ?_⟩
  · rw [valV_put]
    rcases List.mem_append.mp hn2 with z | z
    · rw [if_neg (fun q => ne n z (Sum.inl.inj q)), h.has n z, old n z]
    · have z := List.mem_singleton.mp z
      subst z
      rw [if_pos rfl, if_pos rfl]
  · show 0 < if n = u then new else g n
    rcases List.mem_append.mp hn2 with z | z
    · rw [old n z]
      exact h.pos n z
    · have z := List.mem_singleton.mp z
      subst z
      rw [me]
      omega
  · show (if n = u then new else g n) ≤ new
    rcases List.mem_append.mp hn2 with z | z
    · rw [old n z]
      have := h.top n z
      omega
    · have z := List.mem_singleton.mp z
      subst z
      rw [me]
      exact Int.le_refl _
  · show (if x = u then new else g x) < if y = u then new else g y
    rcases List.mem_append.mp hx with zx | zx
    · rw [old x zx]
      rcases List.mem_append.mp hy with zy | zy
      · rw [old y zy]
        exact h.up x zx y zy hxy
      · have zy := List.mem_singleton.mp zy
        subst zy
        rw [me]
        have := h.top x zx
        omega
    · have zx := List.mem_singleton.mp zx
      subst zx
      rcases List.mem_append.mp hy with zy | zy
      · have := hu y zy
        omega
      · have zy := List.mem_singleton.mp zy
        omega

theorem Fresh.none : Fresh [] [] (fun _ => 0) 0 := ⟨fun n h => by simp at h, fun n h => by simp at h, fun n h => by simp at h, fun n h => by simp at h⟩
theorem before_lt {us : List Int} (h : us.Pairwise (· < ·)) {j : Nat} {u : Int} (hu : us[j]? = some u) : ∀ x ∈ us.take j, x < u := by
  intro x hx
  obtain ⟨i, hi, e⟩ := List.mem_iff_getElem.mp hx
  rw [List.length_take] at hi
  rw [List.getElem_take] at e
  obtain ⟨hj, ej⟩ := List.getElem?_eq_some_iff.mp hu
  rw [← e, ← ej]
  exact List.pairwise_iff_getElem.mp h i j (by omega) hj (by omega)
theorem ifF {c : Bool} {A B : Prop} (hc : c = false) (k : B) : if c = true then A else B := by
  rw [hc]
  exact iteF k

/-! ### the law -/
def spLaw (K : PySem.W.Frag) : Sp := fun vs H Q _ => ∃ (a : Addr) (ns : List Int), vs = [.ref a] ∧ SqL K H a (ns.map V.int) ∧ ns.length ≤ 63 ∧ ∀ H', Q (.bl true) H'
abbrev NL : List Str := ["_law_script", "_law_purse_here", "_law_some", "_law_k", "_law_coat_here", "_law_first", "_law_second", "_law_found", "_law_look", "_law_now", "_law_fresh", "_law_last", "_law_tone", "_law_one"]
theorem scLaw : FnScope NL ["_law_script"] (defScope sLaw) := ⟨rfl, rfl, rfl, by decide +kernel, rfl, by decide +kernel, by decide +kernel⟩
/-- the promises that the law leans on -/
structure All (P : Program) (w : World) (K : PySem.W.Frag) (mg : Str → Option Value) (base : Heap) : Prop where
  purse : Has P w K mg base 1 "_law_purse" sPurse ["_law_script"] (spPurse K)
  turns : Has P w K mg base 2 "turns" sTurns [] (spAllT K)
  coat : Has P w K mg base 3 "_law_coat" sCoat ["_law_purse_here"] (spCoat K)
  draw : Has P w K mg base 1 "_law_draw" sDraw ["_law_purse_here", "_law_out_of"] spDraw
  looks : Has P w K mg base 5 "looks" sLooks ["paints"] (spLooks K)
  leav : Has P w K mg base 5 "leaving" sLeav ["paints"] (spLeav K)
  least : Has P w K mg base 5 "least_paints" sLeastP ["paints"] (spLeast K)
  closed : Has P w K mg base 6 "_law_closed" sClosed ["_law_coat_here", "_law_some"] (spClosed K)
  turned : Has P w K mg base 5 "turned" sTurned ["paints", "turn"] (spTurned K)
  putT : Has P w K mg base 5 "put_together" sPutT ["one", "other"] (spAfter K)
  back : Has P w K mg base 5 "turned_back" sBack ["turn"] (spBack K)
  ren : Has P w K mg base 1 "_law_renamed" sRen ["_law_coat_here", "_law_fresh"] (spRen K)
  glass : Has P w K mg base 6 "_law_of_glass" sGlass ["_law_coat_here"] (spGlass K)
theorem ok_law {f : Addr} {fd : FuncData} (F : Fun K "law" "law" sLaw f fd) (T : Bl mg) (G : All P w K mg base) : FnOk P w K mg base CX0 7 f fd ["_law_script"] (spLaw K) := by
  obtain ⟨f1, fd1, F1, m1, b1, G1⟩ := G.purse
  obtain ⟨f2, fd2, F2, m2, b2, G2⟩ := G.turns
  obtain ⟨f3, fd3, F3, m3, b3, G3⟩ := G.coat
  obtain ⟨f4, fd4, F4, m4, b4, G4⟩ := G.draw
  obtain ⟨f5, fd5, F5, m5, b5, G5⟩ := G.looks
  obtain ⟨f6, fd6, F6, m6, b6, G6⟩ := G.leav
  obtain ⟨f7, fd7, F7, m7, b7, G7⟩ := G.least
  obtain ⟨f8, fd8, F8, m8, b8, G8⟩ := G.closed
  obtain ⟨f9, fd9, F9, m9, b9, G9⟩ := G.turned
  obtain ⟨f10, fd10, F10, m10, b10, G10⟩ := G.putT
  obtain ⟨f11, fd11, F11, m11, b11, G11⟩ := G.back
  obtain ⟨f12, fd12, F12, m12, b12, G12⟩ := G.ren
  obtain ⟨f13, fd13, F13, m13, b13, G13⟩ := G.glass
  refine F.ok scLaw (fun vs H Q E h => ?_) (fun cdv A outer st H vs Q E hr h => ?_)
  · obtain ⟨a, ns, rfl, _⟩ := h
    rfl
  · obtain ⟨a, ns, rfl, ha, h63, q⟩ := h
    have nd := scLaw.nd
    have hr1 : Room 1 _ := hr.mono (by decide)
    have hr5 : Room 5 _ := hr.mono (by decide)
    refine ⟨_, pss_cons (ps_set (i := 1) nd rfl (Or.inl rfl) (pe_call G1 hr1 (by rfl) m1 F1.kp b1 .nil pass0 (pa_cons (pv 0) pa_nil)))
      (pss_cons (ps_set (i := 2) nd rfl (Or.inl rfl) (pe_call0 G2 (hr.mono (by decide)) (by rfl) m2 F2.kp b2 .nil pass0))
      (pss_cons (ps_for PassesOwn.never rfl (pi_range1 (by rfl) T.range (pa_cons pe_int pa_nil)) (pg_name (i := 3) nd rfl (Or.inl rfl))
        -- coat, first, second
        (pss_mid (ps_set (i := 4) nd rfl (Or.inl rfl) (pe_call G3 (hr.mono (by decide)) (by rfl) m3 F3.kp b3 .nil pass0 (pa_cons (pv 1) pa_nil)))
        (pss_mid (ps_par (i := 5) (j := 6) rfl nd rfl rfl (by decide) rfl rfl (pa_cons (pe_ix ix_list (pv 2) (pe_call G4 hr1 (by rfl) m4 F4.kp b4 .nil pass0 (pa_cons (pv 1) (pa_cons pe_int pa_nil))) (fun _ _ => rfl))
          (pa_cons (pe_ix ix_list (pv 2) (pe_call G4 hr1 (by rfl) m4 F4.kp b4 .nil pass0 (pa_cons (pv 1) (pa_cons pe_int pa_nil))) (fun _ _ => rfl)) pa_nil)) (by rfl))
        -- found
        (pss_mid (ps_set (i := 7) nd rfl (Or.inl rfl) (pe_call G5 hr5 (by rfl) m5 F5.kp b5 .nil pass0 (pa_cons (pv 4) pa_nil)))
        (pss_mid (ps_if (PW.pt (pw_or (pt_cmpR op_ne (pe_op op_mul (pe_callB call_len_seq (by rfl) T.len (by decide +kernel) (pa_cons (pv 7) pa_nil))
            (pe_callB call_len_seq (by rfl) T.len (by decide +kernel) (pa_cons (pe_call G6 hr5 (by rfl) m6 F6.kp b6 .nil pass0 (pa_cons (pv 4) pa_nil)) pa_nil))) pe_int (nomark _))
          (pw_or (pt_cmpR (op_notInTL (hu65 hr)) (pv 4) (pv 7) (by rfl))
          (pw_or1 (pt_cmpR (op_neTT (hu64 hr)) (pe_ix ix_list (pv 7) pe_int (fun _ _ => rfl)) (pe_call G7 hr5 (by rfl) m7 F7.kp b7 .nil pass0 (pa_cons (pv 4) pa_nil)) (nomark _)))))) pss_never pss_nil)
        -- look
        (pss_mid (ps_set (i := 8) nd rfl (Or.inl rfl) (pe_ix ix_list (pv 7) (pe_call G4 hr1 (by rfl) m4 F4.kp b4 .nil pass0 (pa_cons (pv 1) (pa_cons (pe_callB call_len_seq (by rfl) T.len (by decide +kernel) (pa_cons (pv 7) pa_nil)) pa_nil))) (fun _ _ => rfl)))
        (pss_mid (ps_if (PW.pt (pw_or (pt_cmpR (op_neLL (hu64 hr)) (pe_call G5 hr5 (by rfl) m5 F5.kp b5 .nil pass0 (pa_cons (pv 8) pa_nil)) (pv 7) (nomark _))
          (pw_or (pt_cmpR (op_neTT (hu64 hr)) (pe_call G7 hr5 (by rfl) m7 F7.kp b7 .nil pass0 (pa_cons (pv 8) pa_nil)) (pe_ix ix_list (pv 7) pe_int (fun _ _ => rfl)) (nomark _))
          (pw_or1 (pt_not (pt_val (pe_call G8 hr (by rfl) m8 F8.kp b8 .nil pass0 (pa_cons (pv 4) (pa_cons (pv 2) pa_nil))))))))) pss_never pss_nil)
        -- now
        (pss_mid (ps_set (i := 9) nd rfl (Or.inl rfl) (pe_call G9 hr5 (by rfl) m9 F9.kp b9 .nil pass0 (pa_cons (pe_call G9 hr5 (by rfl) m9 F9.kp b9 .nil pass0 (pa_cons (pv 4) (pa_cons (pv 5) pa_nil))) (pa_cons (pv 6) pa_nil))))
        (pss_mid (ps_if (PW.pt (pw_or (pt_cmpR (op_neTT (hu64 hr)) (pv 9) (pe_call G9 hr5 (by rfl) m9 F9.kp b9 .nil pass0 (pa_cons (pv 4) (pa_cons (pe_call G10 hr5 (by rfl) m10 F10.kp b10 .nil pass0 (pa_cons (pv 5) (pa_cons (pv 6) pa_nil))) pa_nil))) (nomark _))
          (pw_or1 (pt_cmpR (op_notInTL (hu65 hr)) (pv 9) (pv 7) (by rfl))))) pss_never pss_nil)
        (pss_mid (ps_if (PW.pt (pw_or (pt_cmpR (op_neTT (hu64 hr)) (pe_call G9 hr5 (by rfl) m9 F9.kp b9 .nil pass0 (pa_cons (pe_call G9 hr5 (by rfl) m9 F9.kp b9 .nil pass0 (pa_cons (pv 4) (pa_cons (pv 5) pa_nil)))
            (pa_cons (pe_call G11 hr5 (by rfl) m11 F11.kp b11 .nil pass0 (pa_cons (pv 5) pa_nil)) pa_nil))) (pv 4) (nomark _))
          (pw_or1 (pt_cmpR op_ne (pe_callB call_len_seq (by rfl) T.len (by decide +kernel) (pa_cons (pe_call G6 hr5 (by rfl) m6 F6.kp b6 .nil pass0 (pa_cons (pv 9) pa_nil)) pa_nil))
            (pe_callB call_len_seq (by rfl) T.len (by decide +kernel) (pa_cons (pe_call G6 hr5 (by rfl) m6 F6.kp b6 .nil pass0 (pa_cons (pv 4) pa_nil)) pa_nil)) (nomark _))))) pss_never pss_nil)
        -- fresh
        (pss_cons (ps_set (i := 10) nd rfl (Or.inr rfl) pe_dnewK)
        (pss_cons (ps_set (i := 11) nd rfl (Or.inl rfl) pe_int)
        (pss_mid (ps_for PassesOwn.never rfl (pi_list (pe_callB (cr_sortedSet rfl) (by rfl) T.sorted (by decide +kernel) (pa_cons (pe_callTy (cr_setOfI rfl) (by rfl) T.set (by decide +kernel) (pa_cons (pv 4) pa_nil)) pa_nil))) (pg_name (i := 12) nd rfl (Or.inl rfl))
          (pss_cons (ps_set (i := 11) nd rfl (Or.inl rfl) (pe_op op_add (pe_op op_add (pv 11) pe_int) (pe_call G4 hr1 (by rfl) m4 F4.kp b4 .nil pass0 (pa_cons (pv 1) (pa_cons (pe_op op_pow pe_int pe_int) pa_nil)))))
          (pss_one (ps_dput (hu_of hr) (pv 10) (pv 12) (pv 11) rfl))))
        (pss_mid (ps_if (pt_cmpR (op_neLL (hu64 hr)) (pe_call G5 hr5 (by rfl) m5 F5.kp b5 .nil pass0 (pa_cons (pe_call G12 hr1 (by rfl) m12 F12.kp b12 .nil pass0 (pa_cons (pv 4) (pa_cons (pv 10) pa_nil))) pa_nil))
          (pe_lc (own := [("_law_one", 13)]) (g := gName 13) (tt := tYes) rfl nd (pi_list (pv 7)) (blkOk_by (N := NL) (sc := defScope sLaw) (by decide +kernel))
            (fun _ _ _ _ _ => pg_name (i := 13) nd rfl (Or.inl rfl)) (fun _ _ _ _ _ => pts_nil) (fun _ _ _ _ _ => pe_call G12 hr1 (by rfl) m12 F12.kp b12 .nil pass0 (pa_cons (pv 13) (pa_cons (pv 10) pa_nil)))) (nomark _)) pss_never pss_nil)
        (pss_one (ps_if (pt_not (pt_val (pe_call G13 hr (by rfl) m13 F13.kp b13 .nil pass0 (pa_cons (pv 4) pa_nil)))) pss_never pss_nil))))))))))))))))
      (pss_one (ps_ret pe_bl)))), ?_⟩
    refine ⟨_, rfl, a, ns, rfl, ha, h63, fun H1 p c s1 hp hc hP1 => ?_⟩
    refine ⟨rfl, fun H2 s s2 hs hT2 => ?_⟩
    obtain ⟨sp, sc⟩ := hP1.apart hs
    refine ⟨8, rfl, by decide, by decide, ?_⟩
    refine for_range (lo := 0) (fun i σ H' => ∃ v3 v4 v5 v6 v7 v8 v9 v10 v11 v12 v13, σ = [some (.ref a), some (.ref p), some (.ref s), v3, v4, v5, v6, v7, v8, v9, v10, v11, v12, v13] ∧ Purse p c (100 * i) H' ∧ KL K H' s TURNS)
      ⟨none, none, none, none, none, none, none, none, none, none, none, rfl, hP1.same s2, hT2⟩ ?_ ?_
    · rintro i σ H3 hi ⟨v3, v4, v5, v6, v7, v8, v9, v10, v11, v12, v13, rfl, hP3, hT3⟩
      have hi8 : i < 8 := hi
      -- coat
      refine ⟨fun σ H4 => ∃ (ca : Addr) (cs : List Int) (v3 : Option V), σ = [some (.ref a), some (.ref p), some (.ref s), v3, some (.ref ca), v5, v6, v7, v8, v9, v10, v11, v12, v13] ∧ Purse p c (100 * i + 30) H4 ∧ KL K H4 s TURNS ∧ TupA K H4 ca cs ∧ Six cs, ?_, ?_⟩
      · exact ⟨_, rfl, p, c, _, rfl, hP3, by omega, fun H4 ca cs k4 hca h6 hP4 => ⟨ca, cs, _, rfl, hP4, k4.kl sp sc hT3, hca, h6⟩⟩
      clear v3
      rintro σ H4 ⟨ca, cs, v3, rfl, hP4, hT4, hca4, h6⟩
      -- first, second
      refine ⟨fun σ H5 => ∃ (fa sa : Addr) (ft su : List Int), σ = [some (.ref a), some (.ref p), some (.ref s), v3, some (.ref ca), some (.ref fa), some (.ref sa), v7, v8, v9, v10, v11, v12, v13] ∧ Purse p c (100 * i + 32) H5 ∧ KL K H5 s TURNS ∧ TupA K H5 ca cs ∧ KTup K fa ft ∧ ft ∈ TURNS ∧ KTup K sa su ∧ su ∈ TURNS, ?_, ?_⟩
      · refine ⟨_, rfl, _, rfl, p, c, _, 24, rfl, hP4, by omega, by decide, by decide, fun H5 k k5 hP5 k0 k24 => ?_⟩
        have hT5 := k5.kl sp sc hT4
        obtain ⟨kT, hkT, hKT, eT⟩ := id hT5
        obtain ⟨fp, hfp, _, e2, e3⟩ := refs_at eT k0 k24
        refine ⟨s, _, k, _, rfl, rfl, SqL.of hkT, e3, ?_⟩
        refine ⟨_, rfl, _, rfl, p, c, _, 24, rfl, hP5, by omega, by decide, by decide, fun H6 k' k6 hP6 k0' k24' => ?_⟩
        have hT6 := k6.kl sp sc hT5
        obtain ⟨kT', hkT', hKT', eT'⟩ := id hT6
        obtain ⟨gp, hgp, _, e2', e3'⟩ := refs_at eT' k0' k24'
        refine ⟨s, _, k', _, rfl, rfl, SqL.of hkT', e3', _, _, rfl, ?_⟩
        exact ⟨fp.1, gp.1, fp.2, gp.2, rfl, hP6.mono (by omega), hT6, k6.tup hP5 (k5.tup hP4 hca4), hKT fp hfp, e2, hKT' gp hgp, e2'⟩
      clear v5 v6
      rintro σ H6 ⟨fa, sa, ft, su, rfl, hP6, hT6, hca6, hfa, hft, hsa, hsu⟩
      -- found
      refine ⟨fun σ H7 => ∃ (fo : Addr) (l : List (List Int)), σ = [some (.ref a), some (.ref p), some (.ref s), v3, some (.ref ca), some (.ref fa), some (.ref sa), some (.ref fo), v8, v9, v10, v11, v12, v13] ∧ Purse p c (100 * i + 32) H7 ∧ KL K H7 s TURNS ∧ TupA K H7 ca cs ∧ fo ≠ p ∧ fo ≠ c ∧ Looks cs l ∧ LT K H7 fo l, ?_, ?_⟩
      · refine ⟨_, rfl, ca, cs, rfl, hca6, h6, fun H7 fo l s7 hfo hLk hLT => ?_⟩
        obtain ⟨fop, foc⟩ := hP6.apart hfo
        exact ⟨fo, l, rfl, hP6.same s7, Same.kl s7 hT6, Same.tup s7 hca6, fop, foc, hLk, hLT⟩
      clear v7
      rintro σ H7 ⟨fo, l, rfl, hP7, hT7, hca7, fop, foc, hLk, hLT7⟩
      have lpos := hLk.pos h6.1
      have lfew := hLk.few h6.1
      refine ⟨fun σ H8 => σ = [some (.ref a), some (.ref p), some (.ref s), v3, some (.ref ca), some (.ref fa), some (.ref sa), some (.ref fo), v8, v9, v10, v11, v12, v13] ∧ Same H7 H8, ?_, ?_⟩
      · obtain ⟨kf, hkf, hAf, ef⟩ := id hLT7
        obtain ⟨p0, hp0, e1, _, e3⟩ := refs_at ef (k := 0) (Int.le_refl _) (by omega)
        refine ⟨_, rfl, fo, _, rfl, .inl (SqL.of hkf), _, rfl, ca, cs, rfl, hca7, h6, fun H8 u s8 hu hU => ?_⟩
        obtain ⟨ku, hku, _, eu⟩ := hU
        have lf : (refs kf).length = l.length := snd_len ef
        have lu : (refs ku).length = (stay cs).length := snd_len eu
        refine ⟨u, _, rfl, .inl (SqL.of hku), _, _, rfl, rfl, mulL (by omega) (by rw [lf]; omega), rfl, _, rfl, ifF ?_ ?_⟩
        · show (!decide (V.int (((refs kf).length : Nat) * ((refs ku).length : Nat)) = V.int 24)) = false
          have e : (((refs kf).length : Nat) : Int) * ((refs ku).length : Nat) = 24 := by
            rw [lf, lu, ← Int.natCast_mul, hLk.many h6.1]
            rfl
          rw [e, decide_eq_true rfl]
          rfl
        refine ⟨_, rfl, _, rfl, ca, fo, cs, l, rfl, rfl, Same.tup s8 hca7, Same.lt s8 hLT7, _, rfl, ifF ?_ ?_⟩
        · rw [decide_eq_true (hLk.self h6.1)]
          rfl
        refine ⟨_, rfl, fo, _, 0, _, rfl, rfl, SqL.of (s8 _ _ hkf), e3, _, rfl, ca, cs, rfl, Same.tup s8 hca7, h6, fun H9 m ms s9 hm hms => ?_⟩
        refine ⟨p0.1, m, p0.2, ms, rfl, rfl, Same.tup (s8.trans s9) (hAf p0 hp0), hms, _, rfl, ifF ?_ ⟨rfl, s8.trans s9⟩⟩
        have e : p0.2 = ms := Option.some.inj (e1.symm.trans (hLk.least hm))
        rw [decide_eq_true e]
        rfl
      rintro σ H8 ⟨rfl, s8⟩
      have hP8 := hP7.same s8
      have hT8 := Same.kl s8 hT7
      have hca8 := Same.tup s8 hca7
      have hLT8 := Same.lt s8 hLT7
      clear hP7 hT7 hca7 hLT7 s8
      -- look
      refine ⟨fun σ H9 => ∃ (la : Addr) (lk : List Int), σ = [some (.ref a), some (.ref p), some (.ref s), v3, some (.ref ca), some (.ref fa), some (.ref sa), some (.ref fo), some (.ref la), v9, v10, v11, v12, v13] ∧ Purse p c (100 * i + 33) H9 ∧ KL K H9 s TURNS ∧ TupA K H9 ca cs ∧ LT K H9 fo l ∧ TupA K H9 la lk ∧ lk ∈ l, ?_, ?_⟩
      · obtain ⟨kf, hkf, hAf, ef⟩ := id hLT8
        have lf : (refs kf).length = l.length := snd_len ef
        refine ⟨_, rfl, _, rfl, _, rfl, fo, _, rfl, .inl (SqL.of hkf), p, c, _, _, rfl, hP8, by omega, by rw [lf]; omega, by rw [lf]; omega, fun H9 k k9 hP9 k0 kn => ?_⟩
        rw [lf] at kn
        obtain ⟨fp, hfp, _, e2, e3⟩ := refs_at ef k0 kn
        refine ⟨fo, _, k, _, rfl, rfl, SqL.of (k9 _ _ hkf fop foc), e3, ?_⟩
        exact ⟨fp.1, fp.2, rfl, hP9, k9.kl sp sc hT8, k9.tup hP8 hca8, k9.lt hP8 fop foc hLT8, k9.tup hP8 (hAf fp hfp), e2⟩
      clear v8
      rintro σ H9 ⟨la, lk, rfl, hP9, hT9, hca9, hLT9, hla9, hlk⟩
      have hlk6 := look_six h6 ((hLk.mem lk).mp hlk)
      refine ⟨fun σ H10 => σ = [some (.ref a), some (.ref p), some (.ref s), v3, some (.ref ca), some (.ref fa), some (.ref sa), some (.ref fo), some (.ref la), v9, v10, v11, v12, v13] ∧ Same H9 H10, ?_, ?_⟩
      · obtain ⟨kf, hkf, hAf, ef⟩ := id hLT9
        obtain ⟨p0, hp0, e1, _, e3⟩ := refs_at ef (k := 0) (Int.le_refl _) (by omega)
        refine ⟨_, rfl, la, lk, rfl, hla9, hlk6, fun H10 r2 l2 s10 hr2 hLk2 hLT2 => ?_⟩
        refine ⟨_, rfl, r2, fo, l2, l, rfl, rfl, hLT2, Same.lt s10 hLT9, _, rfl, ifF ?_ ?_⟩
        · rw [decide_eq_true ((hLk.of h6.1 hlk).one hLk2).symm]
          rfl
        refine ⟨_, rfl, la, lk, rfl, Same.tup s10 hla9, hlk6, fun H11 m ms s11 hm hms => ?_⟩
        have s911 := s10.trans s11
        refine ⟨_, rfl, fo, _, 0, _, rfl, rfl, SqL.of (s911 _ _ hkf), e3, ?_⟩
        refine ⟨m, p0.1, ms, p0.2, rfl, rfl, hms, Same.tup s911 (hAf p0 hp0), _, rfl, ifF ?_ ?_⟩
        · have e : p0.2 = ms := Option.some.inj (e1.symm.trans ((hLk.of h6.1 hlk).least hm))
          rw [decide_eq_true e.symm]
          rfl
        refine ⟨_, rfl, _, rfl, ca, s, cs, rfl, Same.tup s911 hca9, h6, Same.kl s911 hT9, fun H12 s12 => ⟨true, rfl, iteF ⟨rfl, s911.trans s12⟩⟩⟩
      rintro σ H10 ⟨rfl, s10⟩
      have hP10 := hP9.same s10
      have hT10 := Same.kl s10 hT9
      have hca10 := Same.tup s10 hca9
      have hLT10 := Same.lt s10 hLT9
      clear hP9 hT9 hca9 hLT9 s10 hla9
      -- now
      have h6f : Six (tb cs ft) := look_six h6 (mem_allL.mpr ⟨ft, hft, rfl⟩)
      have enow : tb (tb cs ft) su = tb cs (after ft su) := tb_tb h6.1 hft hsu
      have hfs := after_mem ft hft su hsu
      have mnow : tb cs (after ft su) ∈ allL cs := mem_allL.mpr ⟨_, hfs, rfl⟩
      have h6n : Six (tb cs (after ft su)) := look_six h6 mnow
      refine ⟨fun σ H11 => ∃ na : Addr, σ = [some (.ref a), some (.ref p), some (.ref s), v3, some (.ref ca), some (.ref fa), some (.ref sa), some (.ref fo), some (.ref la), some (.ref na), v10, v11, v12, v13] ∧ Same H10 H11 ∧ TupA K H11 na (tb cs (after ft su)), ?_, ?_⟩
      · refine ⟨_, rfl, _, rfl, ca, fa, cs, ft, rfl, hca10, hfa.1 _, h6, hft, fun H11 y s11 hy => ?_⟩
        refine ⟨_, rfl, y, sa, _, su, rfl, hy, hsa.1 _, h6f, hsu, fun H12 z s12 hz => ?_⟩
        rw [enow] at hz
        exact ⟨z, rfl, s11.trans s12, hz⟩
      clear v9
      rintro σ H11 ⟨na, rfl, s11, hna11⟩
      refine ⟨fun σ H12 => σ = [some (.ref a), some (.ref p), some (.ref s), v3, some (.ref ca), some (.ref fa), some (.ref sa), some (.ref fo), some (.ref la), some (.ref na), v10, v11, v12, v13] ∧ Same H11 H12, ?_, ?_⟩
      · refine ⟨_, rfl, _, rfl, _, rfl, _, rfl, fa, sa, ft, su, rfl, hfa.1 _, hsa.1 _, hft, hsu, fun H12 pt s12 hpt => ?_⟩
        refine ⟨ca, pt, cs, _, rfl, Same.tup (s11.trans s12) hca10, hpt, h6, hfs, fun H13 w2 s13 hw => ?_⟩
        have s1113 := s12.trans s13
        refine ⟨na, w2, _, _, rfl, rfl, Same.tup s1113 hna11, hw, _, rfl, ifF ?_ ?_⟩
        · rw [decide_eq_true rfl]
          rfl
        refine ⟨_, rfl, _, rfl, na, fo, _, l, rfl, rfl, Same.tup s1113 hna11, Same.lt (s11.trans s1113) hLT10, _, rfl, ifF ?_ ⟨rfl, s1113⟩⟩
        rw [decide_eq_true ((hLk.mem _).mpr mnow)]
        rfl
      rintro σ H12 ⟨rfl, s12⟩
      have s1012 := s11.trans s12
      refine ⟨fun σ H13 => σ = [some (.ref a), some (.ref p), some (.ref s), v3, some (.ref ca), some (.ref fa), some (.ref sa), some (.ref fo), some (.ref la), some (.ref na), v10, v11, v12, v13] ∧ Same H12 H13, ?_, ?_⟩
      · refine ⟨_, rfl, _, rfl, ca, fa, cs, ft, rfl, Same.tup s1012 hca10, hfa.1 _, h6, hft, fun H13 y s13 hy => ?_⟩
        refine ⟨_, rfl, fa, ft, rfl, hfa, hft, fun H14 bk s14 hbk => ?_⟩
        refine ⟨y, bk, _, _, rfl, Same.tup s14 hy, hbk, h6f, back_mem ft hft, fun H15 z s15 hz => ?_⟩
        have s1215 := (s13.trans s14).trans s15
        refine ⟨_, rfl, z, ca, _, cs, rfl, rfl, hz, Same.tup (s1012.trans s1215) hca10, _, rfl, ifF ?_ ?_⟩
        · rw [decide_eq_true (tb_back h6.1 hft)]
          rfl
        refine ⟨_, rfl, na, _, rfl, Same.tup (s12.trans s1215) hna11, h6n, fun H16 u s16 hu hU => ?_⟩
        obtain ⟨ku, hku, _, eu⟩ := id hU
        refine ⟨u, _, rfl, .inl (SqL.of hku), _, rfl, ca, cs, rfl, Same.tup ((s1012.trans s1215).trans s16) hca10, h6, fun H17 v s17 hv hV => ?_⟩
        obtain ⟨kv, hkv, _, ev⟩ := id hV
        refine ⟨v, _, rfl, .inl (SqL.of hkv), rfl, _, rfl, ifF ?_ ⟨rfl, (s1215.trans s16).trans s17⟩⟩
        show (!decide (V.int ((refs ku).length : Nat) = V.int ((refs kv).length : Nat))) = false
        rw [snd_len eu, snd_len ev, stay_tb h6.1 hfs, eqNat]
        rfl
      rintro σ H13 ⟨rfl, s13⟩
      have s1013 := s1012.trans s13
      have hP13 := hP10.same s1013
      have hT13 := Same.kl s1013 hT10
      have hca13 := Same.tup s1013 hca10
      have hLT13 := Same.lt s1013 hLT10
      clear hP10 hT10 hca10 hLT10 s11 s12 s13 s1012 s1013 hna11
      -- fresh
      intro d hd
      obtain ⟨dp, dc⟩ := hP13.apart hd
      refine ⟨fun σ H14 => ∃ (kvs : List (Key × V)) (g : Int → Int) (v11 v12 : Option V), σ = [some (.ref a), some (.ref p), some (.ref s), v3, some (.ref ca), some (.ref fa), some (.ref sa), some (.ref fo), some (.ref la), some (.ref na), some (.ref d), v11, v12, v13] ∧ H14 d = some (.dK kvs) ∧
        (∀ n ∈ cs, valV kvs (Sum.inl n) = some (.int (g n))) ∧ (∀ n ∈ cs, 0 < g n) ∧ Mono cs g ∧ Purse p c (100 * i + 50) H14 ∧ KL K H14 s TURNS ∧ TupA K H14 ca cs ∧ LT K H14 fo l, ?_, ?_⟩
      · have sd : Same H13 (upd H13 d (.dK [])) := Same.new hd
        refine ⟨_, rfl, ca, cs, rfl, Same.tup sd hca13, by rw [h6.1]; decide, fun u cc hu hcc => ?_⟩
        have su2 := sd.trans (Same.new (o := SetO w u (fun j => decide (j ∈ cs)) cc) hu)
        have hc6 : cc ≤ 6 := by
          rw [h6.1] at hcc
          exact hcc
        refine ⟨u, _, cc, rfl, upd_same, by omega, fun us q2 hup hmem hlen hq2 => ?_⟩
        have sq := su2.trans (Same.new (o := .lst (us.map V.int)) hq2)
        obtain ⟨qp, qc⟩ := (hP13.same su2).apart hq2
        have hdq : upd (upd (upd H13 d (.dK [])) u (SetO w u (fun j => decide (j ∈ cs)) cc)) q2 (.lst (us.map V.int)) d = some (.dK []) :=
          (Same.new hq2) d _ ((Same.new hu) d _ upd_same)
        have ndq : q2 ≠ d := ne_of upd_same hdq (by intro z; cases z)
        refine ⟨q2, rfl, ⟨_, SqL.of upd_same⟩, ?_⟩
        refine for_list (K := K) (a := q2) (xs := us.map V.int) (fun j σ H' => ∃ (last : Int) (kvs : List (Key × V)) (g : Int → Int) (v12 : Option V),
          σ = [some (.ref a), some (.ref p), some (.ref s), v3, some (.ref ca), some (.ref fa), some (.ref sa), some (.ref fo), some (.ref la), some (.ref na), some (.ref d), some (.int last), v12, v13] ∧ Purse p c (100 * i + 33 + j) H' ∧ KL K H' s TURNS ∧ TupA K H' ca cs ∧ LT K H' fo l ∧
          H' q2 = some (.lst (us.map V.int)) ∧ H' d = some (.dK kvs) ∧ kvs.length ≤ j ∧ 0 ≤ last ∧ Fresh (us.take j) kvs g last)
          ⟨0, [], fun _ => 0, v12, rfl, hP13.same sq, Same.kl sq hT13, Same.tup sq hca13, Same.lt sq hLT13, upd_same, hdq, Nat.le_refl _, Int.le_refl _, Fresh.none⟩
          (fun j σ H' _ ⟨_, _, _, _, _, _, _, _, _, hq, _⟩ => SqL.of hq) ?_ ?_
        · rintro j x σ H' hx ⟨last, kvs, g, v12, rfl, hP', hT', hca', hLT', hq', hd', hkl, hl0, hF⟩
          obtain ⟨un, hun, rfl⟩ := map_get hx
          have hj : j < us.length := (List.getElem?_eq_some_iff.mp hun).1
          refine ⟨_, rfl, _, _, rfl, rfl, _, rfl, 10, 9, rfl, rfl, pow_ok (by decide), p, c, _, _, rfl, hP', by omega, by decide, by decide, fun H2 k k2 hP2 k0 kn => ?_⟩
          have hd2 := k2 _ _ hd' dp dc
          refine ⟨_, _, rfl, rfl, _, rfl, _, rfl, _, rfl, d, _, rfl, DPut.k (k := Sum.inl un) hd2 (small1000 (by omega)), ?_⟩
          refine ⟨last + 1 + k, putK kvs (Sum.inl un) (.int (last + 1 + k)), (fun n => if n = un then last + 1 + k else g n), some (.int un), rfl, hP2.next dp dc, KL.updK hd2 (k2.kl sp sc hT'), tup_updK hd2 (k2.tup hP' hca'), LT.updK hd2 (k2.lt hP' fop foc hLT'), (upd_ne ndq).trans (k2 _ _ hq' qp qc), upd_same, ?_, by omega, ?_⟩
          · exact Nat.le_trans (putK_len _ _ _) (Nat.succ_le_succ hkl)
          · rw [tk1 hun]
            exact hF.snoc (before_lt hup hun) hl0 (by omega)
        · rintro σ H' ⟨last, kvs, g, v12, rfl, hP', hT', hca', hLT', hq', hd', hkl, hl0, hF⟩
          rw [tkAll] at hF
          have hin : ∀ n ∈ cs, n ∈ us := fun n hn => (hmem n).mpr (decide_eq_true hn)
          refine ⟨kvs, g, _, _, rfl, hd', fun n hn => hF.has n (hin n hn), fun n hn => hF.pos n (hin n hn), fun x hx y hy hxy => hF.up x (hin x hx) y (hin y hy) hxy, hP'.mono ?_, hT', hca', hLT'⟩
          rw [List.length_map]
          omega
      clear v10 v11 v12
      rintro σ H14 ⟨kvs, g, v11, v12, rfl, hd14, hhas, hpos, hMono, hP14, hT14, hca14, hLT14⟩
      refine ⟨fun σ H15 => σ = [some (.ref a), some (.ref p), some (.ref s), v3, some (.ref ca), some (.ref fa), some (.ref sa), some (.ref fo), some (.ref la), some (.ref na), some (.ref d), v11, v12, v13] ∧ Same H14 H15, ?_, ?_⟩
      · obtain ⟨kf, hkf, hAf, ef⟩ := id hLT14
        refine ⟨_, rfl, _, rfl, ca, d, cs, g, kvs, rfl, hca14, hd14, hhas, h6.1, fun H15 ra s15 hra => ?_⟩
        have h6g : Six (cs.map g) := ⟨by rw [List.length_map]; exact h6.1, fun n hn => by
          obtain ⟨m, hm, rfl⟩ := List.mem_map.mp hn
          exact Int.le_of_lt (hpos m hm)⟩
        refine ⟨ra, _, rfl, hra, h6g, fun H16 r3 l3 s16 hr3 hLk3 hLT3 => ?_⟩
        have s1416 := s15.trans s16
        refine ⟨_, rfl, fo, rfl, ⟨_, SqL.of (s1416 _ _ hkf)⟩, fun D2 hD2 => ?_⟩
        refine lc_list (K := K) (a := fo) (xs := refs kf) (fun j H' => Same H16 H' ∧ LT K H' D2 ((l.take j).map (List.map g))) ⟨Same.new hD2, LT.nil⟩ (fun j H' _ ⟨sm, _⟩ => (s1416.trans sm).seq (SqL.of hkf)) ?_ ?_
        · rintro j x H' hx ⟨sm, hl⟩
          obtain ⟨k, hk, rfl, ht⟩ := snd_at ef hx
          have hkl := (hLk.mem _).mp (List.mem_of_getElem? ht)
          have hj : j < l.length := (List.getElem?_eq_some_iff.mp ht).1
          have s14' := s1416.trans sm
          refine ⟨rfl, yes_ (iteT ?_)⟩
          refine ⟨_, rfl, _, rfl, k.1, d, k.2, g, kvs, rfl, Same.tup s14' (hAf k (List.mem_of_getElem? hk)), s14' _ _ hd14, fun n hn => hhas n ?_, allL_len h6.1 hkl, fun H17 y s17 hy => ?_⟩
          · obtain ⟨t, _, et⟩ := mem_allL.mp hkl
            rw [← et] at hn
            exact tb_mem hn
          obtain ⟨acc, e1, e2, e3⟩ := LT.snoc (Same.lt s17 hl) hy
          refine ⟨acc, e1, ?_, Same.next hD2 (sm.trans s17), ?_⟩
          · rw [e2, List.length_map, List.length_take]
            exact small1000 (by omega)
          · rw [tk1 ht, List.map_append]
            exact e3
        · rintro H' ⟨sm, hl⟩
          rw [snd_len ef, List.take_length] at hl
          refine ⟨r3, D2, _, _, rfl, rfl, Same.lt sm hLT3, hl, _, rfl, ifF ?_ ⟨rfl, s1416.trans sm⟩⟩
          rw [decide_eq_true (hLk3.one (hLk.renamed hMono))]
          rfl
      rintro σ H15 ⟨rfl, s15⟩
      -- glass
      refine ⟨_, rfl, ca, cs, rfl, Same.tup s15 hca14, h6, fun H16 s16 => ⟨true, rfl, iteF ?_⟩⟩
      have s1416 := s15.trans s16
      exact ⟨_, _, _, _, _, _, _, _, _, _, _, rfl, (hP14.same s1416).mono (by omega), Same.kl s1416 hT14⟩
    · rintro σ H' ⟨v3, v4, v5, v6, v7, v8, v9, v10, v11, v12, v13, rfl, _, _⟩
      exact q H'
end
end Cub

namespace Cub
open PySem PySem.Spec PyProof.Rows L2
/-! ### the tuples of the text -/
def ints? : List Value → Option (List Int)
  | [] => some []
  | .int i _ :: r => (ints? r).map (i :: ·)
  | _ => none
def tupIn (K : PySem.W.Frag) (a : Addr) : Option (List Int) := match K.lookup a with
  | some ⟨c, none, .seq its _, _⟩ => if (c == Value.type "tuple") = true then ints? its.toList else none
  | _ => none
def tups? (K : PySem.W.Frag) : List Value → Option (List (Addr × List Int))
  | [] => some []
  | .ref a :: r => match tupIn K a with
    | some ns => (tups? K r).map ((a, ns) :: ·)
    | none => none
  | _ => none
def tabIn (K : PySem.W.Frag) (a : Addr) : Option (List (Addr × List Int)) := match K.lookup a with
  | some ⟨c, _, .seq its _, _⟩ => if (c == Value.type "tuple") = true then tups? K its.toList else none
  | _ => none
theorem ints_vals : ∀ {us : List Value} {ns : List Int}, ints? us = some ns → Vals (ns.map V.int) us
  | [], ns, h => by
    cases h
    exact .nil
  | .int i t :: r, ns, h => by
    have h : (ints? r).map (i :: ·) = some ns := h
    obtain ⟨ms, h1, h2⟩ := Option.map_eq_some_iff.mp h
    subst h2
    exact .cons ⟨t, rfl⟩ (ints_vals h1)
theorem tyEq {c : Value} (h : (c == Value.type "tuple") = true) : c = Value.type "tuple" := eq_of_beq h
theorem tup_in {K : PySem.W.Frag} {a : Addr} {ns : List Int} (h : tupIn K a = some ns) (hl : ns.length ≤ 1000) : KTup K a ns := by
  unfold tupIn at h
  split at h
  · rename_i c its n sl e
    by_cases hc : (c == Value.type "tuple") = true
    · rw [if_pos hc] at h
      have hv := ints_vals h
      have hlen : ns.length = its.size := by
        have z := hv.length
        simpa using z
      have ec := tyEq hc
      exact ⟨fun H => .inr ⟨_, its, n, e, ec, rfl, by rw [← hlen]; exact Nat.le_of_lt (small1000 hl), hv⟩, _, e, ec, rfl⟩
    · rw [if_neg hc] at h
      cases h
  · cases h
theorem tups_vals {K : PySem.W.Frag} : ∀ {us : List Value} {ks : List (Addr × List Int)}, tups? K us = some ks → Vals (refs ks) us ∧ ∀ p ∈ ks, tupIn K p.1 = some p.2
  | [], ks, h => by
    cases h
    exact ⟨.nil, fun p hp => by simp at hp⟩
  | .ref a :: r, ks, h => by
    have h : (match tupIn K a with | some ns => (tups? K r).map ((a, ns) :: ·) | none => none) = some ks := h
    cases e : tupIn K a with
    | none =>
      rw [e] at h
      cases h
    | some ns =>
      rw [e] at h
      have h : (tups? K r).map ((a, ns) :: ·) = some ks := h
      obtain ⟨js, h1, h2⟩ := Option.map_eq_some_iff.mp h
      subst h2
      obtain ⟨v, t⟩ := tups_vals h1
      refine ⟨.cons rfl v, fun p hp => ?_⟩
      rcases List.mem_cons.mp hp with z | z
      · rw [z]
        exact e
      · exact t p z
theorem tab_at {K : PySem.W.Frag} {mg : Str → Option Value} {a : Addr} (m : mg "TURNS" = some (.ref a)) (h : (tabIn K a).map (fun ks => ks.map (·.2)) = some TURNS) : TabAt K mg := by
  obtain ⟨ks, h1, h2⟩ := Option.map_eq_some_iff.mp h
  have hk : ks.length = 24 := by
    have z := congrArg List.length h2
    rw [List.length_map] at z
    exact z
  unfold tabIn at h1
  split at h1
  · rename_i c d its n sl e
    by_cases hc : (c == Value.type "tuple") = true
    · rw [if_pos hc] at h1
      obtain ⟨v, t⟩ := tups_vals h1
      have hlen : 24 = its.size := by
        have z := v.length
        rw [List.length_map, hk] at z
        simpa using z
      refine ⟨a, ks, m, fun H => .inr ⟨_, its, n, e, tyEq hc, rfl, by rw [← hlen]; decide, v⟩, fun p hp => tup_in (t p hp) ?_, h2⟩
      have z : p.2 ∈ TURNS := by
        rw [← h2]
        exact List.mem_map.mpr ⟨p, hp, rfl⟩
      rw [(turn_six z).1]
      decide
    · rw [if_neg hc] at h1
      cases h1
  · cases h1
/-- a def of the text, from what the head finds -/
theorem df_mk {K : PySem.W.Frag} {mg : Str → Option Value} {h : Heap} (X : K.In h) (G : h.Ns mainGlobals mg) {x : Str} {st : Stmt} {ps : List Str} {f : Addr} {oc : Value} {od an : Option Addr} {sl : Array (Option Value)} {kV dc pm cd ct : Value}
    (a : PySem.W.nsIn K mainGlobals x = some (some (.ref f))) (l : K.lookup f = some ⟨oc, od, .func (PySem.W.fnOf x x (defArgs st) (defBody st) (defScope st) .none kV dc pm an cd ct), sl⟩) (c : PySem.W.codeIn K cd x = true) (k : PySem.W.keepIn K (.ref f) = true)
    (hb : ∀ (kV doc pm : Value) (an : Option Addr) (cdv ct : Value) (us : List Value), us.length = ps.length → bindArgs (PySem.W.fnOf x x (defArgs st) (defBody st) (defScope st) .none kV doc pm an cdv ct) ⟨us, []⟩ = pure (ps.zip us)) : Df K mg x st ps :=
  have F := fun_mk (st := st) l c k
  ⟨f, _, F, PySem.W.mg_of X G a, F.binds hb⟩

theorem all_mk {l : PySem.W.OpenLaw} {w : World} {K : PySem.W.Frag} {h : Heap} {mg : Str → Option Value} {fa aT aS f_num f_six f_aft f_allT f_isT f_mustT f_turns f_putT f_back f_isP f_mustP f_by_ f_looksA f_turned f_leastO f_leastP f_mir f_leav f_looks f_purse f_draw f_mixed f_coat f_ren f_closed f_glass f_law : Addr} (X : K.In h) (G : h.Ns mainGlobals mg) (hfa : mg "law" = some (.ref fa))
    {od_num an_num od_six an_six od_aft an_aft od_allT an_allT od_isT an_isT od_mustT an_mustT od_turns an_turns od_putT an_putT od_back an_back od_isP an_isP od_mustP an_mustP od_by_ an_by_ od_looksA an_looksA od_turned an_turned od_leastO an_leastO od_leastP an_leastP od_mir an_mir od_leav an_leav od_looks an_looks od_purse an_purse od_draw an_draw od_mixed an_mixed od_coat an_coat od_ren an_ren od_closed an_closed od_glass an_glass od_law an_law : Option Addr} {sl_num sl_six sl_aft sl_allT sl_isT sl_mustT sl_turns sl_putT sl_back sl_isP sl_mustP sl_by_ sl_looksA sl_turned sl_leastO sl_leastP sl_mir sl_leav sl_looks sl_purse sl_draw sl_mixed sl_coat sl_ren sl_closed sl_glass sl_law : Array (Option Value)}
    {oc_num kV_num dc_num pm_num cd_num ct_num oc_six kV_six dc_six pm_six cd_six ct_six oc_aft kV_aft dc_aft pm_aft cd_aft ct_aft oc_allT kV_allT dc_allT pm_allT cd_allT ct_allT oc_isT kV_isT dc_isT pm_isT cd_isT ct_isT oc_mustT kV_mustT dc_mustT pm_mustT cd_mustT ct_mustT oc_turns kV_turns dc_turns pm_turns cd_turns ct_turns oc_putT kV_putT dc_putT pm_putT cd_putT ct_putT oc_back kV_back dc_back pm_back cd_back ct_back oc_isP kV_isP dc_isP pm_isP cd_isP ct_isP oc_mustP kV_mustP dc_mustP pm_mustP cd_mustP ct_mustP oc_by_ kV_by_ dc_by_ pm_by_ cd_by_ ct_by_ oc_looksA kV_looksA dc_looksA pm_looksA cd_looksA ct_looksA oc_turned kV_turned dc_turned pm_turned cd_turned ct_turned oc_leastO kV_leastO dc_leastO pm_leastO cd_leastO ct_leastO oc_leastP kV_leastP dc_leastP pm_leastP cd_leastP ct_leastP oc_mir kV_mir dc_mir pm_mir cd_mir ct_mir oc_leav kV_leav dc_leav pm_leav cd_leav ct_leav oc_looks kV_looks dc_looks pm_looks cd_looks ct_looks oc_purse kV_purse dc_purse pm_purse cd_purse ct_purse oc_draw kV_draw dc_draw pm_draw cd_draw ct_draw oc_mixed kV_mixed dc_mixed pm_mixed cd_mixed ct_mixed oc_coat kV_coat dc_coat pm_coat cd_coat ct_coat oc_ren kV_ren dc_ren pm_ren cd_ren ct_ren oc_closed kV_closed dc_closed pm_closed cd_closed ct_closed oc_glass kV_glass dc_glass pm_glass cd_glass ct_glass oc_law kV_law dc_law pm_law cd_law ct_law : Value}
    (a_num : PySem.W.nsIn K mainGlobals "is_number" = some (some (.ref f_num))) (l_num : K.lookup f_num = some ⟨oc_num, od_num, .func (PySem.W.fnOf "is_number" "is_number" (defArgs sNum) (defBody sNum) (defScope sNum) .none kV_num dc_num pm_num an_num cd_num ct_num), sl_num⟩) (c_num : PySem.W.codeIn K cd_num "is_number" = true) (k_num : PySem.W.keepIn K (.ref f_num) = true)
    (a_six : PySem.W.nsIn K mainGlobals "are_six" = some (some (.ref f_six))) (l_six : K.lookup f_six = some ⟨oc_six, od_six, .func (PySem.W.fnOf "are_six" "are_six" (defArgs sSix) (defBody sSix) (defScope sSix) .none kV_six dc_six pm_six an_six cd_six ct_six), sl_six⟩) (c_six : PySem.W.codeIn K cd_six "are_six" = true) (k_six : PySem.W.keepIn K (.ref f_six) = true)
    (a_aft : PySem.W.nsIn K mainGlobals "after" = some (some (.ref f_aft))) (l_aft : K.lookup f_aft = some ⟨oc_aft, od_aft, .func (PySem.W.fnOf "after" "after" (defArgs sAft) (defBody sAft) (defScope sAft) .none kV_aft dc_aft pm_aft an_aft cd_aft ct_aft), sl_aft⟩) (c_aft : PySem.W.codeIn K cd_aft "after" = true) (k_aft : PySem.W.keepIn K (.ref f_aft) = true)
    (a_allT : PySem.W.nsIn K mainGlobals "all_turns" = some (some (.ref f_allT))) (l_allT : K.lookup f_allT = some ⟨oc_allT, od_allT, .func (PySem.W.fnOf "all_turns" "all_turns" (defArgs sAllT) (defBody sAllT) (defScope sAllT) .none kV_allT dc_allT pm_allT an_allT cd_allT ct_allT), sl_allT⟩) (c_allT : PySem.W.codeIn K cd_allT "all_turns" = true) (k_allT : PySem.W.keepIn K (.ref f_allT) = true)
    (a_isT : PySem.W.nsIn K mainGlobals "is_turn" = some (some (.ref f_isT))) (l_isT : K.lookup f_isT = some ⟨oc_isT, od_isT, .func (PySem.W.fnOf "is_turn" "is_turn" (defArgs sIsT) (defBody sIsT) (defScope sIsT) .none kV_isT dc_isT pm_isT an_isT cd_isT ct_isT), sl_isT⟩) (c_isT : PySem.W.codeIn K cd_isT "is_turn" = true) (k_isT : PySem.W.keepIn K (.ref f_isT) = true)
    (a_mustT : PySem.W.nsIn K mainGlobals "must_be_turn" = some (some (.ref f_mustT))) (l_mustT : K.lookup f_mustT = some ⟨oc_mustT, od_mustT, .func (PySem.W.fnOf "must_be_turn" "must_be_turn" (defArgs sMustT) (defBody sMustT) (defScope sMustT) .none kV_mustT dc_mustT pm_mustT an_mustT cd_mustT ct_mustT), sl_mustT⟩) (c_mustT : PySem.W.codeIn K cd_mustT "must_be_turn" = true) (k_mustT : PySem.W.keepIn K (.ref f_mustT) = true)
    (a_turns : PySem.W.nsIn K mainGlobals "turns" = some (some (.ref f_turns))) (l_turns : K.lookup f_turns = some ⟨oc_turns, od_turns, .func (PySem.W.fnOf "turns" "turns" (defArgs sTurns) (defBody sTurns) (defScope sTurns) .none kV_turns dc_turns pm_turns an_turns cd_turns ct_turns), sl_turns⟩) (c_turns : PySem.W.codeIn K cd_turns "turns" = true) (k_turns : PySem.W.keepIn K (.ref f_turns) = true)
    (a_putT : PySem.W.nsIn K mainGlobals "put_together" = some (some (.ref f_putT))) (l_putT : K.lookup f_putT = some ⟨oc_putT, od_putT, .func (PySem.W.fnOf "put_together" "put_together" (defArgs sPutT) (defBody sPutT) (defScope sPutT) .none kV_putT dc_putT pm_putT an_putT cd_putT ct_putT), sl_putT⟩) (c_putT : PySem.W.codeIn K cd_putT "put_together" = true) (k_putT : PySem.W.keepIn K (.ref f_putT) = true)
    (a_back : PySem.W.nsIn K mainGlobals "turned_back" = some (some (.ref f_back))) (l_back : K.lookup f_back = some ⟨oc_back, od_back, .func (PySem.W.fnOf "turned_back" "turned_back" (defArgs sBack) (defBody sBack) (defScope sBack) .none kV_back dc_back pm_back an_back cd_back ct_back), sl_back⟩) (c_back : PySem.W.codeIn K cd_back "turned_back" = true) (k_back : PySem.W.keepIn K (.ref f_back) = true)
    (a_isP : PySem.W.nsIn K mainGlobals "is_paints" = some (some (.ref f_isP))) (l_isP : K.lookup f_isP = some ⟨oc_isP, od_isP, .func (PySem.W.fnOf "is_paints" "is_paints" (defArgs sIsP) (defBody sIsP) (defScope sIsP) .none kV_isP dc_isP pm_isP an_isP cd_isP ct_isP), sl_isP⟩) (c_isP : PySem.W.codeIn K cd_isP "is_paints" = true) (k_isP : PySem.W.keepIn K (.ref f_isP) = true)
    (a_mustP : PySem.W.nsIn K mainGlobals "must_be_paints" = some (some (.ref f_mustP))) (l_mustP : K.lookup f_mustP = some ⟨oc_mustP, od_mustP, .func (PySem.W.fnOf "must_be_paints" "must_be_paints" (defArgs sMustP) (defBody sMustP) (defScope sMustP) .none kV_mustP dc_mustP pm_mustP an_mustP cd_mustP ct_mustP), sl_mustP⟩) (c_mustP : PySem.W.codeIn K cd_mustP "must_be_paints" = true) (k_mustP : PySem.W.keepIn K (.ref f_mustP) = true)
    (a_by_ : PySem.W.nsIn K mainGlobals "turned_by" = some (some (.ref f_by_))) (l_by_ : K.lookup f_by_ = some ⟨oc_by_, od_by_, .func (PySem.W.fnOf "turned_by" "turned_by" (defArgs sBy) (defBody sBy) (defScope sBy) .none kV_by_ dc_by_ pm_by_ an_by_ cd_by_ ct_by_), sl_by_⟩) (c_by_ : PySem.W.codeIn K cd_by_ "turned_by" = true) (k_by_ : PySem.W.keepIn K (.ref f_by_) = true)
    (a_looksA : PySem.W.nsIn K mainGlobals "all_looks" = some (some (.ref f_looksA))) (l_looksA : K.lookup f_looksA = some ⟨oc_looksA, od_looksA, .func (PySem.W.fnOf "all_looks" "all_looks" (defArgs sLooksA) (defBody sLooksA) (defScope sLooksA) .none kV_looksA dc_looksA pm_looksA an_looksA cd_looksA ct_looksA), sl_looksA⟩) (c_looksA : PySem.W.codeIn K cd_looksA "all_looks" = true) (k_looksA : PySem.W.keepIn K (.ref f_looksA) = true)
    (a_turned : PySem.W.nsIn K mainGlobals "turned" = some (some (.ref f_turned))) (l_turned : K.lookup f_turned = some ⟨oc_turned, od_turned, .func (PySem.W.fnOf "turned" "turned" (defArgs sTurned) (defBody sTurned) (defScope sTurned) .none kV_turned dc_turned pm_turned an_turned cd_turned ct_turned), sl_turned⟩) (c_turned : PySem.W.codeIn K cd_turned "turned" = true) (k_turned : PySem.W.keepIn K (.ref f_turned) = true)
    (a_leastO : PySem.W.nsIn K mainGlobals "least_of" = some (some (.ref f_leastO))) (l_leastO : K.lookup f_leastO = some ⟨oc_leastO, od_leastO, .func (PySem.W.fnOf "least_of" "least_of" (defArgs sLeastO) (defBody sLeastO) (defScope sLeastO) .none kV_leastO dc_leastO pm_leastO an_leastO cd_leastO ct_leastO), sl_leastO⟩) (c_leastO : PySem.W.codeIn K cd_leastO "least_of" = true) (k_leastO : PySem.W.keepIn K (.ref f_leastO) = true)
    (a_leastP : PySem.W.nsIn K mainGlobals "least_paints" = some (some (.ref f_leastP))) (l_leastP : K.lookup f_leastP = some ⟨oc_leastP, od_leastP, .func (PySem.W.fnOf "least_paints" "least_paints" (defArgs sLeastP) (defBody sLeastP) (defScope sLeastP) .none kV_leastP dc_leastP pm_leastP an_leastP cd_leastP ct_leastP), sl_leastP⟩) (c_leastP : PySem.W.codeIn K cd_leastP "least_paints" = true) (k_leastP : PySem.W.keepIn K (.ref f_leastP) = true)
    (a_mir : PySem.W.nsIn K mainGlobals "mirrored" = some (some (.ref f_mir))) (l_mir : K.lookup f_mir = some ⟨oc_mir, od_mir, .func (PySem.W.fnOf "mirrored" "mirrored" (defArgs sMir) (defBody sMir) (defScope sMir) .none kV_mir dc_mir pm_mir an_mir cd_mir ct_mir), sl_mir⟩) (c_mir : PySem.W.codeIn K cd_mir "mirrored" = true) (k_mir : PySem.W.keepIn K (.ref f_mir) = true)
    (a_leav : PySem.W.nsIn K mainGlobals "leaving" = some (some (.ref f_leav))) (l_leav : K.lookup f_leav = some ⟨oc_leav, od_leav, .func (PySem.W.fnOf "leaving" "leaving" (defArgs sLeav) (defBody sLeav) (defScope sLeav) .none kV_leav dc_leav pm_leav an_leav cd_leav ct_leav), sl_leav⟩) (c_leav : PySem.W.codeIn K cd_leav "leaving" = true) (k_leav : PySem.W.keepIn K (.ref f_leav) = true)
    (a_looks : PySem.W.nsIn K mainGlobals "looks" = some (some (.ref f_looks))) (l_looks : K.lookup f_looks = some ⟨oc_looks, od_looks, .func (PySem.W.fnOf "looks" "looks" (defArgs sLooks) (defBody sLooks) (defScope sLooks) .none kV_looks dc_looks pm_looks an_looks cd_looks ct_looks), sl_looks⟩) (c_looks : PySem.W.codeIn K cd_looks "looks" = true) (k_looks : PySem.W.keepIn K (.ref f_looks) = true)
    (a_purse : PySem.W.nsIn K mainGlobals "_law_purse" = some (some (.ref f_purse))) (l_purse : K.lookup f_purse = some ⟨oc_purse, od_purse, .func (PySem.W.fnOf "_law_purse" "_law_purse" (defArgs sPurse) (defBody sPurse) (defScope sPurse) .none kV_purse dc_purse pm_purse an_purse cd_purse ct_purse), sl_purse⟩) (c_purse : PySem.W.codeIn K cd_purse "_law_purse" = true) (k_purse : PySem.W.keepIn K (.ref f_purse) = true)
    (a_draw : PySem.W.nsIn K mainGlobals "_law_draw" = some (some (.ref f_draw))) (l_draw : K.lookup f_draw = some ⟨oc_draw, od_draw, .func (PySem.W.fnOf "_law_draw" "_law_draw" (defArgs sDraw) (defBody sDraw) (defScope sDraw) .none kV_draw dc_draw pm_draw an_draw cd_draw ct_draw), sl_draw⟩) (c_draw : PySem.W.codeIn K cd_draw "_law_draw" = true) (k_draw : PySem.W.keepIn K (.ref f_draw) = true)
    (a_mixed : PySem.W.nsIn K mainGlobals "_law_mixed" = some (some (.ref f_mixed))) (l_mixed : K.lookup f_mixed = some ⟨oc_mixed, od_mixed, .func (PySem.W.fnOf "_law_mixed" "_law_mixed" (defArgs sMixed) (defBody sMixed) (defScope sMixed) .none kV_mixed dc_mixed pm_mixed an_mixed cd_mixed ct_mixed), sl_mixed⟩) (c_mixed : PySem.W.codeIn K cd_mixed "_law_mixed" = true) (k_mixed : PySem.W.keepIn K (.ref f_mixed) = true)
    (a_coat : PySem.W.nsIn K mainGlobals "_law_coat" = some (some (.ref f_coat))) (l_coat : K.lookup f_coat = some ⟨oc_coat, od_coat, .func (PySem.W.fnOf "_law_coat" "_law_coat" (defArgs sCoat) (defBody sCoat) (defScope sCoat) .none kV_coat dc_coat pm_coat an_coat cd_coat ct_coat), sl_coat⟩) (c_coat : PySem.W.codeIn K cd_coat "_law_coat" = true) (k_coat : PySem.W.keepIn K (.ref f_coat) = true)
    (a_ren : PySem.W.nsIn K mainGlobals "_law_renamed" = some (some (.ref f_ren))) (l_ren : K.lookup f_ren = some ⟨oc_ren, od_ren, .func (PySem.W.fnOf "_law_renamed" "_law_renamed" (defArgs sRen) (defBody sRen) (defScope sRen) .none kV_ren dc_ren pm_ren an_ren cd_ren ct_ren), sl_ren⟩) (c_ren : PySem.W.codeIn K cd_ren "_law_renamed" = true) (k_ren : PySem.W.keepIn K (.ref f_ren) = true)
    (a_closed : PySem.W.nsIn K mainGlobals "_law_closed" = some (some (.ref f_closed))) (l_closed : K.lookup f_closed = some ⟨oc_closed, od_closed, .func (PySem.W.fnOf "_law_closed" "_law_closed" (defArgs sClosed) (defBody sClosed) (defScope sClosed) .none kV_closed dc_closed pm_closed an_closed cd_closed ct_closed), sl_closed⟩) (c_closed : PySem.W.codeIn K cd_closed "_law_closed" = true) (k_closed : PySem.W.keepIn K (.ref f_closed) = true)
    (a_glass : PySem.W.nsIn K mainGlobals "_law_of_glass" = some (some (.ref f_glass))) (l_glass : K.lookup f_glass = some ⟨oc_glass, od_glass, .func (PySem.W.fnOf "_law_of_glass" "_law_of_glass" (defArgs sGlass) (defBody sGlass) (defScope sGlass) .none kV_glass dc_glass pm_glass an_glass cd_glass ct_glass), sl_glass⟩) (c_glass : PySem.W.codeIn K cd_glass "_law_of_glass" = true) (k_glass : PySem.W.keepIn K (.ref f_glass) = true)
    (a_law : PySem.W.nsIn K mainGlobals "law" = some (some (.ref f_law))) (l_law : K.lookup f_law = some ⟨oc_law, od_law, .func (PySem.W.fnOf "law" "law" (defArgs sLaw) (defBody sLaw) (defScope sLaw) .none kV_law dc_law pm_law an_law cd_law ct_law), sl_law⟩) (c_law : PySem.W.codeIn K cd_law "law" = true) (k_law : PySem.W.keepIn K (.ref f_law) = true)
    (z_isinstance : PySem.W.nsIn K mainGlobals "isinstance" = some none)
    (z_int : PySem.W.nsIn K mainGlobals "int" = some none)
    (z_bool : PySem.W.nsIn K mainGlobals "bool" = some none)
    (z_tuple : PySem.W.nsIn K mainGlobals "tuple" = some none)
    (z_len : PySem.W.nsIn K mainGlobals "len" = some none)
    (z_all : PySem.W.nsIn K mainGlobals "all" = some none)
    (z_list : PySem.W.nsIn K mainGlobals "list" = some none)
    (z_zip : PySem.W.nsIn K mainGlobals "zip" = some none)
    (z_min : PySem.W.nsIn K mainGlobals "min" = some none)
    (z_sorted : PySem.W.nsIn K mainGlobals "sorted" = some none)
    (z_set : PySem.W.nsIn K mainGlobals "set" = some none)
    (z_range : PySem.W.nsIn K mainGlobals "range" = some none)
    (z_abs : PySem.W.nsIn K mainGlobals "abs" = some none)
    (aT_ : PySem.W.nsIn K mainGlobals "TURNS" = some (some (.ref aT))) (aS_ : PySem.W.nsIn K mainGlobals "STILL" = some (some (.ref aS)))
    (eT : (tabIn K aT).map (fun ks => ks.map (·.2)) = some TURNS) (eS : tupIn K aS = some [0, 1, 2, 3, 4, 5]) :
    ∃ fd : FuncData, (∀ (s : Shared) (v : Value), BindsTo s fd ⟨[v], []⟩ [("_law_script", v)]) ∧ ∀ base : Heap, K.In base → base.Ns mainGlobals mg → FnOk l.prog w K mg base CX0 7 fa fd ["_law_script"] (spLaw K) := by

  have e := hfa.symm.trans (PySem.W.mg_of X G a_law)
  cases e
  have T : Bl mg := ⟨PySem.W.mg_none_of X G z_isinstance, PySem.W.mg_none_of X G z_int, PySem.W.mg_none_of X G z_bool, PySem.W.mg_none_of X G z_tuple, PySem.W.mg_none_of X G z_len, PySem.W.mg_none_of X G z_all, PySem.W.mg_none_of X G z_list, PySem.W.mg_none_of X G z_zip, PySem.W.mg_none_of X G z_min, PySem.W.mg_none_of X G z_sorted, PySem.W.mg_none_of X G z_set, PySem.W.mg_none_of X G z_range, PySem.W.mg_none_of X G z_abs⟩
  have TB : TabAt K mg := tab_at (PySem.W.mg_of X G aT_) eT
  have SB : StillAt K mg := ⟨aS, PySem.W.mg_of X G aS_, (tup_in eS (by decide)).1⟩
  have D_num : Df K mg "is_number" sNum ["thing"] := df_mk X G a_num l_num c_num k_num fun _ _ _ _ _ _ us hl => match us, hl with | [_], _ => rfl
  have D_six : Df K mg "are_six" sSix ["thing"] := df_mk X G a_six l_six c_six k_six fun _ _ _ _ _ _ us hl => match us, hl with | [_], _ => rfl
  have D_aft : Df K mg "after" sAft ["one", "other"] := df_mk X G a_aft l_aft c_aft k_aft fun _ _ _ _ _ _ us hl => match us, hl with | [_, _], _ => rfl
  have D_allT : Df K mg "all_turns" sAllT [] := df_mk X G a_allT l_allT c_allT k_allT fun _ _ _ _ _ _ us hl => match us, hl with | [], _ => rfl
  have D_isT : Df K mg "is_turn" sIsT ["thing"] := df_mk X G a_isT l_isT c_isT k_isT fun _ _ _ _ _ _ us hl => match us, hl with | [_], _ => rfl
  have D_mustT : Df K mg "must_be_turn" sMustT ["turn"] := df_mk X G a_mustT l_mustT c_mustT k_mustT fun _ _ _ _ _ _ us hl => match us, hl with | [_], _ => rfl
  have D_turns : Df K mg "turns" sTurns [] := df_mk X G a_turns l_turns c_turns k_turns fun _ _ _ _ _ _ us hl => match us, hl with | [], _ => rfl
  have D_putT : Df K mg "put_together" sPutT ["one", "other"] := df_mk X G a_putT l_putT c_putT k_putT fun _ _ _ _ _ _ us hl => match us, hl with | [_, _], _ => rfl
  have D_back : Df K mg "turned_back" sBack ["turn"] := df_mk X G a_back l_back c_back k_back fun _ _ _ _ _ _ us hl => match us, hl with | [_], _ => rfl
  have D_isP : Df K mg "is_paints" sIsP ["thing"] := df_mk X G a_isP l_isP c_isP k_isP fun _ _ _ _ _ _ us hl => match us, hl with | [_], _ => rfl
  have D_mustP : Df K mg "must_be_paints" sMustP ["paints"] := df_mk X G a_mustP l_mustP c_mustP k_mustP fun _ _ _ _ _ _ us hl => match us, hl with | [_], _ => rfl
  have D_by_ : Df K mg "turned_by" sBy ["paints", "turn"] := df_mk X G a_by_ l_by_ c_by_ k_by_ fun _ _ _ _ _ _ us hl => match us, hl with | [_, _], _ => rfl
  have D_looksA : Df K mg "all_looks" sLooksA ["paints"] := df_mk X G a_looksA l_looksA c_looksA k_looksA fun _ _ _ _ _ _ us hl => match us, hl with | [_], _ => rfl
  have D_turned : Df K mg "turned" sTurned ["paints", "turn"] := df_mk X G a_turned l_turned c_turned k_turned fun _ _ _ _ _ _ us hl => match us, hl with | [_, _], _ => rfl
  have D_leastO : Df K mg "least_of" sLeastO ["paints"] := df_mk X G a_leastO l_leastO c_leastO k_leastO fun _ _ _ _ _ _ us hl => match us, hl with | [_], _ => rfl
  have D_leastP : Df K mg "least_paints" sLeastP ["paints"] := df_mk X G a_leastP l_leastP c_leastP k_leastP fun _ _ _ _ _ _ us hl => match us, hl with | [_], _ => rfl
  have D_mir : Df K mg "mirrored" sMir ["paints"] := df_mk X G a_mir l_mir c_mir k_mir fun _ _ _ _ _ _ us hl => match us, hl with | [_], _ => rfl
  have D_leav : Df K mg "leaving" sLeav ["paints"] := df_mk X G a_leav l_leav c_leav k_leav fun _ _ _ _ _ _ us hl => match us, hl with | [_], _ => rfl
  have D_looks : Df K mg "looks" sLooks ["paints"] := df_mk X G a_looks l_looks c_looks k_looks fun _ _ _ _ _ _ us hl => match us, hl with | [_], _ => rfl
  have D_purse : Df K mg "_law_purse" sPurse ["_law_script"] := df_mk X G a_purse l_purse c_purse k_purse fun _ _ _ _ _ _ us hl => match us, hl with | [_], _ => rfl
  have D_draw : Df K mg "_law_draw" sDraw ["_law_purse_here", "_law_out_of"] := df_mk X G a_draw l_draw c_draw k_draw fun _ _ _ _ _ _ us hl => match us, hl with | [_, _], _ => rfl
  have D_mixed : Df K mg "_law_mixed" sMixed ["_law_purse_here", "_law_some"] := df_mk X G a_mixed l_mixed c_mixed k_mixed fun _ _ _ _ _ _ us hl => match us, hl with | [_, _], _ => rfl
  have D_coat : Df K mg "_law_coat" sCoat ["_law_purse_here"] := df_mk X G a_coat l_coat c_coat k_coat fun _ _ _ _ _ _ us hl => match us, hl with | [_], _ => rfl
  have D_ren : Df K mg "_law_renamed" sRen ["_law_coat_here", "_law_fresh"] := df_mk X G a_ren l_ren c_ren k_ren fun _ _ _ _ _ _ us hl => match us, hl with | [_, _], _ => rfl
  have D_closed : Df K mg "_law_closed" sClosed ["_law_coat_here", "_law_some"] := df_mk X G a_closed l_closed c_closed k_closed fun _ _ _ _ _ _ us hl => match us, hl with | [_, _], _ => rfl
  have D_glass : Df K mg "_law_of_glass" sGlass ["_law_coat_here"] := df_mk X G a_glass l_glass c_glass k_glass fun _ _ _ _ _ _ us hl => match us, hl with | [_], _ => rfl
  refine ⟨PySem.W.fnOf "law" "law" (defArgs sLaw) (defBody sLaw) (defScope sLaw) .none kV_law dc_law pm_law an_law cd_law ct_law, fun s v => .of_eq rfl, fun base _ _ => ?_⟩
  have h_num := has_num (P := l.prog) (w := w) (base := base) D_num T
  have h_six := has_six D_six T h_num
  have h_aft := has_after (P := l.prog) (w := w) (base := base) D_aft T
  have h_allT := has_allT (P := l.prog) (w := w) (base := base) D_allT T TB
  have h_turns := has_turns D_turns h_allT
  have h_isT := has_isT D_isT TB h_six
  have h_mustT := has_mustT D_mustT h_isT
  have h_putT := has_putT D_putT h_mustT h_aft
  have h_back := has_back D_back T SB h_mustT
  have h_isP := has_isP D_isP h_six
  have h_mustP := has_mustP D_mustP h_isP
  have h_by := has_by (P := l.prog) (w := w) (base := base) D_by_ T
  have h_looksA := has_looksA D_looksA h_allT h_by
  have h_turned := has_turned D_turned h_mustP h_mustT h_by
  have h_leastO := has_leastO D_leastO T h_looksA
  have h_leastP := has_leastP D_leastP h_mustP h_leastO
  have h_mir := has_mir D_mir h_mustP
  have h_leav := has_leav D_leav h_mustP h_allT h_by
  have h_looks := has_looks D_looks T h_mustP h_looksA
  have h_purse := has_purse (P := l.prog) (w := w) (base := base) D_purse T
  have h_draw := has_draw (P := l.prog) (w := w) (base := base) D_draw T
  have h_mixed := has_mixed D_mixed T h_draw
  have h_coat := has_coat D_coat T h_draw h_mixed
  have h_ren := has_ren (P := l.prog) (w := w) (base := base) D_ren T
  have h_closed := has_closed D_closed T h_leav h_turned h_back h_putT
  have h_glass := has_glass D_glass T h_mir h_leav h_looks
  exact ok_law (fun_mk (st := sLaw) l_law c_law k_law) T ⟨h_purse, h_turns, h_coat, h_draw, h_looks, h_leav, h_leastP, h_closed, h_turned, h_putT, h_back, h_ren, h_glass⟩
theorem walk {l : PySem.W.OpenLaw} {q : Program} {loose : List Str} {XP : (Str → Option Value) → Heap → Prop} {YP : World → Heap → Prop} {d : DefRec} {K : Params → PySem.W.Frag} (hn : l.most = some 63) (hdf : d.params.defaults = [])
    (hY : ∀ (w : World) (h : Heap), YP w h → (K w.params).In h)
    (F : ∀ (w : World) (mg : Str → Option Value) (fa : Addr) (h : Heap), (K w.params).In h → h.Ns mainGlobals mg → mg d.name = some (.ref fa) →
      ∃ fd : FuncData, (∀ (s : Shared) (u : Value), BindsTo s fd ⟨[u], []⟩ [("_law_script", u)]) ∧ ∀ base : Heap, (K w.params).In base → base.Ns mainGlobals mg → FnOk l.prog w (K w.params) mg base CX0 7 fa fd ["_law_script"] (spLaw (K w.params))) :
    PySem.W.WalkO q loose XP YP l.row.toRowW d [] (fun f vs => PySem.call f vs) :=
  L2.walk_of (n := 63) (k := 7) (x := "_law_script") (CX := fun _ => CX0) (sp := fun w => spLaw (K w.params)) hn (by decide) hdf ⟨rfl, by decide, by decide⟩ hY F (fun _ _ a ns hl _ hS => ⟨a, ns, rfl, hS, hl, fun _ => rfl⟩) fun _ _ _ _ _ z => z
end Cub
open PySem PySem.W PyProof.Rows
set_option maxRecDepth 100000 in
set_option maxHeartbeats 0 in
theorem PySem.Challenge.cw_thirtycubes_k10_whole_looks_and_leaving_holds : PySem.Challenge.rw_thirtycubes_k10_whole_looks_and_leaving.Holds := by
  w_on; o_law; k_head; (case hw => w_witness2)
  k_fill
  refine Cub.walk (l := PySem.Challenge.rw_thirtycubes_k10_whole_looks_and_leaving) rfl rfl (fun w h Y => PySem.W.kIn_of Y) ?F
  case F =>
    intro w mg fa h KX G hmg
    refine' Cub.all_mk KX G hmg ?a_num ?l_num ?c_num ?k_num ?a_six ?l_six ?c_six ?k_six ?a_aft ?l_aft ?c_aft ?k_aft ?a_allT ?l_allT ?c_allT ?k_allT ?a_isT ?l_isT ?c_isT ?k_isT ?a_mustT ?l_mustT ?c_mustT ?k_mustT ?a_turns ?l_turns ?c_turns ?k_turns ?a_putT ?l_putT ?c_putT ?k_putT ?a_back ?l_back ?c_back ?k_back ?a_isP ?l_isP ?c_isP ?k_isP ?a_mustP ?l_mustP ?c_mustP ?k_mustP ?a_by_ ?l_by_ ?c_by_ ?k_by_ ?a_looksA ?l_looksA ?c_looksA ?k_looksA ?a_turned ?l_turned ?c_turned ?k_turned ?a_leastO ?l_leastO ?c_leastO ?k_leastO ?a_leastP ?l_leastP ?c_leastP ?k_leastP ?a_mir ?l_mir ?c_mir ?k_mir ?a_leav ?l_leav ?c_leav ?k_leav ?a_looks ?l_looks ?c_looks ?k_looks ?a_purse ?l_purse ?c_purse ?k_purse ?a_draw ?l_draw ?c_draw ?k_draw ?a_mixed ?l_mixed ?c_mixed ?k_mixed ?a_coat ?l_coat ?c_coat ?k_coat ?a_ren ?l_ren ?c_ren ?k_ren ?a_closed ?l_closed ?c_closed ?k_closed ?a_glass ?l_glass ?c_glass ?k_glass ?a_law ?l_law ?c_law ?k_law ?z_isinstance ?z_int ?z_bool ?z_tuple ?z_len ?z_all ?z_list ?z_zip ?z_min ?z_sorted ?z_set ?z_range ?z_abs ?aT_ ?aS_ ?eT ?eS
    (case a_num => k_is)
    (case l_num => k_is)
    (case c_num => k_is)
    (case k_num => k_is)
    (case a_six => k_is)
    (case l_six => k_is)
    (case c_six => k_is)
    (case k_six => k_is)
    (case a_aft => k_is)
    (case l_aft => k_is)
    (case c_aft => k_is)
    (case k_aft => k_is)
    (case a_allT => k_is)
    (case l_allT => k_is)
    (case c_allT => k_is)
    (case k_allT => k_is)
    (case a_isT => k_is)
    (case l_isT => k_is)
    (case c_isT => k_is)
    (case k_isT => k_is)
    (case a_mustT => k_is)
    (case l_mustT => k_is)
    (case c_mustT => k_is)
    (case k_mustT => k_is)
    (case a_turns => k_is)
    (case l_turns => k_is)
    (case c_turns => k_is)
    (case k_turns => k_is)
    (case a_putT => k_is)
    (case l_putT => k_is)
    (case c_putT => k_is)
    (case k_putT => k_is)
    (case a_back => k_is)
    (case l_back => k_is)
    (case c_back => k_is)
    (case k_back => k_is)
    (case a_isP => k_is)
    (case l_isP => k_is)
    (case c_isP => k_is)
    (case k_isP => k_is)
    (case a_mustP => k_is)
    (case l_mustP => k_is)
    (case c_mustP => k_is)
    (case k_mustP => k_is)
    (case a_by_ => k_is)
    (case l_by_ => k_is)
    (case c_by_ => k_is)
    (case k_by_ => k_is)
    (case a_looksA => k_is)
    (case l_looksA => k_is)
    (case c_looksA => k_is)
    (case k_looksA => k_is)
    (case a_turned => k_is)
    (case l_turned => k_is)
    (case c_turned => k_is)
    (case k_turned => k_is)
    (case a_leastO => k_is)
    (case l_leastO => k_is)
    (case c_leastO => k_is)
    (case k_leastO => k_is)
    (case a_leastP => k_is)
    (case l_leastP => k_is)
    (case c_leastP => k_is)
    (case k_leastP => k_is)
    (case a_mir => k_is)
    (case l_mir => k_is)
    (case c_mir => k_is)
    (case k_mir => k_is)
    (case a_leav => k_is)
    (case l_leav => k_is)
    (case c_leav => k_is)
    (case k_leav => k_is)
    (case a_looks => k_is)
    (case l_looks => k_is)
    (case c_looks => k_is)
    (case k_looks => k_is)
    (case a_purse => k_is)
    (case l_purse => k_is)
    (case c_purse => k_is)
    (case k_purse => k_is)
    (case a_draw => k_is)
    (case l_draw => k_is)
    (case c_draw => k_is)
    (case k_draw => k_is)
    (case a_mixed => k_is)
    (case l_mixed => k_is)
    (case c_mixed => k_is)
    (case k_mixed => k_is)
    (case a_coat => k_is)
    (case l_coat => k_is)
    (case c_coat => k_is)
    (case k_coat => k_is)
    (case a_ren => k_is)
    (case l_ren => k_is)
    (case c_ren => k_is)
    (case k_ren => k_is)
    (case a_closed => k_is)
    (case l_closed => k_is)
    (case c_closed => k_is)
    (case k_closed => k_is)
    (case a_glass => k_is)
    (case l_glass => k_is)
    (case c_glass => k_is)
    (case k_glass => k_is)
    (case a_law => k_is)
    (case l_law => k_is)
    (case c_law => k_is)
    (case k_law => k_is)
    (case z_isinstance => k_is)
    (case z_int => k_is)
    (case z_bool => k_is)
    (case z_tuple => k_is)
    (case z_len => k_is)
    (case z_all => k_is)
    (case z_list => k_is)
    (case z_zip => k_is)
    (case z_min => k_is)
    (case z_sorted => k_is)
    (case z_set => k_is)
    (case z_range => k_is)
    (case z_abs => k_is)
    (case aT_ => k_is)
    (case aS_ => k_is)
    (case eT => kernel_rfl)
    (case eS => kernel_rfl)

