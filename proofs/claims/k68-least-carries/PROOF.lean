import PyProof.Rows.All
import Wide.All
import OpenK.AllK
import Wide.FinOn
import HandS.ForMost
import HandS.Evl
import HandS.Zip
import HandS.TupAny
import HandS.IsInst
import HandS.Style
import KE.KDictKeyed
import KE.KDictDisplayH
import KE.GoesMore
import KE.DataMinMax
import HandS.SetKeys
import KE.GoesSet
import PySem.Challenge.RW_fullbelts_k68_whole_least_carries
/-! ## KMath -/
set_option linter.all false
namespace KM
/-! pigeonhole, words, universes -/
theorem php {β : Type} [DecidableEq β] : ∀ (l m : List β), l.Nodup → (∀ x ∈ l, x ∈ m) → l.length ≤ m.length
  | [], _, _, _ => Nat.zero_le _
  | x :: l, m, hn, hs => by
    have hx : x ∈ m := hs x List.mem_cons_self
    have hn' := List.nodup_cons.mp hn
    have h1 := php l (m.erase x) hn'.2 (fun y hy => (List.mem_erase_of_ne (fun (e : y = x) => hn'.1 (by rw [← e]; exact hy))).mpr (hs y (List.mem_cons_of_mem _ hy)))
    have h2 := List.length_erase_of_mem hx
    have h3 := List.length_pos_of_mem hx
    simp only [List.length_cons]
    omega

variable {α : Type} [DecidableEq α]
abbrev Row (α : Type) := List (Option α)
abbrev Hold (α : Type) := List (List (Option α))

def words (I : Row α) : Nat → List (Row α)
  | 0 => [[]]
  | n + 1 => I.flatMap fun x => (words I n).map (x :: ·)
theorem words_len (I : Row α) : ∀ n, (words I n).length = I.length ^ n
  | 0 => rfl
  | n + 1 => by
    simp only [words, List.length_flatMap, List.length_map, words_len I n]
    rw [List.map_const', List.sum_replicate_nat, Nat.pow_succ, Nat.mul_comm]
theorem mem_words (I : Row α) : ∀ (r : Row α), (∀ x ∈ r, x ∈ I) → r ∈ words I r.length
  | [], _ => by simp [words]
  | x :: r, h => by
    simp only [words, List.length_cons, List.mem_flatMap, List.mem_map]
    exact ⟨x, h x List.mem_cons_self, r, mem_words I r (fun y hy => h y (List.mem_cons_of_mem _ hy)), rfl⟩
def univ (I : Row α) : List Nat → List (Hold α)
  | [] => [[]]
  | n :: ns => (words I n).flatMap fun r => (univ I ns).map (r :: ·)
theorem univ_len (I : Row α) : ∀ ns : List Nat, (univ I ns).length = I.length ^ ns.sum
  | [] => by simp [univ]
  | n :: ns => by
    simp only [univ, List.length_flatMap, List.length_map, univ_len I ns]
    rw [List.map_const', List.sum_replicate_nat, words_len, List.sum_cons, Nat.pow_add]
theorem mem_univ (I : Row α) : ∀ h : Hold α, (∀ x ∈ h.flatten, x ∈ I) → h ∈ univ I (h.map List.length)
  | [], _ => by simp [univ]
  | r :: h, hh => by
    simp only [univ, List.map_cons, List.mem_flatMap, List.mem_map]
    refine ⟨r, mem_words I r fun x hx => hh x ?_, h, mem_univ I h fun x hx => hh x ?_, rfl⟩
    · simp [hx]
    · simp only [List.flatten_cons, List.mem_append]; exact .inr hx
/-- the holdings of one shape, of some items -/
def Of (I : Row α) (ns : List Nat) (h : Hold α) : Prop := h.map List.length = ns ∧ ∀ x ∈ h.flatten, x ∈ I
theorem Of.mem {I : Row α} {ns : List Nat} {h : Hold α} (o : Of I ns h) : h ∈ univ I ns := by
  obtain ⟨rfl, h2⟩ := o
  exact mem_univ I h h2
theorem Of.card {I : Row α} {ns : List Nat} {l : List (Hold α)} (hn : l.Nodup) (o : ∀ h ∈ l, Of I ns h) : l.length ≤ I.length ^ ns.sum := by
  rw [← univ_len]
  exact php l _ hn fun h hh => (o h hh).mem

/-! puts -/
def put (h : Hold α) (b : Nat) (x : Option α) : Hold α := h.set b (x :: (h.getD b []).dropLast)
def nb (h : Hold α) : List (Hold α) := h.flatten.flatMap fun x => (List.range h.length).map fun b => put h b x
theorem mem_nb {h t : Hold α} : t ∈ nb h ↔ ∃ x ∈ h.flatten, ∃ b < h.length, t = put h b x := by
  simp only [nb, List.mem_flatMap, List.mem_map, List.mem_range]
  constructor
  · rintro ⟨x, hx, b, hb, rfl⟩; exact ⟨x, hx, b, hb, rfl⟩
  · rintro ⟨x, hx, b, hb, rfl⟩; exact ⟨x, hx, b, hb, rfl⟩
/-- no belt is empty -/
def Pos (ns : List Nat) : Prop := ∀ n ∈ ns, 0 < n
theorem put_shape {h : Hold α} {b : Nat} {x : Option α} (hb : b < h.length) (hp : Pos (h.map List.length)) : (put h b x).map List.length = h.map List.length := by
  have e : h.getD b [] = h[b] := by simp [List.getD, hb]
  have hl : 0 < h[b].length := hp _ (List.mem_map.mpr ⟨h[b], List.getElem_mem hb, rfl⟩)
  unfold put
  rw [List.map_set, e]
  have : (x :: h[b].dropLast).length = (h.map List.length)[b]'(by simpa using hb) := by
    simp only [List.length_cons, List.length_dropLast, List.getElem_map]
    omega
  rw [this, List.set_getElem_self]
theorem mem_flat_set {h : Hold α} {b : Nat} {r : Row α} {y : Option α} (hy : y ∈ (h.set b r).flatten) : y ∈ h.flatten ∨ y ∈ r := by
  obtain ⟨row, hr, hy⟩ := List.mem_flatten.mp hy
  rcases List.mem_or_eq_of_mem_set hr with q | q
  · exact .inl (List.mem_flatten.mpr ⟨row, q, hy⟩)
  · rw [q] at hy; exact .inr hy
theorem put_items {h : Hold α} {b : Nat} {x y : Option α} (hx : x ∈ h.flatten) (hy : y ∈ (put h b x).flatten) : y ∈ h.flatten := by
  rcases mem_flat_set hy with q | q
  · exact q
  · rcases List.mem_cons.mp q with q | q
    · rw [q]; exact hx
    · have q' := List.dropLast_subset _ q
      by_cases hb : b < h.length
      · rw [show h.getD b [] = h[b] by simp [List.getD, hb]] at q'
        exact List.mem_flatten.mpr ⟨_, List.getElem_mem hb, q'⟩
      · rw [show h.getD b [] = [] by simp [List.getD, Nat.le_of_not_lt hb]] at q'
        cases q'
theorem Of.nb {I : Row α} {ns : List Nat} {h t : Hold α} (o : Of I ns h) (hp : Pos ns) (ht : t ∈ nb h) : Of I ns t := by
  obtain ⟨x, hx, b, hb, rfl⟩ := mem_nb.mp ht
  obtain ⟨rfl, h2⟩ := o
  exact ⟨put_shape hb hp, fun y hy => h2 y (put_items hx hy)⟩

/-! reaching -/
inductive Reach (s : Hold α) : Nat → Hold α → Prop where
  | zero : Reach s 0 s
  | succ {n : Nat} {t u : Hold α} : Reach s n t → u ∈ nb t → Reach s (n + 1) u
theorem Reach.trans {s t : Hold α} {m : Nat} (a : Reach s m t) : ∀ {n : Nat} {u : Hold α}, Reach t n u → Reach s (m + n) u
  | _, _, .zero => a
  | _, _, .succ q h => .succ (Reach.trans a q) h
theorem Reach.of {I : Row α} {ns : List Nat} {s : Hold α} (o : Of I ns s) (hp : Pos ns) : ∀ {n : Nat} {t : Hold α}, Reach s n t → Of I ns t
  | _, _, .zero => o
  | _, _, .succ q h => (Reach.of o hp q).nb hp h
/-- n is the least number of steps to a thing that fits -/
def Least (F : Hold α → Prop) (s : Hold α) (n : Nat) : Prop := (∃ u, Reach s n u ∧ F u) ∧ ∀ m < n, ∀ u, Reach s m u → ¬ F u
def Never (F : Hold α → Prop) (s : Hold α) : Prop := ∀ m u, Reach s m u → ¬ F u
theorem Least.uniq {F : Hold α → Prop} {s : Hold α} {n m : Nat} (a : Least F s n) (b : Least F s m) : n = m := by
  obtain ⟨⟨u, hu, fu⟩, h⟩ := a
  obtain ⟨⟨v, hv, fv⟩, k⟩ := b
  rcases Nat.lt_trichotomy n m with q | q | q
  · exact absurd fu (k n q u hu)
  · exact q
  · exact absurd fv (h m q v hv)
theorem Least.not_never {F : Hold α → Prop} {s : Hold α} {n : Nat} (a : Least F s n) : ¬ Never F s := fun h => by
  obtain ⟨⟨u, hu, fu⟩, _⟩ := a
  exact h n u hu fu
/-- what a search says -/
def Ans (F : Hold α → Prop) (s : Hold α) : Option Nat → Prop
  | some n => Least F s n
  | none => Never F s
theorem Ans.uniq {F : Hold α → Prop} {s : Hold α} : ∀ {a b : Option Nat}, Ans F s a → Ans F s b → a = b
  | some _, some _, x, y => by rw [Least.uniq x y]
  | some _, none, x, y => absurd y (Least.not_never x)
  | none, some _, x, y => absurd x (Least.not_never y)
  | none, none, _, _ => rfl

/-! the search by levels -/
structure Lv (F : Hold α → Prop) (s : Hold α) (m : Nat) (known front : List (Hold α)) : Prop where
  kn : ∀ u, u ∈ known ↔ ∃ j, j ≤ m ∧ Reach s j u
  fr : ∀ u ∈ front, Reach s m u
  rf : ∀ u, Reach s m u → u ∈ front ∨ ∃ j, j < m ∧ Reach s j u
  no : ∀ j, j < m → ∀ u, Reach s j u → ¬ F u
  nd : known.Nodup
theorem Lv.start {F : Hold α → Prop} {s : Hold α} : Lv F s 0 [s] [s] where
  kn := fun u => by
    constructor
    · intro h; rw [List.mem_singleton.mp h]; exact ⟨0, Nat.le_refl _, .zero⟩
    · rintro ⟨j, hj, h⟩
      have : j = 0 := by omega
      subst this; cases h; exact List.mem_singleton.mpr rfl
  fr := fun u h => by rw [List.mem_singleton.mp h]; exact .zero
  rf := fun u h => by cases h; exact .inl (List.mem_singleton.mpr rfl)
  no := fun j h => absurd h (Nat.not_lt_zero _)
  nd := by simp
theorem Lv.found {F : Hold α → Prop} {s : Hold α} {m : Nat} {known front : List (Hold α)} (L : Lv F s m known front) (h : ∃ u ∈ front, F u) : Least F s m := by
  obtain ⟨u, hu, fu⟩ := h
  exact ⟨⟨u, L.fr u hu, fu⟩, L.no⟩
theorem Lv.missed {F : Hold α → Prop} {s : Hold α} {m : Nat} {known front : List (Hold α)} (L : Lv F s m known front) (h : ∀ u ∈ front, ¬ F u) : ∀ j, j < m + 1 → ∀ u, Reach s j u → ¬ F u := by
  intro j hj u hu
  by_cases e : j < m
  · exact L.no j e u hu
  · have : j = m := by omega
    subst this
    rcases L.rf u hu with q | ⟨i, hi, q⟩
    · exact h u q
    · exact L.no i hi u q
/-- within a level: the list L of what was seen so far -/
structure Ab (known L later : List (Hold α)) : Prop where
  sub : ∀ u ∈ later, u ∈ L ∧ u ∉ known
  all : ∀ u ∈ L, u ∈ known ∨ u ∈ later
  nd : (known ++ later).Nodup
theorem Ab.start {known : List (Hold α)} (h : known.Nodup) : Ab known [] [] := ⟨(fun _ h => nomatch h), (fun _ h => nomatch h), by simpa using h⟩
theorem Ab.old {known L later : List (Hold α)} {t : Hold α} (a : Ab known L later) (h : t ∈ known ++ later) : Ab known (L ++ [t]) later where
  sub := fun u hu => ⟨List.mem_append_left _ (a.sub u hu).1, (a.sub u hu).2⟩
  all := fun u hu => by
    rcases List.mem_append.mp hu with q | q
    · exact a.all u q
    · rw [List.mem_singleton.mp q]; exact List.mem_append.mp h
  nd := a.nd
theorem Ab.new {known L later : List (Hold α)} {t : Hold α} (a : Ab known L later) (h : t ∉ known ++ later) : Ab known (L ++ [t]) (later ++ [t]) where
  sub := fun u hu => by
    rcases List.mem_append.mp hu with q | q
    · exact ⟨List.mem_append_left _ (a.sub u q).1, (a.sub u q).2⟩
    · rw [List.mem_singleton.mp q]
      exact ⟨List.mem_append_right _ (List.mem_singleton.mpr rfl), fun z => h (List.mem_append_left _ z)⟩
  all := fun u hu => by
    rcases List.mem_append.mp hu with q | q
    · rcases a.all u q with z | z
      · exact .inl z
      · exact .inr (List.mem_append_left _ z)
    · exact .inr (List.mem_append_right _ q)
  nd := by
    rw [← List.append_assoc]
    refine List.nodup_append.mpr ⟨a.nd, by simp, ?_⟩
    intro x hx y hy e
    rw [List.mem_singleton.mp hy] at e
    subst e; exact h hx
theorem Lv.next {F : Hold α → Prop} {s : Hold α} {m : Nat} {known front later : List (Hold α)} (L : Lv F s m known front) (h : ∀ u ∈ front, ¬ F u) (a : Ab known (front.flatMap nb) later) : Lv F s (m + 1) (known ++ later) later where
  kn := fun u => by
    constructor
    · intro hu
      rcases List.mem_append.mp hu with q | q
      · obtain ⟨j, hj, r⟩ := (L.kn u).mp q
        exact ⟨j, by omega, r⟩
      · obtain ⟨v, hv, hu⟩ := List.mem_flatMap.mp (a.sub u q).1
        exact ⟨m + 1, Nat.le_refl _, .succ (L.fr v hv) hu⟩
    · rintro ⟨j, hj, r⟩
      by_cases e : j ≤ m
      · exact List.mem_append_left _ ((L.kn u).mpr ⟨j, e, r⟩)
      · have : j = m + 1 := by omega
        subst this
        cases r with
        | succ q hu =>
          rename_i v
          rcases L.rf v q with z | ⟨i, hi, z⟩
          · exact List.mem_append.mpr (a.all u (List.mem_flatMap.mpr ⟨v, z, hu⟩))
          · exact List.mem_append_left _ ((L.kn u).mpr ⟨i + 1, by omega, .succ z hu⟩)
  fr := fun u q => by
    obtain ⟨v, hv, hu⟩ := List.mem_flatMap.mp (a.sub u q).1
    exact .succ (L.fr v hv) hu
  rf := fun u r => by
    cases r with
    | succ q hu =>
      rename_i v
      rcases L.rf v q with z | ⟨i, hi, z⟩
      · rcases a.all u (List.mem_flatMap.mpr ⟨v, z, hu⟩) with y | y
        · obtain ⟨j, hj, r⟩ := (L.kn u).mp y
          exact .inr ⟨j, by omega, r⟩
        · exact .inl y
      · exact .inr ⟨i + 1, by omega, .succ z hu⟩
  no := L.missed h
  nd := a.nd
theorem Lv.dead {F : Hold α → Prop} {s : Hold α} {m : Nat} {known : List (Hold α)} (L : Lv F s (m + 1) known []) : Never F s := by
  have key : ∀ n u, Reach s n u → ∃ j, j < m + 1 ∧ Reach s j u := by
    intro n
    induction n with
    | zero => intro u r; exact ⟨0, by omega, r⟩
    | succ n ih =>
      intro u r
      cases r with
      | succ q hu =>
        rename_i v
        obtain ⟨j, hj, rv⟩ := ih v q
        by_cases e : j + 1 < m + 1
        · exact ⟨j + 1, e, .succ rv hu⟩
        · have : j = m := by omega
          subst this
          rcases L.rf u (.succ rv hu) with z | z
          · cases z
          · exact z
  intro n u r
  obtain ⟨j, hj, r'⟩ := key n u r
  exact L.no j hj u r'

/-! the search by a queue: E has what waits, with its number of steps -/
structure Qu (F : Hold α → Prop) (s : Hold α) (E : List (Hold α × Nat)) (at_ : Nat) : Prop where
  hd : E[0]? = some (s, 0)
  nd : (E.map (·.1)).Nodup
  le : ∀ (i j : Nat) (t : Hold α) (l : Nat) (u : Hold α) (k : Nat), i ≤ j → E[i]? = some (t, l) → E[j]? = some (u, k) → l ≤ k
  re : ∀ t l, (t, l) ∈ E → Reach s l t
  pr : ∀ (i : Nat) (t : Hold α) (l : Nat), i < at_ → E[i]? = some (t, l) → ¬ F t ∧ ∀ u ∈ nb t, ∃ k, k ≤ l + 1 ∧ (u, k) ∈ E
  li : ∀ (t : Hold α) (l : Nat) (u : Hold α) (k : Nat), E[at_]? = some (t, l) → (u, k) ∈ E → k ≤ l + 1
theorem Qu.start {F : Hold α → Prop} {s : Hold α} : Qu F s [(s, 0)] 0 where
  hd := rfl
  nd := by simp
  le := fun i j t l u k hij h1 h2 => by
    have e1 : i < 1 := (List.getElem?_eq_some_iff.mp h1).1
    have e2 : j < 1 := (List.getElem?_eq_some_iff.mp h2).1
    have : i = 0 := by omega
    have : j = 0 := by omega
    subst i; subst j
    simp at h1 h2
    omega
  re := fun t l h => by
    have e := List.mem_singleton.mp h
    injection e with e1 e2
    subst e1; subst e2; exact .zero
  pr := fun i t l h => absurd h (Nat.not_lt_zero _)
  li := fun t l u k h1 h2 => by
    have e := List.mem_singleton.mp h2
    injection e with e1 e2
    omega
/-- all that is nearer than the one at hand is done -/
theorem Qu.near {F : Hold α → Prop} {s : Hold α} {E : List (Hold α × Nat)} {at_ : Nat} (q : Qu F s E at_) {t : Hold α} {l : Nat} (h : E[at_]? = some (t, l)) : ∀ n u, Reach s n u → n ≤ l → ∃ k, k ≤ n ∧ (u, k) ∈ E := by
  intro n
  induction n with
  | zero =>
    intro u r _
    cases r
    exact ⟨0, Nat.le_refl _, List.mem_of_getElem? q.hd⟩
  | succ n ih =>
    intro u r hn
    cases r with
    | succ rv hu =>
      rename_i v
      obtain ⟨k, hk, hv⟩ := ih v rv (by omega)
      obtain ⟨i, hi⟩ := List.mem_iff_getElem?.mp hv
      have hlt : i < at_ := by
        rcases Nat.lt_or_ge i at_ with z | z
        · exact z
        · have := q.le at_ i t l v k z h hi
          omega
      obtain ⟨k', hk', hu'⟩ := (q.pr i v k hlt hi).2 u hu
      exact ⟨k', by omega, hu'⟩
theorem Qu.found {F : Hold α → Prop} {s : Hold α} {E : List (Hold α × Nat)} {at_ : Nat} (q : Qu F s E at_) {t : Hold α} {l : Nat} (h : E[at_]? = some (t, l)) (ft : F t) : Least F s l := by
  refine ⟨⟨t, q.re t l (List.mem_of_getElem? h), ft⟩, fun m hm u ru fu => ?_⟩
  obtain ⟨k, hk, hu⟩ := q.near h m u ru (by omega)
  obtain ⟨i, hi⟩ := List.mem_iff_getElem?.mp hu
  have hlt : i < at_ := by
    rcases Nat.lt_or_ge i at_ with z | z
    · exact z
    · have := q.le at_ i t l u k z h hi
      omega
  exact (q.pr i u k hlt hi).1 fu
theorem Qu.dead {F : Hold α → Prop} {s : Hold α} {E : List (Hold α × Nat)} {at_ : Nat} (q : Qu F s E at_) (h : E.length ≤ at_) : Never F s := by
  have key : ∀ n u, Reach s n u → ∃ k, (u, k) ∈ E := by
    intro n
    induction n with
    | zero => intro u r; cases r; exact ⟨0, List.mem_of_getElem? q.hd⟩
    | succ n ih =>
      intro u r
      cases r with
      | succ rv hu =>
        rename_i v
        obtain ⟨k, hv⟩ := ih v rv
        obtain ⟨i, hi⟩ := List.mem_iff_getElem?.mp hv
        have hlt : i < at_ := Nat.lt_of_lt_of_le (List.getElem?_eq_some_iff.mp hi).1 h
        obtain ⟨k', _, hu'⟩ := (q.pr i v k hlt hi).2 u hu
        exact ⟨k', hu'⟩
  intro n u r fu
  obtain ⟨k, hu⟩ := key n u r
  obtain ⟨i, hi⟩ := List.mem_iff_getElem?.mp hu
  exact (q.pr i u k (Nat.lt_of_lt_of_le (List.getElem?_eq_some_iff.mp hi).1 h) hi).1 fu
/-- while the neighbours L of the one at hand are laid -/
structure QuIn (F : Hold α → Prop) (s : Hold α) (E : List (Hold α × Nat)) (at_ : Nat) (t : Hold α) (l : Nat) (L : List (Hold α)) : Prop where
  q : Qu F s E at_
  h : E[at_]? = some (t, l)
  all : ∀ u ∈ L, ∃ k, k ≤ l + 1 ∧ (u, k) ∈ E
theorem QuIn.start {F : Hold α → Prop} {s : Hold α} {E : List (Hold α × Nat)} {at_ : Nat} {t : Hold α} {l : Nat} (q : Qu F s E at_) (h : E[at_]? = some (t, l)) : QuIn F s E at_ t l [] := ⟨q, h, (fun _ h => nomatch h)⟩
theorem QuIn.old {F : Hold α → Prop} {s : Hold α} {E : List (Hold α × Nat)} {at_ : Nat} {t u : Hold α} {l : Nat} {L : List (Hold α)} (x : QuIn F s E at_ t l L) (h : u ∈ E.map (·.1)) : QuIn F s E at_ t l (L ++ [u]) := by
  refine ⟨x.q, x.h, fun v hv => ?_⟩
  rcases List.mem_append.mp hv with z | z
  · exact x.all v z
  · rw [List.mem_singleton.mp z]
    obtain ⟨⟨u', k⟩, hk, rfl⟩ := List.mem_map.mp h
    exact ⟨k, x.q.li t l _ k x.h hk, hk⟩
theorem QuIn.new {F : Hold α → Prop} {s : Hold α} {E : List (Hold α × Nat)} {at_ : Nat} {t u : Hold α} {l : Nat} {L : List (Hold α)} (x : QuIn F s E at_ t l L) (h : u ∉ E.map (·.1)) (hu : u ∈ nb t) : QuIn F s (E ++ [(u, l + 1)]) at_ t l (L ++ [u]) := by
  have hlen : at_ < E.length := (List.getElem?_eq_some_iff.mp x.h).1
  have get : ∀ i v k, (E ++ [(u, l + 1)])[i]? = some (v, k) → (i < E.length ∧ E[i]? = some (v, k)) ∨ (i = E.length ∧ v = u ∧ k = l + 1) := by
    intro i v k e
    rcases Nat.lt_or_ge i E.length with z | z
    · rw [List.getElem?_append_left z] at e; exact .inl ⟨z, e⟩
    · have e2 := (List.getElem?_eq_some_iff.mp e).1
      simp only [List.length_append, List.length_cons, List.length_nil] at e2
      have : i = E.length := by omega
      subst this
      rw [List.getElem?_append_right (Nat.le_refl _)] at e
      simp at e
      exact .inr ⟨rfl, e.1.symm, e.2.symm⟩
  refine ⟨⟨?_, ?_, ?_, ?_, ?_, ?_⟩, ?_, ?_⟩
  · rw [List.getElem?_append_left (by omega)]; exact x.q.hd
  · rw [List.map_append]
    refine List.nodup_append.mpr ⟨x.q.nd, by simp, ?_⟩
    intro a ha b hb e
    simp at hb
    subst e; subst hb; exact h ha
  · intro i j a la b lb hij h1 h2
    rcases get i a la h1 with ⟨z1, e1⟩ | ⟨z1, e1, e1'⟩
    · rcases get j b lb h2 with ⟨z2, e2⟩ | ⟨z2, e2, e2'⟩
      · exact x.q.le i j a la b lb hij e1 e2
      · rw [e2']; exact x.q.li t l a la x.h (List.mem_of_getElem? e1)
    · rcases get j b lb h2 with ⟨z2, e2⟩ | ⟨z2, e2, e2'⟩
      · omega
      · omega
  · intro v k hv
    rcases List.mem_append.mp hv with z | z
    · exact x.q.re v k z
    · have e := List.mem_singleton.mp z
      injection e with e1 e2
      subst e1; subst e2
      exact .succ (x.q.re t l (List.mem_of_getElem? x.h)) hu
  · intro i v k hi e
    rw [List.getElem?_append_left (by omega)] at e
    refine ⟨(x.q.pr i v k hi e).1, fun a ha => ?_⟩
    obtain ⟨k', h1, h2⟩ := (x.q.pr i v k hi e).2 a ha
    exact ⟨k', h1, List.mem_append_left _ h2⟩
  · intro v k a ka e hm
    rw [List.getElem?_append_left hlen, x.h] at e
    injection e with e; injection e with e1 e2
    subst e1; subst e2
    rcases List.mem_append.mp hm with z | z
    · exact x.q.li t l a ka x.h z
    · have e := List.mem_singleton.mp z
      injection e with _ e2
      omega
  · rw [List.getElem?_append_left hlen]; exact x.h
  · intro v hv
    rcases List.mem_append.mp hv with z | z
    · obtain ⟨k, h1, h2⟩ := x.all v z
      exact ⟨k, h1, List.mem_append_left _ h2⟩
    · rw [List.mem_singleton.mp z]
      exact ⟨l + 1, Nat.le_refl _, List.mem_append_right _ (List.mem_singleton.mpr rfl)⟩
theorem QuIn.done {F : Hold α → Prop} {s : Hold α} {E : List (Hold α × Nat)} {at_ : Nat} {t : Hold α} {l : Nat} (x : QuIn F s E at_ t l (nb t)) (nf : ¬ F t) : Qu F s E (at_ + 1) where
  hd := x.q.hd
  nd := x.q.nd
  le := x.q.le
  re := x.q.re
  pr := fun i v k hi e => by
    by_cases z : i < at_
    · exact x.q.pr i v k z e
    · have : i = at_ := by omega
      subst this
      rw [x.h] at e
      injection e with e; injection e with e1 e2
      subst e1; subst e2
      exact ⟨nf, x.all⟩
  li := fun v k a ka e hm => by
    have h1 := x.q.li t l a ka x.h hm
    have h2 := x.q.le at_ (at_ + 1) t l v k (Nat.le_succ _) x.h e
    omega
end KM
namespace KM
variable {α : Type} [DecidableEq α]
/-! seats -/
theorem flat_set : ∀ (h : Hold α) (p : Nat), p < h.flatten.length → ∃ (A : Row α) (y : Option α) (B : Row α) (b : Nat), h[b]? = some (A ++ y :: B) ∧ h.flatten[p]? = some y ∧ ∀ x, (h.set b (A ++ x :: B)).flatten = h.flatten.set p x
  | [], p, hp => by simp at hp
  | r :: h, p, hp => by
    rcases Nat.lt_or_ge p r.length with z | z
    · have e : r.take p ++ r[p] :: r.drop (p + 1) = r := by
        rw [← List.drop_eq_getElem_cons z, List.take_append_drop]
      refine ⟨r.take p, r[p], r.drop (p + 1), 0, by simp [e], ?_, fun x => ?_⟩
      · simp only [List.flatten_cons]
        rw [List.getElem?_append_left z, List.getElem?_eq_getElem z]
      · simp only [List.set_cons_zero, List.flatten_cons]
        rw [List.set_append, if_pos z, List.set_eq_take_append_cons_drop, if_pos z]
    · simp only [List.flatten_cons, List.length_append] at hp
      obtain ⟨A, y, B, b, h1, h2, h3⟩ := flat_set h (p - r.length) (by omega)
      refine ⟨A, y, B, b + 1, by simpa using h1, ?_, fun x => ?_⟩
      · simp only [List.flatten_cons]
        rw [List.getElem?_append_right z]; exact h2
      · simp only [List.set_cons_succ, List.flatten_cons, h3 x]
        rw [List.set_append, if_neg (Nat.not_lt.mpr z)]
theorem Reach.one {h t : Hold α} (x : t ∈ nb h) : Reach h 1 t := .succ .zero x
theorem put_snoc {h : Hold α} {b : Nat} {C : Row α} {y x : Option α} (e : h[b]? = some (C ++ [y])) : put h b x = h.set b (x :: C) := by
  have e2 : h.getD b [] = C ++ [y] := by simp [List.getD, e]
  unfold put
  rw [e2, List.dropLast_concat]
theorem lt_of_get {β : Type} {h : List β} {b : Nat} {r : β} (e : h[b]? = some r) : b < h.length := (List.getElem?_eq_some_iff.mp e).1
theorem mem_flat {h : Hold α} {b : Nat} {r : Row α} {x : Option α} (e : h[b]? = some r) (hx : x ∈ r) : x ∈ h.flatten :=
  List.mem_flatten.mpr ⟨r, List.mem_of_getElem? e, hx⟩
theorem get_set {h : Hold α} {b : Nat} {r q : Row α} (e : h[b]? = some r) : (h.set b q)[b]? = some q := by
  rw [List.getElem?_set_self (lt_of_get e)]
theorem turn : ∀ (n : Nat) (B A : Row α) (h : Hold α) (b : Nat), B.length = n → h[b]? = some (A ++ B) → Reach h n (h.set b (B ++ A))
  | 0, B, A, h, b, hn, e => by
    have : B = [] := List.eq_nil_of_length_eq_zero hn
    subst this
    rw [List.append_nil] at e
    rw [List.nil_append]
    have : h.set b A = h := by
      obtain ⟨hb, e'⟩ := List.getElem?_eq_some_iff.mp e
      rw [← e', List.set_getElem_self]
    rw [this]
    exact .zero
  | n + 1, B, A, h, b, hn, e => by
    rcases List.eq_nil_or_concat B with rfl | ⟨B', y, rfl⟩
    · simp at hn
    · rw [List.concat_eq_append] at e hn ⊢
      have hn' : B'.length = n := by simpa using hn
      have e1 : h[b]? = some ((A ++ B') ++ [y]) := by rw [e, List.append_assoc]
      have s1 : h.set b (y :: (A ++ B')) ∈ nb h := mem_nb.mpr ⟨y, mem_flat e (by simp), b, lt_of_get e, (put_snoc e1).symm⟩
      have s2 := turn n B' (y :: A) (h.set b (y :: (A ++ B'))) b hn' (get_set e)
      rw [List.set_set] at s2
      have s3 := (Reach.one s1).trans s2
      rw [Nat.add_comm]
      have : B' ++ [y] ++ A = B' ++ y :: A := by simp
      rw [this]
      exact s3
theorem write {h : Hold α} {b : Nat} {A B : Row α} {y x : Option α} (e : h[b]? = some (A ++ y :: B)) (hx : x ∈ h.flatten) : Reach h (A ++ y :: B).length (h.set b (A ++ x :: B)) := by
  have e1 : h[b]? = some ((A ++ [y]) ++ B) := by rw [e]; simp
  have t1 := turn B.length B (A ++ [y]) h b rfl e1
  have g1 : (h.set b (B ++ (A ++ [y])))[b]? = some ((B ++ A) ++ [y]) := by rw [get_set e]; simp
  have hx1 : x ∈ (h.set b (B ++ (A ++ [y]))).flatten := by
    obtain ⟨r, hr, hxr⟩ := List.mem_flatten.mp hx
    obtain ⟨i, hi⟩ := List.mem_iff_getElem?.mp hr
    by_cases hib : i = b
    · subst hib
      rw [e] at hi
      cases hi
      refine mem_flat (get_set e) ?_
      simp only [List.mem_append, List.mem_cons, List.mem_singleton] at hxr ⊢
      rcases hxr with q | q | q
      · exact .inr (.inl q)
      · exact .inr (.inr (.inl q))
      · exact .inl q
    · refine mem_flat (b := i) (r := r) ?_ hxr
      rw [List.getElem?_set_ne (Ne.symm hib)]; exact hi
  have s1 : (h.set b (B ++ (A ++ [y]))).set b (x :: (B ++ A)) ∈ nb (h.set b (B ++ (A ++ [y]))) :=
    mem_nb.mpr ⟨x, hx1, b, by rw [List.length_set]; exact lt_of_get e, (put_snoc g1).symm⟩
  rw [List.set_set] at s1
  have t2 := turn A.length A (x :: B) (h.set b (x :: (B ++ A))) b rfl (by rw [get_set e]; simp)
  rw [List.set_set] at t2
  have t := (t1.trans (Reach.one s1)).trans t2
  have el : (A ++ y :: B).length = B.length + 1 + A.length := by simp; omega
  rw [el]
  exact t
theorem row_le {h : Hold α} {b : Nat} {r : Row α} (e : h[b]? = some r) : r.length ≤ h.flatten.length := by
  induction h generalizing b with
  | nil => simp at e
  | cons q h ih =>
    cases b with
    | zero => simp at e; subst e; simp
    | succ b => simp at e; have := ih e; simp at this ⊢; omega
theorem shape_set {h : Hold α} {b : Nat} {r q : Row α} (e : h[b]? = some r) (l : q.length = r.length) : (h.set b q).map List.length = h.map List.length := by
  obtain ⟨hb, e'⟩ := List.getElem?_eq_some_iff.mp e
  rw [List.map_set, l, ← e']
  have : h[b].length = (h.map List.length)[b]'(by simpa using hb) := by simp
  rw [this, List.set_getElem_self]

/-- writes on the row of all seats -/
inductive Wr (f : Row α) : Nat → Row α → Prop where
  | zero : Wr f 0 f
  | succ {m : Nat} {f' : Row α} {p : Nat} {x : Option α} : Wr f m f' → p < f'.length → x ∈ f' → Wr f (m + 1) (f'.set p x)
theorem Wr.len {f f' : Row α} {m : Nat} (w : Wr f m f') : f'.length = f.length := by
  induction w with
  | zero => rfl
  | succ _ _ _ ih => rw [List.length_set, ih]
theorem Wr.reach {h : Hold α} {m : Nat} {f' : Row α} (w : Wr h.flatten m f') : ∃ (k : Nat) (h' : Hold α), k ≤ m * h.flatten.length ∧ Reach h k h' ∧ h'.flatten = f' ∧ h'.map List.length = h.map List.length := by
  induction w with
  | zero => exact ⟨0, h, by omega, .zero, rfl, rfl⟩
  | @succ m f1 p x w1 hp hx ih =>
    obtain ⟨k, h1, hk, r1, e1, s1⟩ := ih
    subst e1
    obtain ⟨A, y, B, b, g1, g2, g3⟩ := flat_set h1 p hp
    have r2 := write g1 hx
    have lrow := row_le g1
    have ll := w1.len
    refine ⟨k + (A ++ y :: B).length, _, ?_, r1.trans r2, g3 x, (shape_set g1 (by simp)).trans s1⟩
    rw [Nat.succ_mul]; omega
theorem Wr.trans {f g : Row α} {m : Nat} (a : Wr f m g) : ∀ {n : Nat} {k : Row α}, Wr g n k → Wr f (m + n) k
  | _, _, .zero => a
  | _, _, .succ q h1 h2 => .succ (Wr.trans a q) h1 h2

/-! putting names where they are wanted -/
def Free (f : Row α) (p : Nat) : Prop := f[p]? = some none ∨ ∃ q, q ≠ p ∧ q < f.length ∧ f[q]? = f[p]?
def wrong (f g : Row α) (i : Nat) : Bool := decide (g[i]? ≠ some none ∧ f[i]? ≠ g[i]?)
def wr (f g : Row α) : Nat := ((List.range g.length).filter (wrong f g)).length
structure Cd (f g : Row α) : Prop where
  len : f.length = g.length
  gn : none ∈ g
  gd : ∀ (i j : Nat) (a : α), g[i]? = some (some a) → g[j]? = some (some a) → i = j
  pr : ∀ a, some a ∈ g → some a ∈ f
  fi : ∀ a, some a ∈ f → some a ∈ g
theorem Cd.set {f g : Row α} (c : Cd f g) {p : Nat} {x : Option α} (hp : p < f.length) (hx : x ∈ f) (fr : Free f p) : Cd (f.set p x) g where
  len := by rw [List.length_set]; exact c.len
  gn := c.gn
  gd := c.gd
  pr := fun a ha => by
    obtain ⟨i, hi⟩ := List.mem_iff_getElem?.mp (c.pr a ha)
    by_cases e : i = p
    · subst e
      rcases fr with z | ⟨q, hq, hql, z⟩
      · rw [hi] at z; cases z
      · refine List.mem_iff_getElem?.mpr ⟨q, ?_⟩
        rw [List.getElem?_set_ne (Ne.symm hq), z, hi]
    · refine List.mem_iff_getElem?.mpr ⟨i, ?_⟩
      rw [List.getElem?_set_ne (Ne.symm e), hi]
  fi := fun a ha => by
    rcases List.mem_or_eq_of_mem_set ha with z | z
    · exact c.fi a z
    · exact c.fi a (z ▸ hx)
theorem wr_lt {f g : Row α} {p : Nat} (hp : p < f.length) (l : f.length = g.length) (hw : wrong f g p = true) {x : Option α} (hx : g[p]? = some x) : wr (f.set p x) g < wr f g := by
  have mp : p ∈ (List.range g.length).filter (wrong f g) := List.mem_filter.mpr ⟨List.mem_range.mpr (by omega), hw⟩
  have h1 := php ((List.range g.length).filter (wrong (f.set p x) g)) (((List.range g.length).filter (wrong f g)).erase p)
    (List.Nodup.sublist List.filter_sublist List.nodup_range) (fun i hi => by
      obtain ⟨hi1, hi2⟩ := List.mem_filter.mp hi
      have hne : i ≠ p := by
        rintro rfl
        have := of_decide_eq_true hi2
        rw [List.getElem?_set_self hp, hx] at this
        exact this.2 rfl
      refine (List.mem_erase_of_ne hne).mpr (List.mem_filter.mpr ⟨hi1, ?_⟩)
      unfold wrong at hi2 ⊢
      rw [List.getElem?_set_ne (Ne.symm hne)] at hi2
      exact hi2)
  have h2 := List.length_erase_of_mem mp
  have h3 := List.length_pos_of_mem mp
  unfold wr
  omega
theorem wr_le {f g : Row α} {q : Nat} (hq : g[q]? = some none) {x : Option α} : wr (f.set q x) g ≤ wr f g := by
  refine php _ _ (List.Nodup.sublist List.filter_sublist List.nodup_range) fun i hi => ?_
  obtain ⟨hi1, hi2⟩ := List.mem_filter.mp hi
  have hne : i ≠ q := by
    rintro rfl
    have := of_decide_eq_true hi2
    exact this.1 hq
  refine List.mem_filter.mpr ⟨hi1, ?_⟩
  unfold wrong at hi2 ⊢
  rw [List.getElem?_set_ne (Ne.symm hne)] at hi2
  exact hi2
theorem spare {f g : Row α} (c : Cd f g) (h : ∀ i, wrong f g i = true → i < f.length → ¬ Free f i) : ∃ q, g[q]? = some none ∧ q < f.length ∧ Free f q := by
  apply Classical.byContradiction
  intro no
  have nf : ∀ i, i < f.length → ¬ Free f i := by
    intro i hi fr
    have hg : i < g.length := by rw [← c.len]; exact hi
    by_cases hw : wrong f g i = true
    · exact h i hw hi fr
    · cases hgi : g[i]? with
      | none => exact absurd (List.getElem?_eq_none_iff.mp hgi) (by omega)
      | some y =>
        cases y with
        | none => exact no ⟨i, hgi, hi, fr⟩
        | some a =>
          have e : f[i]? = g[i]? := Classical.byContradiction fun z => hw (decide_eq_true ⟨by rw [hgi]; simp, z⟩)
          rcases fr with z | ⟨j, hj, hjl, z⟩
          · rw [e, hgi] at z; simp at z
          · have frj : Free f j := .inr ⟨i, Ne.symm hj, hi, z.symm⟩
            by_cases hwj : wrong f g j = true
            · exact h j hwj hjl frj
            · have hgl : j < g.length := by rw [← c.len]; exact hjl
              cases hgj : g[j]? with
              | none => exact absurd (List.getElem?_eq_none_iff.mp hgj) (by omega)
              | some y =>
                cases y with
                | none => exact no ⟨j, hgj, hjl, frj⟩
                | some a' =>
                  have e' : f[j]? = g[j]? := Classical.byContradiction fun z => hwj (decide_eq_true ⟨by rw [hgj]; simp, z⟩)
                  have : g[j]? = some (some a) := by rw [← e', z, e, hgi]
                  exact hj (c.gd j i a this hgi)
  have nd : f.Nodup := by
    refine List.pairwise_iff_getElem.mpr fun i j hi hjl hij e => ?_
    exact nf j hjl (.inr ⟨i, by omega, by omega, by rw [List.getElem?_eq_getElem hi, List.getElem?_eq_getElem hjl, e]⟩)
  have l1 := php f (g.erase none) nd fun x hx => by
    cases x with
    | none =>
      obtain ⟨i, hi⟩ := List.mem_iff_getElem?.mp hx
      exact absurd (.inl hi) (nf i (lt_of_get hi))
    | some a => exact (List.mem_erase_of_ne (by simp)).mpr (c.fi a hx)
  have l2 := List.length_erase_of_mem c.gn
  have l3 := List.length_pos_of_mem c.gn
  have := c.len
  omega
theorem settle : ∀ (w : Nat) (f g : Row α), Cd f g → wr f g ≤ w → ∃ (m : Nat) (f' : Row α), m ≤ 2 * w ∧ Wr f m f' ∧ Cd f' g ∧ ∀ i, wrong f' g i = true → ¬ i < g.length
  | w, f, g, c, hw => by
    by_cases h0 : ∃ i, wrong f g i = true ∧ i < f.length
    · obtain ⟨i, hi, hil⟩ := h0
      have hpos : 0 < wr f g := List.length_pos_of_mem (List.mem_filter.mpr ⟨List.mem_range.mpr (by rw [← c.len]; exact hil), hi⟩)
      cases w with
      | zero => omega
      | succ w =>
        -- a wrong free seat is written
        have fix : ∀ (f : Row α), Cd f g → wr f g ≤ w + 1 → (∃ p, wrong f g p = true ∧ p < f.length ∧ Free f p) → ∃ f1, Wr f 1 f1 ∧ Cd f1 g ∧ wr f1 g ≤ w := by
          intro f c hw ⟨p, hp, hpl, fr⟩
          have hg : p < g.length := by rw [← c.len]; exact hpl
          obtain ⟨x, hx⟩ : ∃ x, g[p]? = some x := ⟨_, List.getElem?_eq_getElem hg⟩
          have xf : x ∈ f := by
            cases x with
            | none => exact absurd hx (of_decide_eq_true hp).1
            | some a => exact c.pr a (List.mem_of_getElem? hx)
          have := wr_lt hpl c.len hp hx
          exact ⟨f.set p x, .succ .zero hpl xf, c.set hpl xf fr, by omega⟩
        by_cases hA : ∃ p, wrong f g p = true ∧ p < f.length ∧ Free f p
        · obtain ⟨f1, w1, c1, l1⟩ := fix f c hw hA
          obtain ⟨m, f2, hm, w2, c2, h2⟩ := settle w f1 g c1 l1
          exact ⟨1 + m, f2, by omega, w1.trans w2, c2, h2⟩
        · obtain ⟨q, hq, hql, frq⟩ := spare c fun j hj hjl frj => hA ⟨j, hj, hjl, frj⟩
          obtain ⟨x, hx⟩ : ∃ x, f[i]? = some x := ⟨_, List.getElem?_eq_getElem hil⟩
          have xf : x ∈ f := List.mem_of_getElem? hx
          have c0 := c.set hql xf frq
          have hiq : i ≠ q := by
            rintro rfl
            exact (of_decide_eq_true hi).1 hq
          have hi' : (f.set q x)[i]? = f[i]? := List.getElem?_set_ne (Ne.symm hiq)
          obtain ⟨f1, w1, c1, l1⟩ := fix (f.set q x) c0 (Nat.le_trans (wr_le hq) hw) ⟨i, by unfold wrong at hi ⊢; rw [hi']; exact hi, by rw [List.length_set]; exact hil, .inr ⟨q, Ne.symm hiq, by rw [List.length_set]; exact hql, by rw [hi', hx, List.getElem?_set_self hql]⟩⟩
          obtain ⟨m, f2, hm, w2, c2, h2⟩ := settle w f1 g c1 l1
          exact ⟨1 + (1 + m), f2, by omega, (Wr.succ .zero hql xf).trans (w1.trans w2), c2, h2⟩
    · exact ⟨0, f, by omega, .zero, c, fun i hi hl => h0 ⟨i, hi, by rw [c.len]; exact hl⟩⟩
termination_by w => w
theorem wr_bound (f g : Row α) : wr f g ≤ g.length := by
  unfold wr
  exact Nat.le_trans (List.length_filter_le _ _) (by simp)

/-! fits, seat by seat -/
def Fits (g h : Hold α) : Prop := ∀ i, i < g.flatten.length → g.flatten[i]? ≠ some none → h.flatten[i]? = g.flatten[i]?
theorem loose {s g : Hold α} (c : Cd s.flatten g.flatten) : ∃ (k : Nat) (u : Hold α), k ≤ 2 * g.flatten.length * g.flatten.length ∧ Reach s k u ∧ Fits g u := by
  obtain ⟨m, f', hm, w, c', h⟩ := settle g.flatten.length s.flatten g.flatten c (wr_bound _ _)
  obtain ⟨k, u, hk, r, e, _⟩ := w.reach
  refine ⟨k, u, ?_, r, fun i hi hn => ?_⟩
  · refine Nat.le_trans hk ?_
    rw [c.len]
    exact Nat.mul_le_mul_right _ hm
  · rw [e]
    exact Classical.byContradiction fun z => h i (decide_eq_true ⟨hn, z⟩) hi
end KM
namespace KM
variable {α : Type} [DecidableEq α]
/-! the full case -/
theorem perm_of : ∀ (l m : Row α), l.Nodup → (∀ x ∈ l, x ∈ m) → m.length ≤ l.length → m.Perm l
  | [], m, _, _, h => by
    have : m = [] := List.eq_nil_of_length_eq_zero (by simpa using h)
    rw [this]
  | x :: l, m, hn, hs, h => by
    have hx : x ∈ m := hs x List.mem_cons_self
    have hn' := List.nodup_cons.mp hn
    have h2 := List.length_erase_of_mem hx
    have h3 := List.length_pos_of_mem hx
    simp only [List.length_cons] at h
    have p := perm_of l (m.erase x) hn'.2 (fun y hy => (List.mem_erase_of_ne (fun (e : y = x) => hn'.1 (by rw [← e]; exact hy))).mpr (hs y (List.mem_cons_of_mem _ hy))) (by omega)
    exact (List.perm_cons_erase hx).trans (p.cons x)
def Rot (r q : Row α) : Prop := ∃ A B, r = A ++ B ∧ q = B ++ A
theorem Rot.refl (r : Row α) : Rot r r := ⟨[], r, rfl, by simp⟩
theorem Rot.turn {r C : Row α} {y : Option α} (h : Rot r (C ++ [y])) : Rot r (y :: C) := by
  obtain ⟨A, B, rfl, e⟩ := h
  rcases List.eq_nil_or_concat A with rfl | ⟨A', z, rfl⟩
  · simp only [List.append_nil] at e
    exact ⟨C, [y], by rw [← e]; rfl, rfl⟩
  · rw [List.concat_eq_append, ← List.append_assoc] at e
    obtain ⟨e1, e2⟩ := List.append_inj' e rfl
    injection e2 with e2
    subst e2; subst e1
    exact ⟨A', y :: B, by simp, by simp⟩
theorem put_perm : ∀ {h : Hold α} {b : Nat} {C : Row α} {y x : Option α}, h[b]? = some (C ++ [y]) → (y :: (put h b x).flatten).Perm (x :: h.flatten) := by
  intro h b C y x e
  rw [put_snoc e]
  induction h generalizing b with
  | nil => simp at e
  | cons r h ih =>
    cases b with
    | zero =>
      simp at e
      subst e
      simp only [List.set_cons_zero, List.flatten_cons]
      have e2 : C ++ [y] ++ h.flatten = C ++ y :: h.flatten := by simp
      rw [e2]
      exact (List.Perm.swap x y (C ++ h.flatten)).trans ((List.perm_middle.symm).cons x)
    | succ b =>
      simp at e
      simp only [List.set_cons_succ, List.flatten_cons]
      have p := ih e
      have q1 : (y :: (r ++ (h.set b (x :: C)).flatten)).Perm (r ++ y :: (h.set b (x :: C)).flatten) := List.perm_middle.symm
      have q2 : (x :: (r ++ h.flatten)).Perm (r ++ x :: h.flatten) := List.perm_middle.symm
      exact (q1.trans (List.Perm.append_left r p)).trans q2.symm
/-- all seats hold the names N, each once: only turnings keep them -/
theorem turned {N : Row α} {s : Hold α} (hN : N.Nodup) (hs : s.flatten.length = N.length) (pos : Pos (s.map List.length)) : ∀ {n : Nat} {u : Hold α}, Reach s n u → (∀ x ∈ N, x ∈ u.flatten) →
    u.length = s.length ∧ ∀ (b : Nat) (r q : Row α), s[b]? = some r → u[b]? = some q → Rot r q := by
  intro n
  induction n with
  | zero =>
    intro u r _
    cases r
    exact ⟨rfl, fun b r q e1 e2 => by rw [e1] at e2; cases e2; exact Rot.refl r⟩
  | succ n ih =>
    intro u r hu
    cases r with
    | succ rt hm =>
      rename_i t
      have fl : ∀ {k : Nat} {v : Hold α}, Reach s k v → v.map List.length = s.map List.length := fun r => (Reach.of (I := s.flatten) ⟨rfl, fun _ h => h⟩ pos r).1
      have flen : ∀ {k : Nat} {v : Hold α}, Reach s k v → v.flatten.length = N.length := fun r => by
        rw [List.length_flatten, fl r, ← List.length_flatten, hs]
      obtain ⟨x, hx, b, hb, rfl⟩ := mem_nb.mp hm
      have ht : ∀ y ∈ N, y ∈ t.flatten := fun y hy => put_items hx (hu y hy)
      obtain ⟨hl, hr⟩ := ih rt ht
      have p1 := perm_of N t.flatten hN ht (by rw [flen rt]; exact Nat.le_refl _)
      have p2 := perm_of N _ hN hu (by rw [flen (.succ rt hm)]; exact Nat.le_refl _)
      obtain ⟨row, hrow⟩ : ∃ row, t[b]? = some row := ⟨_, List.getElem?_eq_getElem hb⟩
      have rpos : 0 < row.length := by
        have : row.length ∈ t.map List.length := List.mem_map.mpr ⟨row, List.mem_of_getElem? hrow, rfl⟩
        rw [fl rt] at this
        exact pos _ this
      rcases List.eq_nil_or_concat row with rfl | ⟨C, y, rfl⟩
      · simp at rpos
      · rw [List.concat_eq_append] at hrow
        have p3 := put_perm (x := x) hrow
        have p4 : (y :: N).Perm (x :: N) := (p2.symm.cons y).trans (p3.trans (p1.cons x))
        have exy : y = x := by
          have := p4.count_eq y
          rw [List.count_cons_self, List.count_cons] at this
          by_cases e : x = y
          · exact e.symm
          · rw [if_neg (by simpa using e)] at this
            omega
        subst exy
        rw [put_snoc hrow]
        refine ⟨by rw [List.length_set]; exact hl, fun c r q e1 e2 => ?_⟩
        by_cases hc : c = b
        · subst hc
          rw [get_set hrow] at e2
          cases e2
          exact Rot.turn (hr c r _ e1 hrow)
        · rw [List.getElem?_set_ne (Ne.symm hc)] at e2
          exact hr c r q e1 e2
/-- all belts alike: some turns lead there -/
theorem alike_reach : ∀ (pre s g : Hold α), s.length = g.length → (∀ (b : Nat) r q, s[b]? = some r → g[b]? = some q → Rot r q) → ∃ k, k ≤ s.flatten.length ∧ Reach (pre ++ s) k (pre ++ g)
  | pre, [], g, hl, _ => by
    have : g = [] := List.eq_nil_of_length_eq_zero (by simpa using hl.symm)
    subst this
    exact ⟨0, Nat.le_refl _, .zero⟩
  | pre, r :: s, [], hl, _ => by simp at hl
  | pre, r :: s, q :: g, hl, h => by
    obtain ⟨A, B, rfl, rfl⟩ := h 0 r q rfl rfl
    have e : (pre ++ (A ++ B) :: s)[pre.length]? = some (A ++ B) := by simp
    have t := turn B.length B A _ pre.length rfl e
    have e2 : (pre ++ (A ++ B) :: s).set pre.length (B ++ A) = (pre ++ [B ++ A]) ++ s := by simp
    rw [e2] at t
    obtain ⟨k, hk, r2⟩ := alike_reach (pre ++ [B ++ A]) s g (by simpa using hl) fun b r q e1 e2 => h (b + 1) r q (by simpa using e1) (by simpa using e2)
    have t3 := t.trans r2
    refine ⟨B.length + k, ?_, by simpa using t3⟩
    simp only [List.flatten_cons, List.length_append]; omega
theorem least_of {F : Hold α → Prop} {s : Hold α} : ∀ {n : Nat} {u : Hold α}, Reach s n u → F u → ∃ k, k ≤ n ∧ Least F s k := by
  intro n
  induction n using Nat.strongRecOn with
  | ind n ih =>
    intro u r f
    by_cases h : ∃ m, m < n ∧ ∃ v, Reach s m v ∧ F v
    · obtain ⟨m, hm, v, rv, fv⟩ := h
      obtain ⟨k, hk, l⟩ := ih m hm rv fv
      exact ⟨k, by omega, l⟩
    · exact ⟨n, Nat.le_refl _, ⟨u, r, f⟩, fun m hm v rv fv => h ⟨m, hm, v, rv, fv⟩⟩

/-- what is given: two holdings of one shape; the first has just the names of the second; the second no name twice -/
structure Given (s g : Hold α) : Prop where
  sh : s.map List.length = g.map List.length
  pos : Pos (g.map List.length)
  gd : ∀ (i j : Nat) (a : α), g.flatten[i]? = some (some a) → g.flatten[j]? = some (some a) → i = j
  pr : ∀ a, some a ∈ g.flatten → some a ∈ s.flatten
  fi : ∀ a, some a ∈ s.flatten → some a ∈ g.flatten
theorem flat_len {s g : Hold α} (h : s.map List.length = g.map List.length) : s.flatten.length = g.flatten.length := by
  rw [List.length_flatten, List.length_flatten, h]
theorem len_of {s g : Hold α} (h : s.map List.length = g.map List.length) : s.length = g.length := by
  have := congrArg List.length h
  simpa using this
theorem flat_inj : ∀ {s g : Hold α}, s.map List.length = g.map List.length → s.flatten = g.flatten → s = g
  | [], [], _, _ => rfl
  | [], _ :: _, h, _ => by simp at h
  | _ :: _, [], h, _ => by simp at h
  | r :: s, q :: g, h, e => by
    simp only [List.map_cons, List.cons.injEq] at h
    simp only [List.flatten_cons] at e
    obtain ⟨e1, e2⟩ := List.append_inj e h.1
    rw [e1, flat_inj h.2 e2]
def Alike (s g : Hold α) : Prop := ∀ (b : Nat) r q, s[b]? = some r → g[b]? = some q → Rot r q
/-- THE LAW's mathematics: where a seat is spare some carries lead there; else just if all belts are alike; few are enough -/
theorem Given.main {s g : Hold α} (G : Given s g) : (none ∈ g.flatten ∨ Alike s g → ∃ k, k ≤ 2 * g.flatten.length * g.flatten.length + g.flatten.length ∧ Least (Fits g) s k) ∧ (¬ (none ∈ g.flatten ∨ Alike s g) → Never (Fits g) s) := by
  have fl := flat_len G.sh
  constructor
  · rintro (h | h)
    · obtain ⟨k, u, hk, r, f⟩ := loose (s := s) (g := g) ⟨fl, h, G.gd, G.pr, G.fi⟩
      obtain ⟨k', h1, h2⟩ := least_of r f
      exact ⟨k', by omega, h2⟩
    · obtain ⟨k, hk, r⟩ := alike_reach [] s g (len_of G.sh) h
      obtain ⟨k', h1, h2⟩ := least_of (F := Fits g) r (fun _ _ _ => rfl)
      exact ⟨k', by omega, h2⟩
  · intro hno n u r f
    have hn : none ∉ g.flatten := fun h => hno (.inl h)
    have hN : g.flatten.Nodup := by
      refine List.pairwise_iff_getElem.mpr fun i j hi hj hij e => ?_
      cases ha : g.flatten[i] with
      | none => exact hn (ha ▸ List.getElem_mem hi)
      | some a =>
        have := G.gd i j a (by rw [List.getElem?_eq_getElem hi, ha]) (by rw [List.getElem?_eq_getElem hj, ← e, ha])
        omega
    have ps : Pos (s.map List.length) := by rw [G.sh]; exact G.pos
    have us : u.map List.length = s.map List.length := (Reach.of (I := s.flatten) ⟨rfl, fun _ h => h⟩ ps r).1
    have ug : u = g := by
      refine flat_inj (us.trans G.sh) (List.ext_getElem? fun i => ?_)
      rcases Nat.lt_or_ge i g.flatten.length with z | z
      · refine f i z ?_
        rw [List.getElem?_eq_getElem z]
        intro e
        injection e with e
        exact hn (e ▸ List.getElem_mem z)
      · rw [List.getElem?_eq_none_iff.mpr z, List.getElem?_eq_none_iff.mpr (by rw [flat_len (us.trans G.sh)]; exact z)]
    subst ug
    obtain ⟨_, t⟩ := turned hN fl ps r (fun x hx => hx)
    exact hno (.inr t)
/-- a search that gives the least number, or tells that there is none -/
theorem Given.none_iff {s g : Hold α} (G : Given s g) : ∀ {r : Option Nat}, Ans (Fits g) s r → (r = none ↔ ¬ (none ∈ g.flatten ∨ Alike s g))
  | none, a => ⟨fun _ h => by
      obtain ⟨k, _, l⟩ := G.main.1 h
      exact l.not_never a, fun _ => rfl⟩
  | some n, a => ⟨(fun e => nomatch e), fun h => absurd (G.main.2 h) (Least.not_never a)⟩
/-- a search that gave up after 2000 steps, below 30 seats -/
theorem Given.ans {s g : Hold α} (G : Given s g) (hl : g.flatten.length ≤ 30) (h : ∀ j, j < 2000 → ∀ u, Reach s j u → ¬ Fits g u) : Ans (Fits g) s none := by
  apply Classical.byContradiction
  intro hn
  have : none ∈ g.flatten ∨ Alike s g := Classical.byContradiction fun z => hn (G.main.2 z)
  obtain ⟨k, hk, l⟩ := G.main.1 this
  have h1 : 2 * g.flatten.length * g.flatten.length ≤ 2 * 30 * 30 := Nat.mul_le_mul (Nat.mul_le_mul_left 2 hl) hl
  obtain ⟨⟨u, ru, fu⟩, _⟩ := l
  exact h k (by omega) u ru fu

/-! fits, as the loops say it -/
theorem fits_rows : ∀ {g u : Hold α}, u.map List.length = g.map List.length → (Fits g u ↔ ∀ (b : Nat) (r q : Row α), u[b]? = some r → g[b]? = some q → ∀ (i : Nat) (x y : Option α), r[i]? = some x → q[i]? = some y → y = none ∨ y = x)
  | [], [], _ => ⟨(fun _ b r q e => by simp at e), (fun _ i h => by simp at h)⟩
  | [], _ :: _, h => by simp at h
  | _ :: _, [], h => by simp at h
  | q :: g, r :: u, h => by
    simp only [List.map_cons, List.cons.injEq] at h
    have ih := fits_rows h.2
    constructor
    · intro f
      have f2 : Fits g u := fun i hi hn => by
        have := f (q.length + i) (by simp only [List.flatten_cons, List.length_append]; omega) (by
          simp only [List.flatten_cons]
          rw [List.getElem?_append_right (by omega), Nat.add_sub_cancel_left]; exact hn)
        simp only [List.flatten_cons] at this
        rw [List.getElem?_append_right (by omega), List.getElem?_append_right (by omega), Nat.add_sub_cancel_left, h.1, Nat.add_sub_cancel_left] at this
        exact this
      intro b r' q' e1 e2
      cases b with
      | zero =>
        simp at e1 e2
        subst e1; subst e2
        intro i x y hx hy
        cases y with
        | none => exact .inl rfl
        | some a =>
          have hi := lt_of_get hy
          have hi' := lt_of_get hx
          have := f i (by simp only [List.flatten_cons, List.length_append]; omega) (by
            simp only [List.flatten_cons]
            rw [List.getElem?_append_left hi, hy]; simp)
          simp only [List.flatten_cons] at this
          rw [List.getElem?_append_left hi, List.getElem?_append_left hi', hx, hy] at this
          injection this with this
          exact .inr this.symm
      | succ b =>
        simp at e1 e2
        exact ih.mp f2 b r' q' e1 e2
    · intro hh i hi hn
      simp only [List.flatten_cons] at hi hn ⊢
      have f2 : Fits g u := ih.mpr fun b r' q' e1 e2 => hh (b + 1) r' q' (by simpa using e1) (by simpa using e2)
      rcases Nat.lt_or_ge i q.length with z | z
      · rw [List.getElem?_append_left z] at hn ⊢
        rw [List.getElem?_append_left (by omega)]
        have z' : i < r.length := by omega
        have := hh 0 r q rfl rfl i r[i] q[i] (List.getElem?_eq_getElem z') (List.getElem?_eq_getElem z)
        rw [List.getElem?_eq_getElem z, List.getElem?_eq_getElem z']
        rcases this with w | w
        · rw [List.getElem?_eq_getElem z, w] at hn; exact absurd rfl hn
        · rw [w]
      · rw [List.getElem?_append_right z] at hn ⊢
        rw [List.getElem?_append_right (by omega), h.1]
        simp only [List.length_append] at hi
        exact f2 (i - q.length) (by omega) hn
/-- alike, as the law says it -/
theorem rot_iff {r q : Row α} (hr : 0 < r.length) : Rot r q ↔ ∃ k, k < r.length ∧ r.drop k ++ r.take k = q := by
  constructor
  · rintro ⟨A, B, rfl, rfl⟩
    cases B with
    | nil => exact ⟨0, hr, by simp⟩
    | cons y B => exact ⟨A.length, by simp, by simp⟩
  · rintro ⟨k, hk, rfl⟩
    exact ⟨r.take k, r.drop k, (List.take_append_drop k r).symm, rfl⟩
end KM

/-! ## KRule -/
set_option Elab.async false
set_option linter.all false
set_option maxRecDepth 100000
set_option maxHeartbeats 4000000
namespace FB
open PySem PySem.Spec PyProof.Rows L2 Evl

/-! ### holdings in the heap -/
abbrev Hd := List (List (Option Str))
def it : Option Str → V
  | none => .non
  | some x => .str x
theorem it_inj : ∀ {x y : Option Str}, it x = it y → x = y
  | none, none, _ => rfl
  | none, some _, h => by cases h
  | some _, none, h => by cases h
  | some x, some y, h => by injection h with h; rw [h]
def itk : Option Str → NestedKey
  | none => .none
  | some x => .text x
def rk (r : List (Option Str)) : NestedKey := .tup (r.map itk)
def hk (h : Hd) : NestedKey := .tup (h.map rk)
theorem itk_inj : ∀ {x y : Option Str}, itk x = itk y → x = y
  | none, none, _ => rfl
  | none, some _, h => by cases h
  | some _, none, h => by cases h
  | some x, some y, h => by injection h with h; rw [h]
theorem map_inj {α β : Type} {f : α → β} (hf : ∀ {x y}, f x = f y → x = y) : ∀ {l m : List α}, l.map f = m.map f → l = m
  | [], [], _ => rfl
  | [], _ :: _, h => by simp at h
  | _ :: _, [], h => by simp at h
  | x :: l, y :: m, h => by
    simp only [List.map_cons, List.cons.injEq] at h
    rw [hf h.1, map_inj hf h.2]
theorem rk_inj {x y : List (Option Str)} (h : rk x = rk y) : x = y := by
  injection h with h
  exact map_inj itk_inj h
theorem hk_inj {x y : Hd} (h : hk x = hk y) : x = y := by
  injection h with h
  exact map_inj rk_inj h
def IsRow (H : Hp) (v : V) (r : List (Option Str)) : Prop := ∃ a, v = .ref a ∧ H a = some (.tup (r.map it))
def IsH (H : Hp) (v : V) (h : Hd) : Prop := ∃ a vs, v = .ref a ∧ H a = some (.tup vs) ∧ Paired (IsRow H) vs h
/-- tuples stay -/
def Tle (H H' : Hp) : Prop := ∀ a xs, H a = some (.tup xs) → H' a = some (.tup xs)
theorem Tle.refl (H : Hp) : Tle H H := fun _ _ h => h
theorem Tle.trans {H H1 H2 : Hp} (a : Tle H H1) (b : Tle H1 H2) : Tle H H2 := fun x xs h => b x xs (a x xs h)
theorem Tle.of {H H' : Hp} (e : Ex H H') : Tle H H' := fun a xs h => e a _ h
theorem Tle.put {H : Hp} {p : Addr} {o u : HO} (h : H p = some u) (hu : ∀ xs, u ≠ .tup xs) : Tle H (upd H p o) := fun a xs e => by
  rw [upd_ne (ne_of e h (fun z => hu xs z.symm))]; exact e
theorem Tle.new {H : Hp} {p : Addr} {o : HO} (h : H p = none) : Tle H (upd H p o) := Tle.of (Ex.new h)
theorem IsRow.tle {H H' : Hp} {v : V} {r : List (Option Str)} (e : Tle H H') : IsRow H v r → IsRow H' v r := fun ⟨a, h1, h2⟩ => ⟨a, h1, e _ _ h2⟩
theorem IsH.tle {H H' : Hp} {v : V} {h : Hd} (e : Tle H H') : IsH H v h → IsH H' v h := fun ⟨a, vs, h1, h2, p⟩ => ⟨a, vs, h1, e _ _ h2, L2.Paired.mapP p fun _ _ q => q.tle e⟩

section
variable {P : Program} {w : World} {H : Hp} {h : Heap}
theorem items_key : ∀ {r : List (Option Str)} {us : List Value}, Vals (r.map it) us → NestedAll h (r.map itk) us
  | [], _, p => by cases p; exact .nil
  | none :: r, _, p => by
    cases p with
    | cons a b => cases a; exact .cons .none (items_key b)
  | some x :: r, _, p => by
    cases p with
    | cons a b => obtain ⟨t, rfl⟩ := (show ∃ t, _ = Value.str x t from a); exact .cons (.text x t) (items_key b)
theorem row_key {v : V} {u : Value} {r : List (Option Str)} (ok : HOk P w H h) (i : IsRow H v r) (rv : RelV v u) : NestedIs h (rk r) u := by
  obtain ⟨a, rfl, e⟩ := i
  cases (show u = Value.ref a from rv)
  obtain ⟨_, its, p, o, h1, h2, n, h3⟩ := (show ObjOk P w H h a (.tup (r.map it)) from ok a _ e)
  exact .tup h1 h2 h3 (by simpa using items_key p)
theorem rows_key : ∀ {hh : Hd} {vs : List V} {us : List Value}, HOk P w H h → Paired (IsRow H) vs hh → Vals vs us → NestedAll h (hh.map rk) us
  | [], _, _, _, p, q => by cases p; cases q; exact .nil
  | r :: hh, _, _, ok, p, q => by
    cases p with
    | cons a b =>
      cases q with
      | cons c d => exact .cons (row_key ok a c) (rows_key ok b d)
theorem depth_row : ∀ r : List (Option Str), NestedKey.depthAll (r.map itk) = 0
  | [] => rfl
  | none :: r => by simp [NestedKey.depthAll, itk, NestedKey.depth, depth_row r]
  | some x :: r => by simp [NestedKey.depthAll, itk, NestedKey.depth, depth_row r]
theorem depth_rows : ∀ h : Hd, NestedKey.depthAll (h.map rk) ≤ 1
  | [] => by simp [NestedKey.depthAll]
  | r :: h => by
    have := depth_rows h
    simp only [List.map_cons, NestedKey.depthAll, rk, NestedKey.depth, depth_row]
    omega
theorem hold_key {a : Addr} {hh : Hd} (ok : HOk P w H h) (i : IsH H (.ref a) hh) : (nestedKind P w).is h (hk hh) a := by
  obtain ⟨b, vs, e0, e, p⟩ := i
  cases e0
  obtain ⟨_, its, q, o, h1, h2, n, h3⟩ := (show ObjOk P w H h a (.tup vs) from ok a _ e)
  refine ⟨.tup h1 h2 h3 (by simpa using rows_key ok p q), ?_⟩
  show NestedKey.depthAll (hh.map rk) + 1 ≤ 8
  have := depth_rows hh
  omega
end

/-! ### a dict whose keys are holdings -/
abbrev Ent := Hd × Addr × V
def ET (p : Ent) (q : NestedKey × Addr × Value) : Prop := hk p.1 = q.1 ∧ p.2.1 = q.2.1 ∧ RelV p.2.2 q.2.2
def DNφ (P : Program) (w : World) (d : Addr) (xs : List Ent) (h : Heap) : Prop :=
  (d == sysModules) = false ∧ xs.length ≤ sizeLine ∧ (xs.map (·.1)).Nodup ∧
  ∃ us o es ep, Paired ET xs us ∧ h.get? d = some o ∧ o.ExactDict ∧ o.data = .dict es ep ∧ es.toList = us.map (entryOfKey (nestedKind P w))
def dN (P : Program) (w : World) (d : Addr) (xs : List Ent) : HO := .ext (DNφ P w d xs)
theorem DNφ.stays {P : Program} {w : World} {d : Addr} {xs : List Ent} : ∀ h1 h2 : Heap, DNφ P w d xs h1 → (∀ o, h1.get? d = some o → h2.get? d = some o) → DNφ P w d xs h2 :=
  fun _ _ ⟨a, b, c, us, o, es, ep, p, e, r⟩ k => ⟨a, b, c, us, o, es, ep, p, k o e, r⟩
theorem dN_ok {P : Program} {w : World} {H : Hp} {h : Heap} {d : Addr} {xs : List Ent} (f : DNφ P w d xs h) : ObjOk P w H h d (dN P w d xs) := by
  refine ⟨f, ?_, DNφ.stays⟩
  obtain ⟨_, _, _, _, o, _, _, _, e, _⟩ := f
  exact ⟨o, e⟩
/-- at d stands such a dict; its keys stand where it says -/
def DN (P : Program) (w : World) (H : Hp) (d : Addr) (xs : List Ent) : Prop := H d = some (dN P w d xs) ∧ ∀ e ∈ xs, IsH H (.ref e.2.1) e.1
theorem ET.keys : ∀ {xs : List Ent} {us : List (NestedKey × Addr × Value)}, Paired ET xs us → us.map (·.1) = xs.map fun e => hk e.1
  | [], _, p => by cases p; rfl
  | _ :: _, _, p => by
    cases p with
    | cons a b => simp only [List.map_cons, ET.keys b, a.1]
theorem nodup_hk {xs : List Ent} (h : (xs.map (·.1)).Nodup) : (xs.map fun e => hk e.1).Nodup := by
  have e : (xs.map fun e => hk e.1) = (xs.map (·.1)).map hk := by simp
  rw [e]
  refine List.pairwise_map.mpr (List.Pairwise.imp ?_ h)
  intro a b hab z
  exact hab (hk_inj z)
def lookE (xs : List Ent) (k : Hd) : Option V := (xs.find? fun e => decide (e.1 = k)).map (·.2.2)
theorem ET.look {k : Hd} : ∀ {xs : List Ent} {us : List (NestedKey × Addr × Value)}, Paired ET xs us → RelO (lookE xs k) ((atKey us (hk k)).map (·.2))
  | [], _, p => by cases p; exact True.intro
  | x :: xs, _, p => by
    cases p with
    | @cons a b as bs q r =>
      by_cases e : x.1 = k
      · have e2 : b.1 = hk k := by rw [← q.1, e]
        simp only [lookE, atKey, List.find?_cons, e, e2, decide_true, Option.map_some]
        exact q.2.2
      · have e2 : ¬ b.1 = hk k := by rw [← q.1]; exact fun z => e (hk_inj z)
        have ih := ET.look (k := k) r
        simp only [lookE, atKey, List.find?_cons, decide_eq_false e, decide_eq_false e2] at ih ⊢
        exact ih
theorem lookE_none {xs : List Ent} {k : Hd} (h : lookE xs k = none) : k ∉ xs.map (·.1) := by
  intro hm
  obtain ⟨e, he, rfl⟩ := List.mem_map.mp hm
  unfold lookE at h
  rw [Option.map_eq_none_iff, List.find?_eq_none] at h
  exact h e he (by simp)
theorem lookE_some {xs : List Ent} {k : Hd} {v : V} (h : lookE xs k = some v) : k ∈ xs.map (·.1) := by
  unfold lookE at h
  obtain ⟨e, he, _⟩ := Option.map_eq_some_iff.mp h
  have h1 := List.mem_of_find?_eq_some he
  have h2 := List.find?_some he
  exact List.mem_map.mpr ⟨e, h1, by simpa using h2⟩
theorem lookE_isSome (xs : List Ent) (k : Hd) : (lookE xs k).isSome = decide (k ∈ xs.map (·.1)) := by
  cases h : lookE xs k with
  | none => exact (decide_eq_false (lookE_none h)).symm
  | some v => exact (decide_eq_true (lookE_some h)).symm
theorem lookE_mem : ∀ {xs : List Ent} {e : Ent}, (xs.map (·.1)).Nodup → e ∈ xs → lookE xs e.1 = some e.2.2
  | x :: xs, e, hn, hm => by
    have hn' := List.nodup_cons.mp (by simpa using hn : (x.1 :: xs.map (·.1)).Nodup)
    rcases List.mem_cons.mp hm with rfl | hm
    · simp [lookE]
    · have ne : x.1 ≠ e.1 := fun z => hn'.1 (by rw [z]; exact List.mem_map.mpr ⟨e, hm, rfl⟩)
      have ih := lookE_mem (e := e) hn'.2 hm
      simp only [lookE, List.find?_cons, decide_eq_false ne] at ih ⊢
      exact ih
section
variable {P : Program} {w : World} {H : Hp} {h : Heap} {d : Addr} {xs : List Ent}
theorem dN_rd (ok : HOk P w H h) (D : DN P w H d xs) : (d == sysModules) = false ∧ xs.length ≤ sizeLine ∧ (xs.map (·.1)).Nodup ∧ ∃ us, Paired ET xs us ∧ h.DictOfH (nestedKind P w) d us := by
  obtain ⟨⟨a, b, c, us, o, es, ep, p, e, r1, r2, r3⟩, _⟩ := (show ObjOk P w H h d (dN P w d xs) from ok d _ D.1)
  refine ⟨a, b, c, us, p, o, es, ep, e, r1, r2, r3, ?_, by rw [ET.keys p]; exact nodup_hk c⟩
  have all : ∀ {l : List Ent} {m : List (NestedKey × Addr × Value)}, (∀ e ∈ l, IsH H (.ref e.2.1) e.1) → Paired ET l m → ∀ x ∈ m, (nestedKind P w).is h x.1 x.2.1 := by
    intro l m hl q
    induction q with
    | nil => intro x hx; exact nomatch hx
    | @cons p q ps qs hq t ih =>
      intro x hx
      rcases List.mem_cons.mp hx with z | z
      · subst z
        rw [← hq.1, ← hq.2.1]
        exact hold_key ok (hl p List.mem_cons_self)
      · exact ih (fun e he => hl e (List.mem_cons_of_mem _ he)) x z
  exact all D.2 p
theorem room8 {A : Around} (hu : A.units + 64 < cLine) : (nestedKind P w).room A.in1 := by
  show A.in1.units + 8 < cLine
  have : A.in1.units ≤ A.units + 1 := by
    first
      | exact Nat.le_refl _
      | (unfold Around.in1; simp)
  omega
end
section
variable {X : Cx}
/-- k not in d -/
def rNotInN (P : Program) (w : World) : R2 := fun x y H Q => ∃ b d k xs, x = .ref b ∧ y = .ref d ∧ IsH H (.ref b) k ∧ DN P w H d xs ∧ Q (.bl (!decide (k ∈ xs.map (·.1)))) H
theorem op_notInN (hu : X.A.units + 64 < cLine) : OpR X (compareOp .NotIn) (rNotInN X.prog X.w) := by
  intro pins s σ H x y v u Q I rx ry h
  obtain ⟨b, d, k, xs, rfl, rfl, hb, D, q⟩ := h
  cases (show v = Value.ref b from rx)
  cases (show u = Value.ref d from ry)
  obtain ⟨hd, _, _, us, p, dd⟩ := dN_rd I.hok D
  refine wpAny_notIn_heap (room8 hu) (hold_key I.hok hb) hd dd ?_
  have e := (ET.look (k := k) p).isSome_eq
  rw [Option.isSome_map, lookE_isSome] at e
  rw [← e]
  exact ⟨.bl _, H, I.tok _, rfl, q⟩
/-- d[k] -/
def tGetN (P : Program) (w : World) (td ty : TE) : TE := fun σ H Q => td σ H fun x H1 => ty σ H1 fun y H2 => ∃ b d k xs v, x = .ref d ∧ y = .ref b ∧ IsH H2 (.ref b) k ∧ DN P w H2 d xs ∧ lookE xs k = some v ∧ Q v H2
theorem pe_getN {o i : Expr} {td ty : TE} {pos : Pos} (hu : X.A.units + 64 < cLine) (ho : PE X o td) (hi : PE X i ty) (hs : NoSl i) : PE X (.Subscript o i pos) (tGetN X.prog X.w td ty) := by
  refine ⟨fun pins s σ H Q I h => ?_⟩
  refine subD_of PySem.F.slot_dict_getitem.lookup hs (thn (ho.run pins s σ H _ I h) fun u s1 ⟨x, H1, I1, rx, q1⟩ => thn (hi.run pins s1 σ H1 _ I1 q1) fun iv s2 ⟨y, H2, I2, ry, b, d, k, xs, v, ex, ey, hb, D, hv, q2⟩ => ?_)
  subst ex; subst ey
  cases (show u = Value.ref d from rx)
  cases (show iv = Value.ref b from ry)
  obtain ⟨hd, _, _, us, p, dd⟩ := dN_rd I2.hok D
  obtain ⟨w', hw, rw'⟩ := RelO.some_of (v := v) (o := (atKey us (hk k)).map (·.2)) (by rw [← hv]; exact ET.look p)
  obtain ⟨p2, hp, hp2⟩ := Option.map_eq_some_iff.mp hw
  refine ⟨dd.typeIs, wpAny_getItem_heap (room8 hu) (hold_key I2.hok hb) dd hp ?_⟩
  rw [hp2]
  exact ⟨v, H2, I2.tok _, rw', q2⟩
/-- d[k] = v, k new -/
def rSetN (P : Program) (w : World) : TSet := fun o i v H Q => ∃ b d k xs, o = .ref d ∧ i = .ref b ∧ IsH H (.ref b) k ∧ DN P w H d xs ∧ k ∉ xs.map (·.1) ∧ xs.length < sizeLine ∧ Q (upd H d (dN P w d (xs ++ [(k, b, v)])))
theorem paired_snoc {α β : Type} {R : α → β → Prop} {a : α} {b : β} (h : R a b) : ∀ {l : List α} {m : List β}, Paired R l m → Paired R (l ++ [a]) (m ++ [b])
  | _, _, .nil => .cons h .nil
  | _, _, .cons x y => .cons x (paired_snoc h y)
theorem nodup_snoc {α : Type} {l : List α} {a : α} (h : l.Nodup) (ha : a ∉ l) : (l ++ [a]).Nodup := by
  refine List.nodup_append.mpr ⟨h, by simp, fun x hx y hy e => ?_⟩
  rw [List.mem_singleton.mp hy] at e
  exact ha (e ▸ hx)
theorem not_mem_look {xs : List Ent} {k : Hd} (h : k ∉ xs.map (·.1)) : lookE xs k = none := by
  cases e : lookE xs k with
  | none => rfl
  | some v => exact absurd (lookE_some e) h
theorem set_N (hu : X.A.units + 64 < cLine) : PSet X (rSetN X.prog X.w) := by
  intro pins s σ H o i v ov iv u Q I ro ri rv h
  obtain ⟨b, d, k, xs, rfl, rfl, hb, D, hk', hl, q⟩ := h
  cases (show ov = Value.ref d from ro)
  cases (show iv = Value.ref b from ri)
  obtain ⟨hd, hz, hn, us, p, dd⟩ := dN_rd I.hok D
  have hz2 : us.length ≤ sizeLine := by rw [← Paired.length p]; exact hz
  refine wpAny_setItem_heap (hsz := hz2) (room8 hu) (hold_key I.hok hb) dd fun h' dd' hs => ?_
  obtain ⟨ob, es, ep, hq, h2, h3, h4, _, h5⟩ := dd'
  have hnone : atKey us (hk k) = none := by
    have e := (ET.look (k := k) p).isSome_eq
    rw [not_mem_look hk', Option.isSome_map] at e
    cases z : atKey us (hk k) with
    | none => rfl
    | some y => rw [z] at e; cases e
  rw [storedH_new hnone] at h4
  refine ⟨_, d_write I (by rw [D.1]; exact True.intro) hs ⟨ob, hq⟩ (dN_ok ⟨hd, by rw [List.length_append]; simp; omega, ?_, _, ob, es, ep, paired_snoc ⟨rfl, rfl, rv⟩ p, hq, h2, h3, h4⟩), q⟩
  rw [List.map_append]
  exact nodup_snoc hn hk'
theorem DN.snoc {P : Program} {w : World} {H : Hp} {d b : Addr} {xs : List Ent} {k : Hd} {v : V} (D : DN P w H d xs) (hb : IsH H (.ref b) k) : DN P w (upd H d (dN P w d (xs ++ [(k, b, v)]))) d (xs ++ [(k, b, v)]) := by
  have t : Tle H (upd H d (dN P w d (xs ++ [(k, b, v)]))) := Tle.put D.1 fun _ z => by cases z
  refine ⟨upd_same, fun e he => ?_⟩
  rcases List.mem_append.mp he with z | z
  · exact (D.2 e z).tle t
  · rw [List.mem_singleton.mp z]; exact hb.tle t
/-- {k: v} -/
def tDispN (P : Program) (w : World) (tk tv : TE) : TE := fun σ H Q => ∀ p, H p = none → tk σ (upd H p (dN P w p [])) fun x H1 => tv σ H1 fun y H2 => H2 p = some (dN P w p []) ∧ ∃ b k, x = .ref b ∧ IsH H2 (.ref b) k ∧ Q (.ref p) (upd H2 p (dN P w p [(k, b, y)]))
theorem dN_empty {P : Program} {w : World} {H : Hp} (h : Heap) (hb : sysModules < h.objs.size) : ObjOk P w H (h.push { cls := .type "dict", data := .dict #[] }) h.objs.size (dN P w h.objs.size []) :=
  dN_ok ⟨beq_eq_false_iff_ne.mpr (Ne.symm (Nat.ne_of_lt hb)), Nat.zero_le _, List.nodup_nil, [], _, #[], 0, .nil, Heap.get?_push_size _ rfl, ⟨rfl, rfl, rfl⟩, rfl, rfl⟩
theorem pe_dispN {k v : Expr} {tk tv : TE} {pos : Pos} (hu : X.A.units + 64 < cLine) (hk : PE X k tk) (hv : PE X v tv) : PE X (.Dict [some k] [v] pos) (tDispN X.prog X.w tk tv) := by
  refine ⟨fun pins s σ H Q I q => ?_⟩
  have hn := I.hok.fresh (Nat.le_refl s.heap.objs.size)
  have I1 := I.laid (a := s.heap.objs.size) (o := dN X.prog X.w s.heap.objs.size []) (h' := s.heap.push { cls := .type "dict", data := .dict #[] }) (t' := s.toks) (fun _ _ q => Heap.get?_push_of_some _ q) (Nat.le_refl _) (dN_empty s.heap I.big)
  have h := (pps_cons (pos := pos) hk hv pps_nil).run pins _ σ _ (fun ps H2 => match ps with | [(x, y)] => H2 s.heap.objs.size = some (dN X.prog X.w s.heap.objs.size []) ∧ ∃ b k, x = .ref b ∧ IsH H2 (.ref b) k ∧ Q (.ref s.heap.objs.size) (upd H2 s.heap.objs.size (dN X.prog X.w s.heap.objs.size [(k, b, y)])) | _ => False) I1 ?_
  · rw [arm_eval_Dict, zip_pairTrees [some k] [v] X.env pos rfl rfl, dictDisplay_pairs _ (by intro z; cases z) (by show 1 < 17; omega)]
    refine wpAny_bind (wpAny_standAt (wpAny_bind (wpAny_subDictH (knd := nestedKind X.prog X.w) (by show X.A.units + 8 < cLine; omega) (by show 1 ≤ 15; omega) (thn h fun ws s2 ⟨ps, H2, I2, rel, qq⟩ => ?_))))
    rcases rel with _ | @⟨⟨x, y⟩, w0, _, _, r0, rr⟩
    · exact qq.elim
    · rcases rr with _ | _
      rotate_left
      · exact qq.elim
      obtain ⟨e, b, kk, ex, hb, q2⟩ := qq
      subst ex
      obtain ⟨w1, w2⟩ := w0
      obtain ⟨r1, r2⟩ := r0
      cases (show w1 = Value.ref b from r1)
      have D : DN X.prog X.w H2 s.heap.objs.size [] := ⟨e, fun _ h => nomatch h⟩
      obtain ⟨hd, hz, hnd, us, p, dd⟩ := dN_rd I2.hok D
      cases p
      refine ⟨[(FB.hk kk, b, w2)], ⟨rfl, rfl, hold_key I2.hok hb, True.intro⟩, dd, fun h' tk' dd' hs => wpAny_pure ?_⟩
      obtain ⟨ob, es, ep, hq, h2, h3, h4, _, h5⟩ := dd'
      exact ⟨.ref s.heap.objs.size, _, d_write (t' := tk') I2 (by rw [e]; exact True.intro) hs ⟨ob, hq⟩ (dN_ok ⟨hd, (by show 1 ≤ sizeLine; decide), by simp, [(FB.hk kk, b, w2)], ob, es, ep, .cons ⟨rfl, rfl, r2⟩ .nil, hq, h2, h3, h4⟩), rfl, q2⟩
  · show tk σ _ _
    have := q _ hn
    exact this
end
end FB

/-! ## KRule2 -/
set_option Elab.async false
set_option linter.all false
set_option maxRecDepth 100000
set_option maxHeartbeats 4000000
namespace FB
open PySem PySem.Spec PyProof.Rows L2 Evl
open AutoSeq1 (wpAny_loadPart')

/-! ### enumerate(tuple) -/
theorem meets_enum1 {v : Value} {o : Obj} {H : Heap → Prop} (B : Begins v o H) :
    Meets (Builtin.«enumerate.__new__» ⟨[.type "enumerate", v], []⟩) (fun _ R s => H s.heap ∧
      R (.ok (.ret (.ref (s.heap.push o).objs.size))) { s with heap := (s.heap.push o).push { cls := .type "enumerate", data := .fields #[.none, .bool false, .ref s.heap.objs.size, rawInt 0, .none, .none] } }) :=
  .of_wp fun prog w A R s h => by
    obtain ⟨hp, g, d, tk, os⟩ := s; obtain ⟨hl, h⟩ := h
    have hsub := sub_enumerate
    wp_walk
    refine wpAny_stack_any fun st => wpAny_pure ?_
    split
    · rename_i c _ _ _ _ _
      cases (c == Value.type "enumerate")
      · wp_walk using B.iter _ _ _ _ _ _ hl
        exact ⟨_, rfl, h⟩
      · wp_walk using B.iter _ _ _ _ _ _ hl
        exact ⟨_, rfl, h⟩
    · wp_walk using B.iter _ _ _ _ _ _ hl
      exact ⟨_, rfl, h⟩
section
variable {prog : Program} {w : World} {A : Around} {E : Value → Shared → Prop} {s : Shared}
theorem enum1_begins {v : Value} {o : Obj} {H : Heap → Prop} {Q : Value → Shared → Prop} (B : Begins v o H) (h1 : H s.heap)
    (h : ∀ h', IsEnum h' (s.heap.objs.size + 1) s.heap.objs.size 0 .none → h'.get? s.heap.objs.size = some o → h'.objs.size = s.heap.objs.size + 2 →
      (∀ b o, s.heap.get? b = some o → h'.get? b = some o) → Q (.ref (s.heap.objs.size + 1)) { s with heap := h' }) :
    wpAny (model prog w) A (call (.type "enumerate") [v]) Q E s := by
  refine callType_new F.called_enumerate (by decide) (F.typeCall_enumerate_1 _) (F.newCall_enumerate_1 _) (fun obj => F.args_object_init_2 obj _) F.entry_enumerate_new
    (meets_enum1 B) ⟨h1, ?_⟩
  have hz : (s.heap.push o).objs.size = s.heap.objs.size + 1 := Heap.size_push ..
  show _ ∧ _
  rw [hz]
  have he : IsEnum ((s.heap.push o).push { cls := .type "enumerate", data := .fields #[.none, .bool false, .ref s.heap.objs.size, rawInt 0, .none, .none] }) (s.heap.objs.size + 1) s.heap.objs.size 0 .none := by
    have := Heap.get?_push_size (s.heap.push o) (o := { cls := .type "enumerate", data := .fields #[.none, .bool false, .ref s.heap.objs.size, rawInt 0, .none, .none] }) rfl
    rw [hz] at this; exact this
  refine ⟨⟨_, he, rfl⟩, h _ he (Heap.get?_push_of_some _ (Heap.get?_push_size _ B.free)) (by rw [Heap.size_push, hz]) fun b o x => Heap.get?_push_of_some _ (Heap.get?_push_of_some _ x)⟩
end
/-- the tuple at a as it stands at each turn, each item in a new pair -/
def IteT (K : PySem.W.Frag) (a : Addr) : It :=
  ⟨fun i H => ∃ (xs : List V) (x : V), SqT K H a xs ∧ xs[i]? = some x, fun i H v H' => ∃ T x, v = .ref T ∧ H T = none ∧ H' = upd H T (.tup [.int (i : Nat), x]) ∧ ∀ xs, SqT K H a xs → xs[i]? = some x, fun i H => ∃ xs : List V, SqT K H a xs ∧ xs.length ≤ i⟩
theorem apart_cls {h : Heap} {a b : Addr} {o u : Obj} (ha : h.get? a = some o) (hb : h.get? b = some u) (d : o.cls ≠ u.cls) : a ≠ b := fun e => by
  subst e
  rw [ha] at hb
  cases hb
  exact d rfl
theorem turn_enumT {P : Program} {w : World} {K : PySem.W.Frag} {elts : List Expr} {kk : Nat} {tpos : Pos} (a e it : Addr) :
    Turn P w K (.Tuple elts kk tpos) (IteT K a) [e, it] e (fun i h => (∃ old, IsEnum h e it ((i : Nat) : Int) old) ∧ h.IsTupleIter it a i ∧ e ≠ it) where
  mem := by simp
  obj := fun i h st b hb => by
    obtain ⟨⟨old, he⟩, ⟨o, ho, hc, hd⟩, _⟩ := st
    have e' : b = e ∨ b = it := by simpa using hb
    rcases e' with z | z
    · rw [z]; exact ⟨_, he, fun v q => nomatch q⟩
    · rw [z]; exact ⟨o, ho, fun v q => by rw [hd] at q; cases q⟩
  keep := fun i h h' st k => let ⟨⟨old, he⟩, hi, hne⟩ := st; ⟨⟨old, k e (by simp) _ he⟩, hi.at fun o q => k it (by simp) o q, hne⟩
  item := by
    intro X hP hw hK hc i pins s σ H E I hf st hg
    subst hP hw hK
    obtain ⟨⟨old, he⟩, hit, hne⟩ := st
    obtain ⟨xs, x, hq, hx⟩ := hg
    obtain ⟨its, rv, p, hz⟩ := I.tuple hq
    obtain ⟨u, hu, ru⟩ := rv.get hx
    have hel : e < s.heap.objs.size := Heap.lt_size he
    have hil : it < s.heap.objs.size := by obtain ⟨_, q, _⟩ := hit; exact Heap.lt_size q
    have hai : a ≠ it := by
      obtain ⟨o1, q1, c1, _⟩ := p
      obtain ⟨o2, q2, c2, _⟩ := hit
      exact apart_cls q1 q2 (by rw [c1, c2]; decide)
    have hea : e ≠ a := by
      obtain ⟨o1, q1, c1, _⟩ := p
      exact apart_cls he q1 (by rw [c1]; show Value.type "enumerate" ≠ Value.type "tuple"; decide)
    have D := Draws.tuple (prog := X.prog) (w := X.w) (A := X.A.in1) (I.ok.hd hc) it a hai its.toArray
    have hlt : i < its.toArray.size := by
      have := (List.getElem?_eq_some_iff.mp hu).1
      simpa using this
    refine wpAny_pyNext_enum_itemD D he ⟨hit, p⟩ hlt hne (by simp [hne, hea]) fun x' h' tk hP' ho hst' hT hsz hk => ?_
    have hx' : x' = u := by
      have : its.toArray[i]? = some u := by simpa using hu
      rw [this] at hP'
      exact (Option.some.inj hP').symm
    subst hx'
    refine ⟨_, rfl, wpAny_letOwnedTupleGo_enum (s := { s with heap := h', toks := tk + 1 }) ho fun h'' he' sb => ?_⟩
    have hT2 : h''.get? s.heap.objs.size = some { cls := .type "tuple", data := .seq #[.int i tk, x'] } := (sb.2 _ (Nat.ne_of_gt hel)).trans hT
    have new : ObjOk X.prog X.w (upd H s.heap.objs.size (.tup [.int (i : Nat), x])) h'' s.heap.objs.size (.tup [.int (i : Nat), x]) :=
      ⟨by show 2 ≤ sizeLine; decide, [.int i tk, x'], .cons ⟨_, rfl⟩ (.cons ru .nil), ⟨_, hT2, rfl, _, rfl⟩⟩
    have I1 : Inv X pins σ (upd H s.heap.objs.size (.tup [.int (i : Nat), x])) { s with heap := h'', toks := tk + 1 } :=
      I.turnedNew (ch := [e, it]) (fun b ob hb q => (sb.2 b (fun z => hb (by simp [z]))).trans (hk b ob (fun z => hb (by simp [z])) (fun z => hb (by simp [z])) q)) hf (Nat.le_refl _) new
    refine ⟨.ref s.heap.objs.size, _, I1, rfl, ⟨_, x, rfl, I.hok.fresh (Nat.le_refl _), rfl, fun ys hy => by rw [I.tuple_inj hy hq]; exact hx⟩, ⟨⟨x', ?_⟩, hst'.1.at fun o q => (sb.2 it (Ne.symm hne)).trans q, hne⟩, fun b hb => ?_⟩
    · have e1 : ((i + 1 : Nat) : Int) = (i : Int) + 1 := by omega
      rw [e1]; exact he'
    · have hb' : b < s.heap.objs.size := by
        have e' : b = e ∨ b = it := by simpa using hb
        rcases e' with z | z
        · rw [z]; exact hel
        · rw [z]; exact hil
      rw [upd_ne (Nat.ne_of_lt hb')]
      exact (hf b hb).1
  done := by
    intro X hP hw hK hc i pins s σ H E I hf st hg
    subst hP hw hK
    obtain ⟨⟨old, he⟩, hit, hne⟩ := st
    obtain ⟨xs, hq, hx⟩ := hg
    obtain ⟨its, rv, p, hz⟩ := I.tuple hq
    obtain ⟨f0, f1, f2, f3, f4, f5⟩ := hf it (by simp)
    have hl := rv.length
    have hai : a ≠ it := by
      obtain ⟨o1, q1, c1, _⟩ := p
      obtain ⟨o2, q2, c2, _⟩ := hit
      exact apart_cls q1 q2 (by rw [c1, c2]; decide)
    have fin : ∀ h', Heap.ExtBut it s.heap h' → _ := fun h' eb => I.turned (t' := s.toks) (fun b o hb q => eb b o hb q) f0 f1 f3 f4 f5
    have hT : s.TypeIs (.ref e) "enumerate" := ⟨_, he, rfl⟩
    unfold pyNext
    refine wpAny_bind (wpAny_attempt (wpAny_callSpecial?_slot (name := Str.ofString "__next__") hT F.slot_enumerate_next
      (wpAny_call_entry F.slot_enumerate_next hT F.entry_enumerate_next ?_ (F.args_enumerate_next_1 _))))
    show wpAny _ _ (field (.ref e) 2 >>= _) _ _ _
    refine wpAny_bind (wpAny_field he rfl (x := .ref it) rfl ?_)
    refine wpAny_bind (wpAny_nextOf_tuple_end (I.ok.hd hc) hit p (by simp; omega) fun h' x he' hx' => ?_)
    obtain ⟨o, ho, hc'⟩ := hx'
    refine wpAny_bind (wpAny_isInstance (T := "StopIteration") (b := true) ⟨o, ho, hc'⟩ isSubtype_stop ?_)
    exact wpAny_pure ⟨rfl, fin h' he'⟩
  self := fun A i s Q E st h => let ⟨⟨_, he⟩, _⟩ := st; wpAny_pyIter_enum he h
def iEnumT (K : PySem.W.Frag) (ta : TA) : TI := fun σ H R => ta σ H fun vs H1 => ∃ a xs, vs = [.ref a] ∧ SqT K H1 a xs ∧ R (IteT K a) H1
theorem pi_enumT {X : Cx} {e : Expr} {ta : TA} {p pos tpos : Pos} {elts : List Expr} {kk : Nat} (hg : Gl X "enumerate") (hm : X.mg "enumerate" = none) (ha : PA X [e] ta) (hs : starEach [e] X.env = [(false, eval e X.env)] := by rfl) :
    PI X (.Tuple elts kk tpos) (.Call (.Name "enumerate" p) [e] [] pos) (iEnumT X.K ta) := by
  refine ⟨fun pins s σ H R I h => ?_⟩
  refine Call_ (ld_blt I hg hm boot_enumerate (PyProof.Rows.callWith_type1 (thn (ha.run pos pins s σ H _ I h) fun us s1 ⟨vs, H1, I1, r1, q1⟩ => ?_) hs rfl))
  obtain ⟨a, xs, ex, hq, q⟩ := q1
  subst ex
  cases r1 with
  | cons r rr =>
    cases rr
    cases r
    obtain ⟨its, rv, p', hz⟩ := I1.tuple hq
    refine enum1_begins (begins_tuple a its.toArray) p' fun h' he hit hsz hk => wpAny_pyIter_enum he ?_
    have I2 : Inv X pins σ H1 { s1 with heap := h' } := I1.kept (t' := s1.toks) hk
    refine ⟨s1.heap.objs.size + 1, [s1.heap.objs.size + 1, s1.heap.objs.size], _, _, H1, rfl, I2, turn_enumT a (s1.heap.objs.size + 1) s1.heap.objs.size, ⟨⟨.none, he⟩, ⟨_, hit, rfl, rfl⟩, Nat.succ_ne_self _⟩, fun b hb => ?_, q⟩
    have e' : b = s1.heap.objs.size + 1 ∨ b = s1.heap.objs.size := by simpa using hb
    have hle : s1.heap.objs.size ≤ b := by
      rcases e' with z | z
      · rw [z]; exact Nat.le_add_right _ _
      · rw [z]; exact Nat.le_refl _
    exact I1.fpOk hle (I1.hok.fresh hle)

/-! ### sum, max of a tuple of ints -/
section
variable {X : Cx}
def rSumT (K : PySem.W.Frag) : List V → Hp → VK → Prop := fun vs H Q => ∃ (a : Addr) (ns : List Int), vs = [V.ref a] ∧ SqT K H a (ns.map V.int) ∧ Q (.int ns.sum) H
theorem pre_sum (ns : List Int) : ∀ k, k ≤ ns.length → preSum (fun i => ns.getD i 0) k = (ns.take k).sum
  | 0, _ => rfl
  | k + 1, h => by
    have h' : k < ns.length := by omega
    show preSum _ k + ns.getD k 0 = _
    rw [pre_sum ns k (by omega), sum_take (List.getElem?_eq_getElem h')]
    simp [List.getD, h']
theorem cr_sumT (hc : X.calm = true) : CallR X (.builtin "sum") (rSumT X.K) := by
  intro pins s σ H vs us Q I r h
  obtain ⟨a, ns, rfl, hs, q⟩ := h
  obtain ⟨its, rv, hl, _⟩ := I.tuple hs
  rw [Vals.ref1 r]
  have hlen : its.length = ns.length := by have := rv.length; simpa using this.symm
  refine call_sum_walkAnyS (PySem.W.iter_tupleW (A := X.A.in1) (I.ok.hd hc) hl fun s₂ e W st hfp hw hk => ⟨_, _, _, _, _, _, _, fun i => ns.getD i 0, rfl, W, st, hfp, fun i v hv => ?_, fun s' t' m => ?_⟩)
  · have hi : i < ns.length := by
      have := (Array.getElem?_eq_some_iff.mp hv).1
      simp at this; omega
    obtain ⟨u, hu, ru⟩ := rv.get (i := i) (x := .int ns[i]) (by rw [List.getElem?_map, List.getElem?_eq_getElem hi]; rfl)
    have : its.toArray[i]? = some u := by simpa using hu
    rw [this] at hv
    cases hv
    obtain ⟨t, rfl⟩ := ru
    exact ⟨t, by simp [List.getD, hi]⟩
  · obtain ⟨h', tk, rfl, hk'⟩ := PySem.W.moved_old e rfl m
    have es : preSum (fun i => ns.getD i 0) its.toArray.size = ns.sum := by
      rw [pre_sum ns _ (by simp; omega)]
      congr 1
      exact List.take_of_length_le (by simp; omega)
    rw [es]
    exact ⟨.int _, H, I.kept hk', ⟨_, rfl⟩, q⟩
def rMaxT (K : PySem.W.Frag) : List V → Hp → VK → Prop := fun vs H Q => ∃ (a : Addr) (ns : List Int), vs = [V.ref a] ∧ SqT K H a (ns.map V.int) ∧ 0 < ns.length ∧ ∀ m, m ∈ ns → Q (.int m) H
theorem reads_ints {h : Heap} : ∀ {ns : List Int} {us : List Value}, Vals (ns.map V.int) us → ReadsAll h us (ns.map PyData.int) []
  | [], _, r => by cases r; exact .nil
  | n :: ns, _, r => by
    cases r with
    | cons a b =>
      obtain ⟨t, rfl⟩ := a
      exact ReadsAll.cons (as := []) (bs := []) (.int n t) (reads_ints b)
theorem depth_ints : ∀ ns : List Int, PyData.depthAll (ns.map PyData.int) = 0
  | [] => rfl
  | n :: ns => by simp [PyData.depthAll, PyData.depth, depth_ints ns]
theorem cr_maxT (hc : X.calm = true) (hu : X.A.units + 64 < cLine) : CallR X (.builtin "max") (rMaxT X.K) := by
  intro pins s σ H vs us Q I r h
  obtain ⟨a, ns, rfl, hs, hp, q⟩ := h
  obtain ⟨its, rv, hl, _⟩ := I.tuple hs
  rw [Vals.ref1 r]
  cases ns with
  | nil => simp at hp
  | cons n ns =>
    refine PySem.W.max_tuple_data (x := .int n) (xs := ns.map PyData.int) (as := []) (I.ok.hd hc) hl (by simpa using reads_ints (h := s.heap) rv) ?_ ?_ fun i v h' tk bs hv _ hk => ?_
    · constructor
      · intro x hx y hy
        rw [← List.map_cons] at hx hy
        obtain ⟨i, _, rfl⟩ := List.mem_map.mp hx
        obtain ⟨j, _, rfl⟩ := List.mem_map.mp hy
        rfl
      · intro x hx
        rw [← List.map_cons] at hx
        obtain ⟨i, _, rfl⟩ := List.mem_map.mp hx
        exact fun z => nomatch z
    · rw [← List.map_cons, depth_ints]; omega
    · have hi : i < (n :: ns).length := by
        have := (Array.getElem?_eq_some_iff.mp hv).1
        have hl := rv.length
        simp at this hl ⊢; omega
      obtain ⟨u, hu, ru⟩ := rv.get (i := i) (x := .int (n :: ns)[i]) (by rw [List.getElem?_map, List.getElem?_eq_getElem hi]; rfl)
      have : its.toArray[i]? = some u := by simpa using hu
      rw [this] at hv
      cases hv
      exact ⟨.int _, H, I.kept hk, ru, q _ (List.getElem_mem hi)⟩

/-! ### xs.extend(tuple) -/
theorem list_extend_tup (l : Addr) (items : Array Value) (n : Nat) (b : Addr) (items2 : Array Value) (n2 : Nat) (dd : Option Addr) (sl : Array (Option Value)) (hs0 : ¬(!items.isEmpty && Builtin.List.listTooLong (items.size + items2.size)) = true) (hs1 : items.size ≤ sizeLine) (hs2 : items.size + items2.size ≤ sizeLine + 1) :
    Meets (Builtin.«list.extend» ⟨[.ref l, .ref b], []⟩) (fun _ R s => s.heap.get? l = some { cls := .type "list", dict := none, data := .seq items n, slots := #[] } ∧ s.heap.get? b = some { cls := .type "tuple", dict := dd, data := .seq items2 n2, slots := sl } ∧ R (.ok (.ret Value.none)) { s with heap := s.heap.update l (Obj.mapSeq fun x => x ++ items2), toks := s.toks }) :=
  .of_wp fun prog w A R s h => by
    obtain ⟨hp, g, d, tk, os⟩ := s; obtain ⟨hl, hb, h⟩ := h; have f1 := PySem.AutoSeq1.idx_int; have f2 := PySem.AutoSeq1.sub_tuple_tuple; have f3 := PySem.AutoSeq1.sub_list_list; have f4 := PySem.AutoSeq1.sub_tuple_list; have f5 := PySem.AutoSeq1.sub_list_tuple;
    have hz' : (items ++ items2).size ≤ sizeLine + 1 := by rw [Array.size_append]; exact hs2
    wp_walk using (wpAny_updateSeq hl rfl (hz := hs1) (_hz' := hz')), wpAny_loadPart' hl, wpAny_loadPart' hb; exact ⟨_, rfl, h⟩
def rExtT (K : PySem.W.Frag) : V → List V → Hp → VK → Prop := fun x vs H Q => ∃ l b xs zs, x = .ref l ∧ vs = [.ref b] ∧ H l = some (.lst xs) ∧ SqT K H b zs ∧ xs.length + zs.length ≤ sizeLine ∧ Q .non (upd H l (.lst (xs ++ zs)))
theorem mt_extT : MtR X "list.extend" (rExtT X.K) := by
  intro pins s σ H x vs v us Q I rx rv h
  obtain ⟨l, b, xs, zs, rfl, rfl, hH, hB, hz, q⟩ := h
  cases rx
  obtain ⟨u, rfl, ru⟩ := rv.one
  cases ru
  obtain ⟨z, its, n, r, hl, e⟩ := I.lstM hH
  obtain ⟨its2, r2, ⟨⟨c2, dd, dat, sl⟩, e2, hc2, n2, hd2⟩, hl2⟩ := I.tuple hB
  have hc2' : c2 = .type "tuple" := hc2
  have hd2' : dat = .seq its2.toArray n2 := hd2
  subst hc2' hd2'
  have l2 := r2.length
  have hsz : its.toArray.size + its2.toArray.size ≤ sizeLine := by rw [List.size_toArray, List.size_toArray]; omega
  have hlong : ¬ (!its.toArray.isEmpty && Builtin.List.listTooLong (its.toArray.size + its2.toArray.size)) = true := by
    rw [notLongL hsz, Bool.and_false]
    exact Bool.false_ne_true
  refine call_meets F.slot_list_extend ⟨_, e, rfl⟩ F.entry_list_extend (F.args_list_extend_2 _ _)
    (list_extend_tup l its.toArray n b its2.toArray n2 dd sl hlong (by rw [List.size_toArray]; omega) (by omega)) ⟨e, e2, ?_⟩
  refine ⟨.non, _, I.lset (its' := its ++ its2) hH e (by simp) (r.append r2) ?_, rfl, q⟩
  rw [List.length_append]; exact hz
end
end FB

/-! ## KRule3 -/
set_option Elab.async false
set_option linter.all false
set_option maxRecDepth 100000
set_option maxHeartbeats 4000000
namespace FB
open PySem PySem.Spec PyProof.Rows L2 Evl

/-! ### {x for x in xs}, xs unlike texts; its length -/
def inS (xs : List Str) : Key → Bool := fun k => xs.any fun y => decide (k = Sum.inr y)
def tScT (P : Program) (w : World) (K : PySem.W.Frag) (te : TE) : TE := fun σ H Q => te σ H fun x H1 => ∃ (a : Addr) (xs : List Str), x = .ref a ∧ SqL K H1 a (xs.map V.str) ∧ xs.Nodup ∧ xs.length ≤ 1000 ∧
  ∀ p, H1 p = none → Q (.ref p) (upd H1 p (SetK P w p (inS xs) xs.length))
theorem inS_snoc (xs : List Str) (x : Str) : (fun k => inS xs k || decide (k = (Sum.inr x : Key))) = inS (xs ++ [x]) := by
  funext k
  simp [inS]
structure ScG (P : Program) (w : World) (s1 : Shared) (C D : Addr) (xs : List Str) (i : Nat) (s : Shared) : Prop where
  ex : ∃ h tk, s = { s1 with heap := h, toks := tk }
  old : ∀ b o, s1.heap.get? b = some o → s.heap.get? b = some o
  ns : ∃ m, s.heap.Ns C m
  st : s.heap.SetOf (mixKind P w) D (inS (xs.take i)) i
theorem ns_keep {h h' : Heap} {C : Addr} {m : Str → Option Value} (n : h.Ns C m) (k : ∀ o, h.get? C = some o → h'.get? C = some o) : h'.Ns C m := by
  obtain ⟨o, es, ep, e, r⟩ := n
  exact ⟨o, es, ep, k o e, r⟩
section
variable {X : Cx}
theorem pe_scT {x : Str} {iter : Expr} {scope : Scope} {pos p1 p2 : Pos} {te : TE} (hc : X.calm = true) (ha : PE X iter te) (hkind : scope.kind = .function) (hcell : ∀ y ∈ scope.names, y.2 ≠ .cell) (hfr : ∀ y ∈ scope.names, y.2 ≠ .free)
    (hnames : ∀ y ∈ scope.names, y.2 = .local → scope.names.lookup y.1 = some .local) (hl : scope.names.lookup x = some .local) (hs : ∀ v, foldedSetIterable iter X.env v = pure v := by intro _; rfl)
    (hd : (x == ("__debug__" : Str)) = false := by decide) : PE X (.SetComp (.Name x p1) [⟨.Name x p2, iter, [], 0⟩] scope pos) (tScT X.prog X.w X.K te) := by
  refine ⟨fun pins s σ H Q I h => ?_⟩
  refine SetComp_goes (closure_ok fun y hy e => absurd e (hfr y hy)) hcell hkind hnames (thn (ha.run pins s σ H _ I h) fun u s1 ⟨xv, H1, I1, r1, a, xs, ex, hq, hn, hlen, q⟩ => ?_) hs
  subst ex
  cases (show u = Value.ref a from r1)
  obtain ⟨its, rv, p, _⟩ := I1.list hq
  have hlen2 : its.length = xs.length := by have := rv.length; simpa using this.symm
  have hal : a < s1.heap.objs.size := by obtain ⟨_, e, _⟩ := p.isList; exact Heap.lt_size e
  refine wpAny_pyIter_list p.isList ⟨s1.heap.objs.size, _, _, _, _, _, rfl, Goes.list (I1.ok.hd hc) _ a (Nat.ne_of_lt hal) its.toArray, ⟨⟨_, Heap.get?_push_size _ rfl, rfl, rfl⟩, p.isList.at fun o e => Heap.get?_push_of_some _ e⟩, fun D C s₃ B hD => ?_⟩
  obtain ⟨h3, tk3, e3⟩ := B.only
  have hI : s1.heap.objs.size < D := by have := B.newD; exact Nat.lt_of_succ_le (by simpa [Heap.size_push] using this)
  have hIC : s1.heap.objs.size < C := by have := B.newC; exact Nat.lt_of_succ_le (by simpa [Heap.size_push] using this)
  refine ⟨ScG X.prog X.w s1 C D xs, ⟨⟨h3, tk3, by rw [e3]⟩, fun b o e => B.old b o (Heap.get?_push_of_some _ e), ⟨_, B.names⟩, ?_⟩, ?_, ?_, ?_⟩
  · refine ⟨_, #[], 0, _, hD, ⟨rfl, rfl, rfl⟩, rfl, (fun e he => by simp at he), (fun k => by simp [inS]), (by decide), (by rfl), rfl⟩
  · rintro i s' h' tk ⟨⟨h0, t0, e0⟩, old, ⟨m, ns⟩, st⟩ k _
    subst e0
    have kk : ∀ b o, b ≠ s1.heap.objs.size → h0.get? b = some o → h'.get? b = some o := fun b o hb e => k b o (by simp [hb]) e
    exact ⟨⟨h', tk, rfl⟩, fun b o e => kk b o (Nat.ne_of_lt (Heap.lt_size e)) (old b o e), ⟨m, ns_keep ns fun o e => kk C o (Nat.ne_of_gt hIC) e⟩, setOf_at st fun o e => kk D o (Nat.ne_of_gt hI) e⟩
  · rintro i v s' hi hv hst ⟨⟨h0, t0, e0⟩, old, ⟨m, ns⟩, st⟩
    subst e0
    have hi' : i < xs.length := by simp at hi; omega
    obtain ⟨u, hu, ru⟩ := rv.get (i := i) (x := .str xs[i]) (by rw [List.getElem?_map, List.getElem?_eq_getElem hi']; rfl)
    have hv' : its.toArray[i]? = some v := hv
    have : its.toArray[i]? = some u := by simpa using hu
    rw [this] at hv'
    have ev : u = v := Option.some.inj hv'
    subst ev
    have hk : (compEnvC scope (cloFrom X.env.cells scope.names []) C X.env).kindOf x = some .local := lookup_relabel_local hl
    refine wpAny_assign_Name ?_
    refine wpAny_storeName_local hk ns (fun h1 ns1 sb1 => ?_) (by show ((scope.kind == ScopeKind.class) || ((scope.kind == ScopeKind.module) && _)) = false; rw [hkind]; rfl)
    refine wpAny_pure ?_
    rw [if_pos rfl]
    refine wpAny_Name (wpAny_loadName_local (v := u) hkind hk ns1 (if_pos rfl) ?_) hd
    have nDC : D ≠ C := B.ne
    have st1 : h1.SetOf (mixKind X.prog X.w) D (inS (xs.take i)) i := setOf_at st fun o e => (sb1.2 D nDC).trans e
    have hnew : inS (xs.take i) (Sum.inr xs[i]) = false := by
      refine List.any_eq_false.mpr fun y hy e => ?_
      have e := Sum.inr.inj (of_decide_eq_true e)
      subst e
      obtain ⟨j, hj⟩ := List.mem_iff_getElem?.mp hy
      rw [List.getElem?_take] at hj
      split at hj
      · rename_i hji
        have := nd_ix hn hj (List.getElem?_eq_getElem hi')
        omega
      · cases hj
    refine call_set_add (kV_is (k := Sum.inr xs[i]) ru) (key_scan (k := Sum.inr xs[i]) ru) st1 (by have : scanBound = 4096 := rfl; omega) fun h2 sb2 new => ?_
    have k2 : ∀ b o, b ≠ C → b ≠ D → h0.get? b = some o → h2.get? b = some o := fun b o hb hb2 e => (sb2.2 b hb2).trans ((sb1.2 b hb).trans e)
    rw [hnew, inS_snoc] at new
    have et : xs.take i ++ [xs[i]] = xs.take (i + 1) := by rw [List.take_add_one, List.getElem?_eq_getElem hi']; rfl
    rw [et] at new
    refine ⟨⟨⟨h2, _, rfl⟩, fun b o e => ?_, ⟨_, ns_keep ns1 fun o e => (sb2.2 C (Ne.symm nDC)).trans e⟩, new⟩, ?_⟩
    · have hb := Heap.lt_size e
      exact k2 b o (Nat.ne_of_lt (Nat.lt_trans hb hIC)) (Nat.ne_of_lt (Nat.lt_trans hb hI)) (old b o e)
    · exact ⟨hst.1.at fun o e => k2 _ o (Nat.ne_of_lt hIC) (Nat.ne_of_lt hI) e, hst.2.at fun o e => k2 _ o (Nat.ne_of_lt (Nat.lt_trans hal hIC)) (Nat.ne_of_lt (Nat.lt_trans hal hI)) e⟩
  · rintro s' ⟨⟨h0, t0, e0⟩, old, ⟨m, ns⟩, st⟩
    subst e0
    refine ⟨m, ns, fun h' sb => ?_⟩
    have es : its.toArray.size = xs.length := by simp [hlen2]
    rw [es, List.take_length] at st
    refine ⟨.ref D, _, I1.laid (t' := t0) (fun b o e => (sb.2 b (Nat.ne_of_lt (Nat.lt_trans (Heap.lt_size e) hIC))).trans (old b o e)) (Nat.le_of_lt hI) (setK_new (setOf_at st fun o e => (sb.2 D B.ne).trans e)), rfl, q D (I1.hok.fresh (Nat.le_of_lt hI))⟩
def rLenK (P : Program) (w : World) : List V → Hp → VK → Prop := fun xs H Q => ∃ (p : Addr) (S : Key → Bool) (n : Nat), xs = [.ref p] ∧ H p = some (SetK P w p S n) ∧ n ≤ 1000 ∧ Q (.int (n : Int)) H
theorem call_lenK : CallR X (.builtin "len") (rLenK X.prog X.w) := by
  intro pins s σ H xs us Q I r h
  obtain ⟨p, S, n, rfl, hp, hn, q⟩ := h
  rw [Vals.ref1 r]
  obtain ⟨o, es, ep, t, ho, hex, hd, _, _, _, hf, hs⟩ := setK_get I hp
  have hz : es.size ≤ 1000 := by omega
  refine call_len_set ho hex hd hf (by omega) ?_
  rw [hs]
  exact ⟨.int n, H, (I.tok _), ⟨_, rfl⟩, q⟩
end
end FB

/-! ## KText -/
set_option Elab.async false
set_option linter.all false
set_option maxRecDepth 100000
set_option maxHeartbeats 4000000
namespace FB
open PySem PySem.Spec PyProof.Rows L2 Evl
/-! ### the text -/
def topS (i : Nat) : Stmt := PySem.Challenge.pw_fullbelts_k68_whole_least_carries.main.body.getD i (.Pass ⟨0, 0, 0, 0⟩)
abbrev s_is_integer : Stmt := topS 7
abbrev n_is_integer : List Str := ["thing"]
theorem sc_is_integer : FnScope n_is_integer ["thing"] (defScope s_is_integer) := ⟨rfl, rfl, rfl, by decide +kernel, rfl, by decide +kernel, by decide +kernel⟩
abbrev s_is_name : Stmt := topS 8
abbrev n_is_name : List Str := ["thing", "sign"]
theorem sc_is_name : FnScope n_is_name ["thing"] (defScope s_is_name) := ⟨rfl, rfl, rfl, by decide +kernel, rfl, by decide +kernel, by decide +kernel⟩
abbrev s_are_lengths : Stmt := topS 13
abbrev n_are_lengths : List Str := ["thing", "length"]
theorem sc_are_lengths : FnScope n_are_lengths ["thing"] (defScope s_are_lengths) := ⟨rfl, rfl, rfl, by decide +kernel, rfl, by decide +kernel, by decide +kernel⟩
abbrev s_is_item : Stmt := topS 14
abbrev n_is_item : List Str := ["thing"]
theorem sc_is_item : FnScope n_is_item ["thing"] (defScope s_is_item) := ⟨rfl, rfl, rfl, by decide +kernel, rfl, by decide +kernel, by decide +kernel⟩
abbrev s_is_holding : Stmt := topS 15
abbrev n_is_holding : List Str := ["thing", "row", "item"]
theorem sc_is_holding : FnScope n_is_holding ["thing"] (defScope s_is_holding) := ⟨rfl, rfl, rfl, by decide +kernel, rfl, by decide +kernel, by decide +kernel⟩
abbrev s_put_in : Stmt := topS 16
abbrev n_put_in : List Str := ["holding", "belt", "thing"]
theorem sc_put_in : FnScope n_put_in ["holding", "belt", "thing"] (defScope s_put_in) := ⟨rfl, rfl, rfl, by decide +kernel, rfl, by decide +kernel, by decide +kernel⟩
abbrev s_items_of : Stmt := topS 18
abbrev n_items_of : List Str := ["holding", "row", "item"]
theorem sc_items_of : FnScope n_items_of ["holding"] (defScope s_items_of) := ⟨rfl, rfl, rfl, by decide +kernel, rfl, by decide +kernel, by decide +kernel⟩
abbrev s_are_names_once : Stmt := topS 19
abbrev n_are_names_once : List Str := ["holding", "found", "item"]
theorem sc_are_names_once : FnScope n_are_names_once ["holding"] (defScope s_are_names_once) := ⟨rfl, rfl, rfl, by decide +kernel, rfl, by decide +kernel, by decide +kernel⟩
abbrev s_check_holdings : Stmt := topS 20
abbrev n_check_holdings : List Str := ["begin", "goal", "holding", "found", "row", "item"]
theorem sc_check_holdings : FnScope n_check_holdings ["begin", "goal"] (defScope s_check_holdings) := ⟨rfl, rfl, rfl, by decide +kernel, rfl, by decide +kernel, by decide +kernel⟩
abbrev s_check_small : Stmt := topS 23
abbrev n_check_small : List Str := ["begin", "goal", "row"]
theorem sc_check_small : FnScope n_check_small ["begin", "goal"] (defScope s_check_small) := ⟨rfl, rfl, rfl, by decide +kernel, rfl, by decide +kernel, by decide +kernel⟩
abbrev s_fits : Stmt := topS 24
abbrev n_fits : List Str := ["holding", "goal", "row", "other", "here", "item"]
theorem sc_fits : FnScope n_fits ["holding", "goal"] (defScope s_fits) := ⟨rfl, rfl, rfl, by decide +kernel, rfl, by decide +kernel, by decide +kernel⟩
abbrev s_carried_on : Stmt := topS 25
abbrev n_carried_on : List Str := ["holding", "belt", "rooms", "found", "room", "row", "at"]
theorem sc_carried_on : FnScope n_carried_on ["holding"] (defScope s_carried_on) := ⟨rfl, rfl, rfl, by decide +kernel, rfl, by decide +kernel, by decide +kernel⟩
abbrev s_way_back : Stmt := topS 26
abbrev n_way_back : List Str := ["came", "holding", "found", "carry"]
theorem sc_way_back : FnScope n_way_back ["came", "holding"] (defScope s_way_back) := ⟨rfl, rfl, rfl, by decide +kernel, rfl, by decide +kernel, by decide +kernel⟩
abbrev s_fewest : Stmt := topS 27
abbrev n_fewest : List Str := ["begin", "goal", "wanted", "first", "came", "waiting", "at", "here", "carry", "there", "row", "item"]
theorem sc_fewest : FnScope n_fewest ["begin", "goal"] (defScope s_fewest) := ⟨rfl, rfl, rfl, by decide +kernel, rfl, by decide +kernel, by decide +kernel⟩
abbrev s_shortest : Stmt := topS 28
abbrev n_shortest : List Str := ["begin", "goal"]
theorem sc_shortest : FnScope n_shortest ["begin", "goal"] (defScope s_shortest) := ⟨rfl, rfl, rfl, by decide +kernel, rfl, by decide +kernel, by decide +kernel⟩
abbrev s_least_carries : Stmt := topS 29
abbrev n_least_carries : List Str := ["begin", "goal", "found"]
theorem sc_least_carries : FnScope n_least_carries ["begin", "goal"] (defScope s_least_carries) := ⟨rfl, rfl, rfl, by decide +kernel, rfl, by decide +kernel, by decide +kernel⟩
abbrev s_L_dice : Stmt := topS 31
abbrev n_L_dice : List Str := ["_law_script", "_law_cell"]
theorem sc_L_dice : FnScope n_L_dice ["_law_script"] (defScope s_L_dice) := ⟨rfl, rfl, rfl, by decide +kernel, rfl, by decide +kernel, by decide +kernel⟩
abbrev s_L_draw : Stmt := topS 32
abbrev n_L_draw : List Str := ["_law_dice_here", "_law_sides", "_law_cell", "_law_digit", "_law_mixed"]
theorem sc_L_draw : FnScope n_L_draw ["_law_dice_here", "_law_sides"] (defScope s_L_draw) := ⟨rfl, rfl, rfl, by decide +kernel, rfl, by decide +kernel, by decide +kernel⟩
abbrev s_L_names : Stmt := topS 33
abbrev n_L_names : List Str := ["_law_dice_here", "_law_size", "_law_found", "_law_k", "_law_word", "_law_sign", "_law_j"]
theorem sc_L_names : FnScope n_L_names ["_law_dice_here", "_law_size"] (defScope s_L_names) := ⟨rfl, rfl, rfl, by decide +kernel, rfl, by decide +kernel, by decide +kernel⟩
abbrev s_L_alike : Stmt := topS 34
abbrev n_L_alike : List Str := ["_law_one", "_law_other", "_law_k"]
theorem sc_L_alike : FnScope n_L_alike ["_law_one", "_law_other"] (defScope s_L_alike) := ⟨rfl, rfl, rfl, by decide +kernel, rfl, by decide +kernel, by decide +kernel⟩
abbrev s_L_belts : Stmt := topS 35
abbrev n_L_belts : List Str := ["_law_dice_here", "_law_size", "_law_found", "_law_left", "_law_k", "_law_length"]
theorem sc_L_belts : FnScope n_L_belts ["_law_dice_here", "_law_size"] (defScope s_L_belts) := ⟨rfl, rfl, rfl, by decide +kernel, rfl, by decide +kernel, by decide +kernel⟩
abbrev s_L_put : Stmt := topS 36
abbrev n_L_put : List Str := ["_law_holding", "_law_belt", "_law_thing", "_law_rows"]
theorem sc_L_put : FnScope n_L_put ["_law_holding", "_law_belt", "_law_thing"] (defScope s_L_put) := ⟨rfl, rfl, rfl, by decide +kernel, rfl, by decide +kernel, by decide +kernel⟩
abbrev s_L_lengths : Stmt := topS 37
abbrev n_L_lengths : List Str := ["_law_dice_here", "_law_size", "_law_found"]
theorem sc_L_lengths : FnScope n_L_lengths ["_law_dice_here", "_law_size"] (defScope s_L_lengths) := ⟨rfl, rfl, rfl, by decide +kernel, rfl, by decide +kernel, by decide +kernel⟩
abbrev s_L_split : Stmt := topS 38
abbrev n_L_split : List Str := ["_law_word", "_law_lengths_here", "_law_rows", "_law_at", "_law_length"]
theorem sc_L_split : FnScope n_L_split ["_law_word", "_law_lengths_here"] (defScope s_L_split) := ⟨rfl, rfl, rfl, by decide +kernel, rfl, by decide +kernel, by decide +kernel⟩
abbrev s_L_items : Stmt := topS 39
abbrev n_L_items : List Str := ["_law_holding", "_law_found", "_law_row", "_law_item"]
theorem sc_L_items : FnScope n_L_items ["_law_holding"] (defScope s_L_items) := ⟨rfl, rfl, rfl, by decide +kernel, rfl, by decide +kernel, by decide +kernel⟩
abbrev s_L_fits : Stmt := topS 40
abbrev n_L_fits : List Str := ["_law_holding", "_law_goal", "_law_row", "_law_other", "_law_k"]
theorem sc_L_fits : FnScope n_L_fits ["_law_holding", "_law_goal"] (defScope s_L_fits) := ⟨rfl, rfl, rfl, by decide +kernel, rfl, by decide +kernel, by decide +kernel⟩
abbrev s_L_two_holdings : Stmt := topS 41
abbrev n_L_two_holdings : List Str := ["_law_dice_here", "_law_size", "_law_names_here", "_law_lengths_here", "_law_many", "_law_word", "_law_begin", "_law_kept", "_law_left", "_law_chosen", "_law_goal", "_law_k", "_law_item"]
theorem sc_L_two_holdings : FnScope n_L_two_holdings ["_law_dice_here", "_law_size", "_law_names_here"] (defScope s_L_two_holdings) := ⟨rfl, rfl, rfl, by decide +kernel, rfl, by decide +kernel, by decide +kernel⟩
abbrev s_L_steps_to : Stmt := topS 42
abbrev n_L_steps_to : List Str := ["_law_begin", "_law_goal", "_law_names_here", "_law_row", "_law_item", "_law_first", "_law_known", "_law_front", "_law_many", "_law_holding", "_law_later", "_law_belt", "_law_there"]
theorem sc_L_steps_to : FnScope n_L_steps_to ["_law_begin", "_law_goal"] (defScope s_L_steps_to) := ⟨rfl, rfl, rfl, by decide +kernel, rfl, by decide +kernel, by decide +kernel⟩
abbrev s_L_full_goal : Stmt := topS 43
abbrev n_L_full_goal : List Str := ["_law_dice_here", "_law_begin", "_law_found", "_law_row", "_law_at", "_law_word", "_law_k"]
theorem sc_L_full_goal : FnScope n_L_full_goal ["_law_dice_here", "_law_begin"] (defScope s_L_full_goal) := ⟨rfl, rfl, rfl, by decide +kernel, rfl, by decide +kernel, by decide +kernel⟩
abbrev s_law : Stmt := topS 44
abbrev n_law : List Str := ["_law_script", "_law_dice_here", "_law_size", "_law_names_here", "_law_begin", "_law_goal", "_law_due", "_law_told", "_law_apart", "_law_k", "_law_row"]
theorem sc_law : FnScope n_law ["_law_script"] (defScope s_law) := ⟨rfl, rfl, rfl, by decide +kernel, rfl, by decide +kernel, by decide +kernel⟩
/-! ### a def that is called by its name -/
structure Cl (P : Program) (w : World) (K : PySem.W.Frag) (mg : Str → Option Value) (base : Heap) (k : Nat) (x : Str) (sp : Sp) : Prop where
  ex : ∃ (f : Addr) (fd : FuncData) (ps : List Str), FnOk P w K mg base CX0 k f fd ps sp ∧ mg x = some (.ref f) ∧ PySem.W.keepIn K (.ref f) = true ∧ Binds K fd ps []
section
variable {X : Cx} {k j : Nat} {x : Str} {sp : Sp} {p pos : Pos} {e : Expr} {es : List Expr} {t : TA}
theorem pe_cl (c : Cl X.prog X.w X.K X.mg X.base k x sp) (hr : Room j X.A) (ha : PA X (e :: es) t) (hk : k ≤ j := by decide) (hg : Gl X x := by rfl)
    (hdb : (x == ("__debug__" : Str)) = false := by decide) (he : starEach (e :: es) X.env = (false, eval e X.env) :: starEach es X.env := by rfl) (hpl : (backTo pos (starEach es X.env)).any (·.1) = false := by rfl) :
    PE X (.Call (.Name x p) (e :: es) [] pos) (tCall sp [] E0 t) := by
  obtain ⟨f, fd, ps, F, hm, kp, b⟩ := c.ex
  exact pe_call F (hr.mono hk) hg hm kp b .nil pass0 ha hdb he hpl
end
/-! ### what evaluates to what -/
def EvP (te : TE) (σ : L2.St) (H : Hp) (P : V → Hp → Prop) : Prop := ∀ Q : VK, (∀ v H', Ex H H' → P v H' → Q v H') → te σ H Q
def EvB (tt : TT) (σ : L2.St) (H : Hp) (b : Bool) : Prop := ∀ Q : Bool → Hp → Prop, (∀ H', Ex H H' → Q b H') → tt σ H Q
theorem evb_yes {σ : L2.St} {H : Hp} : EvB tYes σ H true := fun Q q => q H (Ex.refl H)
/-- relations that stay while more is known -/
def Mono (P : V → Hp → Prop) : Prop := ∀ v H H', Tle H H' → P v H → P v H'
theorem mono_eq {x : V} : Mono (fun v _ => v = x) := fun _ _ _ _ h => h
theorem mono_row {r : List (Option Str)} : Mono (fun v H => IsRow H v r) := fun _ _ _ e h => h.tle e
theorem mono_hold {h : Hd} : Mono (fun v H => IsH H v h) := fun _ _ _ e q => q.tle e

/-! ### comprehensions that change nothing -/
section
variable {K : PySem.W.Frag} {a : Addr} {xs : List V} {tt : TT} {te : TE} {vs : List Nat} {j : Nat} {σ : L2.St} {H1 : Hp} {D : Addr} {Qd : Hp → Prop}
variable {β γ : Type} {as : List β} (f : β → Option γ) (R : γ → V → Hp → Prop)
structure LcI (R : γ → V → Hp → Prop) (f : β → Option γ) (as : List β) (H1 : Hp) (D : Addr) (i : Nat) (H : Hp) : Prop where
  ex : Ex H1 H
  no : H1 D = none
  ls : ∃ ys, H D = some (.lst ys) ∧ Paired (fun y c => R c y H) ys ((as.take i).filterMap f)
theorem paired_app {α δ : Type} {F : α → δ → Prop} : ∀ {l l' : List α} {m m' : List δ}, Paired F l m → Paired F l' m' → Paired F (l ++ l') (m ++ m')
  | _, _, _, _, .nil, q => q
  | _, _, _, _, .cons a b, q => .cons a (paired_app b q)
theorem paired_map {α δ : Type} {F G : α → δ → Prop} {l : List α} {m : List δ} (p : Paired F l m) (h : ∀ a b, F a b → G a b) : Paired G l m := L2.Paired.mapP p h
theorem lci_step (hm : ∀ c, Mono (R c)) {i : Nat} {b : β} {H : Hp} {σ2 : L2.St} (hb : as[i]? = some b) (p : LcI R f as H1 D i H) (hz : as.length ≤ 40000)
    (h : (f b = none ∧ EvB tt σ2 H false) ∨ ∃ c, f b = some c ∧ EvB tt σ2 H true ∧ ∀ H', Ex H H' → EvP te σ2 H' (R c)) :
    tt σ2 H fun bb H3 => if bb = true then te σ2 H3 fun y H4 => ∃ acc, H4 D = some (.lst acc) ∧ acc.length < sizeLine ∧ LcI R f as H1 D (i + 1) (upd H4 D (.lst (acc ++ [y]))) else LcI R f as H1 D (i + 1) H3 := by
  obtain ⟨e, no, ys, hD, pr⟩ := p
  have et : as.take (i + 1) = as.take i ++ [b] := by rw [List.take_add_one, hb]; rfl
  rcases h with ⟨hf, ht⟩ | ⟨c, hf, ht, he⟩
  · refine ht _ fun H' e' => ?_
    rw [if_neg Bool.false_ne_true]
    refine ⟨e.trans e', no, ys, e' _ _ hD, ?_⟩
    rw [et, List.filterMap_append]
    have : [b].filterMap f = [] := by simp [hf]
    rw [this, List.append_nil]
    exact paired_map pr fun y c q => hm c _ _ _ (Tle.of e') q
  · refine ht _ fun H' e' => ?_
    rw [if_pos rfl]
    refine he H' e' _ fun y H4 e4 ry => ?_
    have hD4 : H4 D = some (.lst ys) := e4 _ _ (e' _ _ hD)
    have hlen : ys.length ≤ 40000 := by
      have h1 := Paired.length pr
      have h2 := List.length_filterMap_le f (as.take i)
      have h3 : (as.take i).length ≤ as.length := by rw [List.length_take]; exact Nat.min_le_right _ _
      omega
    refine ⟨ys, hD4, sz_lt (by omega), (e.trans e').trans e4 |>.mut no, no, ys ++ [y], upd_same, ?_⟩
    rw [et, List.filterMap_append]
    have : [b].filterMap f = [c] := by simp [hf]
    rw [this]
    have t2 : Tle H4 (upd H4 D (.lst (ys ++ [y]))) := Tle.put hD4 fun _ z => by cases z
    exact paired_app (paired_map pr fun z c q => hm c _ _ _ (((Tle.of e').trans (Tle.of e4)).trans t2) q) (.cons (hm c _ _ _ t2 ry) .nil)
/-- over a tuple, over a list; the target a name -/
theorem lc_mapT (hm : ∀ c, Mono (R c)) (hx : SqT K H1 a xs) (hl : xs.length = as.length) (hz : as.length ≤ 40000) (hD : H1 D = none) (hw : ∀ x, wipe ((wipe σ vs).set j (some x)) vs = wipe σ vs)
    (step : ∀ (i : Nat) (x : V) (b : β), xs[i]? = some x → as[i]? = some b → ∀ H, Ex H1 H → (f b = none ∧ EvB tt ((wipe σ vs).set j (some x)) H false) ∨ ∃ c, f b = some c ∧ EvB tt ((wipe σ vs).set j (some x)) H true ∧ ∀ H', Ex H H' → EvP te ((wipe σ vs).set j (some x)) H' (R c))
    (done : ∀ H ys, Ex H1 H → H D = some (.lst ys) → Paired (fun y c => R c y H) ys (as.filterMap f) → Qd H) :
    ∃ W : Nat → Nat → Hp → Prop, (∃ m, W 0 m (upd H1 D (.lst []))) ∧ ∀ i m H, W i m H → ((Itt K a).stop i H ∧ Qd H) ∨ ((Itt K a).go i H ∧ ∃ Nx : Hp → Prop, (∀ H', Nx H' → ∃ m', m' < m ∧ W (i + 1) m' H') ∧ ∀ x H', (Itt K a).yld i H x H' → gName j x (wipe σ vs) H' fun σ2 H2 => wipe σ2 vs = wipe σ vs ∧ tt σ2 H2 fun b H3 =>
      if b = true then te σ2 H3 fun y H4 => ∃ acc, H4 D = some (.lst acc) ∧ acc.length < sizeLine ∧ Nx (upd H4 D (.lst (acc ++ [y]))) else Nx H3) := by
  refine lc_tup (xs := xs) (LcI R f as H1 D) ⟨Ex.new hD, hD, [], upd_same, .nil⟩ (fun i H _ p => ex_t p.ex hx) (fun i x H hx' p => ?_) fun H p => ?_
  · obtain ⟨b, hb⟩ : ∃ b, as[i]? = some b := ⟨_, List.getElem?_eq_getElem (by rw [← hl]; exact (List.getElem?_eq_some_iff.mp hx').1)⟩
    exact ⟨hw x, lci_step f R hm hb p hz (step i x b hx' hb H p.ex)⟩
  · obtain ⟨e, _, ys, h1, h2⟩ := p
    rw [hl, List.take_length] at h2
    exact done H ys e h1 h2
theorem lc_mapL (hm : ∀ c, Mono (R c)) (hx : SqL K H1 a xs) (hl : xs.length = as.length) (hz : as.length ≤ 40000) (hD : H1 D = none) (hw : ∀ x, wipe ((wipe σ vs).set j (some x)) vs = wipe σ vs)
    (step : ∀ (i : Nat) (x : V) (b : β), xs[i]? = some x → as[i]? = some b → ∀ H, Ex H1 H → (f b = none ∧ EvB tt ((wipe σ vs).set j (some x)) H false) ∨ ∃ c, f b = some c ∧ EvB tt ((wipe σ vs).set j (some x)) H true ∧ ∀ H', Ex H H' → EvP te ((wipe σ vs).set j (some x)) H' (R c))
    (done : ∀ H ys, Ex H1 H → H D = some (.lst ys) → Paired (fun y c => R c y H) ys (as.filterMap f) → Qd H) :
    ∃ W : Nat → Nat → Hp → Prop, (∃ m, W 0 m (upd H1 D (.lst []))) ∧ ∀ i m H, W i m H → ((Itl K a).stop i H ∧ Qd H) ∨ ((Itl K a).go i H ∧ ∃ Nx : Hp → Prop, (∀ H', Nx H' → ∃ m', m' < m ∧ W (i + 1) m' H') ∧ ∀ x H', (Itl K a).yld i H x H' → gName j x (wipe σ vs) H' fun σ2 H2 => wipe σ2 vs = wipe σ vs ∧ tt σ2 H2 fun b H3 =>
      if b = true then te σ2 H3 fun y H4 => ∃ acc, H4 D = some (.lst acc) ∧ acc.length < sizeLine ∧ Nx (upd H4 D (.lst (acc ++ [y]))) else Nx H3) := by
  refine lc_list (xs := xs) (LcI R f as H1 D) ⟨Ex.new hD, hD, [], upd_same, .nil⟩ (fun i H _ p => ex_l p.ex hx) (fun i x H hx' p => ?_) fun H p => ?_
  · obtain ⟨b, hb⟩ : ∃ b, as[i]? = some b := ⟨_, List.getElem?_eq_getElem (by rw [← hl]; exact (List.getElem?_eq_some_iff.mp hx').1)⟩
    exact ⟨hw x, lci_step f R hm hb p hz (step i x b hx' hb H p.ex)⟩
  · obtain ⟨e, _, ys, h1, h2⟩ := p
    rw [hl, List.take_length] at h2
    exact done H ys e h1 h2
theorem lc_mapR {n : Nat} (hm : ∀ c, Mono (R c)) (hl : n = as.length) (hz : as.length ≤ 40000) (hD : H1 D = none) (hw : ∀ x, wipe ((wipe σ vs).set j (some x)) vs = wipe σ vs)
    (step : ∀ (i : Nat) (b : β), i < n → as[i]? = some b → ∀ H, Ex H1 H → (f b = none ∧ EvB tt ((wipe σ vs).set j (some (.int (0 + (i : Nat))))) H false) ∨ ∃ c, f b = some c ∧ EvB tt ((wipe σ vs).set j (some (.int (0 + (i : Nat))))) H true ∧ ∀ H', Ex H H' → EvP te ((wipe σ vs).set j (some (.int (0 + (i : Nat))))) H' (R c))
    (done : ∀ H ys, Ex H1 H → H D = some (.lst ys) → Paired (fun y c => R c y H) ys (as.filterMap f) → Qd H) :
    ∃ W : Nat → Nat → Hp → Prop, (∃ m, W 0 m (upd H1 D (.lst []))) ∧ ∀ i m H, W i m H → ((Itr 0 n).stop i H ∧ Qd H) ∨ ((Itr 0 n).go i H ∧ ∃ Nx : Hp → Prop, (∀ H', Nx H' → ∃ m', m' < m ∧ W (i + 1) m' H') ∧ ∀ x H', (Itr 0 n).yld i H x H' → gName j x (wipe σ vs) H' fun σ2 H2 => wipe σ2 vs = wipe σ vs ∧ tt σ2 H2 fun b H3 =>
      if b = true then te σ2 H3 fun y H4 => ∃ acc, H4 D = some (.lst acc) ∧ acc.length < sizeLine ∧ Nx (upd H4 D (.lst (acc ++ [y]))) else Nx H3) := by
  refine lc_range (lo := 0) (n := n) (LcI R f as H1 D) ⟨Ex.new hD, hD, [], upd_same, .nil⟩ (fun i H hi p => ?_) fun H p => ?_
  · obtain ⟨b, hb⟩ : ∃ b, as[i]? = some b := ⟨_, List.getElem?_eq_getElem (by rw [← hl]; exact hi)⟩
    exact ⟨hw _, lci_step f R hm hb p hz (step i b hi hb H p.ex)⟩
  · obtain ⟨e, _, ys, h1, h2⟩ := p
    rw [hl, List.take_length] at h2
    exact done H ys e h1 h2
end
end FB

/-! ## KSpec -/
set_option Elab.async false
set_option linter.all false
set_option maxRecDepth 100000
set_option maxHeartbeats 4000000
namespace FB
open PySem PySem.Spec PyProof.Rows L2 Evl

/-- the built-in names that the text leaves alone, its constants -/
structure Bl (mg : Str → Option Value) : Prop where
  len : mg "len" = none
  range : mg "range" = none
  isi : mg "isinstance" = none
  int : mg "int" = none
  str : mg "str" = none
  tuple : mg "tuple" = none
  list : mg "list" = none
  bool : mg "bool" = none
  all : mg "all" = none
  sum : mg "sum" = none
  enum : mg "enumerate" = none
  zip : mg "zip" = none
  abs : mg "abs" = none
  max : mg "max" = none
  min : mg "min" = none
  letters : ∃ t, mg "LETTERS" = some (.str "abcdefghijklmnopqrstuvwxyz" t)
  mletters : ∃ t, mg "MOST_LETTERS" = some (.int 8 t)
  mbelts : ∃ t, mg "MOST_BELTS" = some (.int 6 t)
  mrooms : ∃ t, mg "MOST_ROOMS_machines" = some (.int 8 t)
  msize : ∃ t, mg "MOST_SIZE" = some (.int 12 t)
  mshort : ∃ t, mg "MOST_ROOMS_shortest" = some (.int 5 t)
theorem boot_all' : bootBuiltins "all" = some (.builtin "all") := by decide +kernel
theorem boot_sum' : bootBuiltins "sum" = some (.builtin "sum") := by decide +kernel
theorem boot_max' : bootBuiltins "max" = some (.builtin "max") := by decide +kernel
theorem boot_min' : bootBuiltins "min" = some (.builtin "min") := by decide +kernel
theorem boot_abs' : bootBuiltins "abs" = some (.builtin "abs") := by decide +kernel
theorem boot_isi' : bootBuiltins "isinstance" = some (.builtin "isinstance") := by decide +kernel
theorem boot_int' : bootBuiltins "int" = some (.type "int") := by decide +kernel
theorem boot_str' : bootBuiltins "str" = some (.type "str") := by decide +kernel
theorem boot_bool' : bootBuiltins "bool" = some (.type "bool") := by decide +kernel
theorem boot_tuple' : bootBuiltins "tuple" = some (.type "tuple") := by decide +kernel
theorem boot_list' : bootBuiltins "list" = some (.type "list") := by decide +kernel
theorem boot_len' : bootBuiltins "len" = some (.builtin "len") := by decide +kernel
theorem kit_ii : kitB "int" "int" = some true := by decide +kernel
theorem kit_ib : kitB "int" "bool" = some false := by decide +kernel
theorem kit_nb : kitB "NoneType" "bool" = some false := by decide +kernel
theorem kit_ss : kitB "str" "str" = some true := by decide +kernel
theorem kit_tt : kitB "tuple" "tuple" = some true := by decide +kernel
section
variable {X : Cx}
theorem pe_gl {x : Str} {v : V} {pos : Pos} (h : ∃ u, X.mg x = some u ∧ RelV v u) (hg : Gl X x := by rfl) (hd : (x == ("__debug__" : Str)) = false := by decide) : PE X (.Name x pos) (tC v) := by
  obtain ⟨u, hm, r⟩ := h
  exact pe_glob hg hm r hd
theorem gl_int {mg : Str → Option Value} {n : Int} {x : Str} (h : ∃ t, mg x = some (.int n t)) : ∃ u, mg x = some u ∧ RelV (.int n) u := let ⟨t, e⟩ := h; ⟨_, e, t, rfl⟩
theorem gl_str {mg : Str → Option Value} {z : Str} {x : Str} (h : ∃ t, mg x = some (.str z t)) : ∃ u, mg x = some u ∧ RelV (.str z) u := let ⟨t, e⟩ := h; ⟨_, e, t, rfl⟩
end

/-! ### holdings, in plain words -/
def shp (h : Hd) : List Nat := h.map List.length
def items (h : Hd) : List Str := h.flatten.filterMap id
structure Sm (h : Hd) : Prop where
  ne : 0 < h.length
  pos : KM.Pos (shp h)
  sum : (shp h).sum ≤ 5
def NameOk (x : Str) : Prop := 1 ≤ x.length ∧ x.length ≤ 8 ∧ ∀ c ∈ x.cps.toList, c ∈ ("abcdefghijklmnopqrstuvwxyz" : Str).cps.toList
def Nm (h : Hd) : Prop := ∀ x ∈ items h, NameOk x
def keepIf (W : List Str) : Option Str → Option Str
  | none => none
  | some x => if x ∈ W then some x else none
def filt (W : List Str) (h : Hd) : Hd := h.map fun r => r.map (keepIf W)
def splitL (w : List (Option Str)) : List Nat → Hd
  | [] => []
  | n :: ns => w.take n :: splitL (w.drop n) ns
structure Two (h g : Hd) : Prop where
  s1 : Sm h
  sh : shp h = shp g
  n1 : Nm h
  n2 : Nm g
  d1 : (items h).Nodup
  d2 : (items g).Nodup
  sub : ∀ x ∈ items g, x ∈ items h
/-- what a search hands back: None, a tuple of so many -/
def Came (r : Option Nat) (v : V) (H : Hp) : Prop := match r with
  | none => v = .non
  | some n => ∃ p cs, v = .ref p ∧ H p = some (.tup cs) ∧ cs.length = n
def optI : Option Nat → V
  | none => .non
  | some n => .int (n : Int)
/-- the way back from each entry -/
def Chn (H : Hp) (xs : List Ent) (E : List (Hd × Nat)) : Prop := ∀ t n, (t, n) ∈ E → ∃ v, lookE xs t = some v ∧
  (match n with
  | 0 => v = .non
  | m + 1 => ∃ p a c u, v = .ref p ∧ H p = some (.tup [.ref a, c]) ∧ IsH H (.ref a) u ∧ (u, m) ∈ E)
/-- the dice at d, its script at c -/
def DiceC (H : Hp) (d c : Addr) : Prop := ∃ (ns : List Int) (i w x y : Int), H d = some (.lst [.ref c, .int i, .int w, .int x, .int y]) ∧ H c = some (.lst (ns.map V.int)) ∧
  (∀ n ∈ ns, 0 ≤ n) ∧ 0 ≤ i ∧ 0 ≤ w ∧ 0 ≤ x ∧ x < 2 ^ 31 ∧ 0 ≤ y ∧ ns.length ≤ 63
def Dice (H : Hp) (d : Addr) : Prop := ∃ c, DiceC H d c
def Hd0 (H : Hp) (d c : Addr) : Prop := ∃ L, H d = some (.lst (.ref c :: L))
/-- all but the dice stays -/
def DEx (d : Addr) (H H' : Hp) : Prop := (∀ a o, a ≠ d → H a = some o → H' a = some o) ∧ ∃ c, Hd0 H d c ∧ DiceC H' d c
theorem DiceC.hd {H : Hp} {d c : Addr} (D : DiceC H d c) : Hd0 H d c := by
  obtain ⟨ns, i, w, x, y, h, _⟩ := D
  exact ⟨_, h⟩
theorem Hd0.uniq {H : Hp} {d c c' : Addr} (a : Hd0 H d c) (b : Hd0 H d c') : c = c' := by
  obtain ⟨L, h⟩ := a
  obtain ⟨L', h'⟩ := b
  rw [h] at h'
  have := HO.lst.inj (Option.some.inj h')
  have := (List.cons.inj this).1
  exact V.ref.inj this
theorem Hd0.ex {H H' : Hp} {d c : Addr} (a : Hd0 H d c) (e : Ex H H') : Hd0 H' d c := by
  obtain ⟨L, h⟩ := a
  exact ⟨L, e _ _ h⟩
theorem Dice.lst {H : Hp} {d : Addr} (D : Dice H d) : ∃ l, H d = some (.lst l) := by
  obtain ⟨c, ns, i, w, x, y, h, _⟩ := D
  exact ⟨_, h⟩
theorem DiceC.ex {H H' : Hp} {d c : Addr} (D : DiceC H d c) (e : Ex H H') : DiceC H' d c := by
  obtain ⟨ns, i, w, x, y, h, h2, r⟩ := D
  exact ⟨ns, i, w, x, y, e _ _ h, e _ _ h2, r⟩
theorem Dice.ex {H H' : Hp} {d : Addr} (D : Dice H d) (e : Ex H H') : Dice H' d := let ⟨c, D⟩ := D; ⟨c, D.ex e⟩
theorem DEx.dice {H H' : Hp} {d : Addr} (e : DEx d H H') : Dice H' d := let ⟨_, c, _, D⟩ := e; ⟨c, D⟩
theorem DEx.of {d : Addr} {H H' : Hp} (D : Dice H d) (e : Ex H H') : DEx d H H' := let ⟨c, D⟩ := D; ⟨fun a o _ h => e a o h, c, D.hd, D.ex e⟩
theorem DEx.trans {d : Addr} {H H1 H2 : Hp} (a : DEx d H H1) (b : DEx d H1 H2) : DEx d H H2 := by
  obtain ⟨a1, c, a2, a3⟩ := a
  obtain ⟨b1, c', b2, b3⟩ := b
  cases a3.hd.uniq b2
  exact ⟨fun x o hx h => b1 x o hx (a1 x o hx h), c, a2, b3⟩
theorem DEx.tle {d : Addr} {H H' : Hp} (D : Dice H d) (e : DEx d H H') : Tle H H' := fun a xs h => by
  obtain ⟨l, hl⟩ := D.lst
  exact e.1 a _ (ne_of h hl fun z => by cases z) h
theorem DEx.ex {d : Addr} {H H1 H2 : Hp} (a : DEx d H H1) (e : Ex H1 H2) : DEx d H H2 := a.trans (DEx.of a.dice e)
/-- a list that is not the dice -/
theorem DEx.new {d : Addr} {H H' : Hp} {p : Addr} {o : HO} (a : DEx d H H') (hp : H' p = none) : DEx d H (upd H' p o) := a.ex (Ex.new hp)
/-- a list made since is written -/
theorem DEx.mut {d : Addr} {H H' : Hp} {p : Addr} {o : HO} (D : Dice H d) (a : DEx d H H') (hp : H p = none) : DEx d H (upd H' p o) := by
  obtain ⟨a1, c, a2, a3⟩ := a
  obtain ⟨c', D⟩ := D
  cases D.hd.uniq a2
  obtain ⟨ns0, i0, w0, x0, y0, g1, g2, _⟩ := D
  obtain ⟨ns, i, w, x, y, h1, h2, r⟩ := a3
  have n1 : d ≠ p := fun z => by rw [z, hp] at g1; cases g1
  have n2 : c ≠ p := fun z => by rw [z, hp] at g2; cases g2
  exact ⟨fun b o' hb h => by rw [upd_ne fun z => by rw [z, hp] at h; cases h]; exact a1 b o' hb h, c, a2, ns, i, w, x, y, by rw [upd_ne n1]; exact h1, by rw [upd_ne n2]; exact h2, r⟩

/-! ### the promises -/
def sp_is_integer : Sp := fun vs H Q _ => ∃ i, vs = [.int i] ∧ Q (.bl true) H
def sp_is_name : Sp := fun vs H Q _ => ∃ x, vs = [.str x] ∧ NameOk x ∧ ∀ H', Ex H H' → Q (.bl true) H'
def sp_are_lengths : Sp := fun vs H Q _ => ∃ (a : Addr) (ns : List Int), vs = [.ref a] ∧ H a = some (.tup (ns.map V.int)) ∧ (1 ≤ ns.length ∧ ns.length ≤ 6) ∧ (∀ n ∈ ns, 1 ≤ n ∧ n ≤ 8) ∧ ns.sum ≤ 12 ∧ ∀ H', Ex H H' → Q (.bl true) H'
def sp_is_item : Sp := fun vs H Q _ => ∃ x, vs = [it x] ∧ Q (.bl true) H
def sp_is_holding : Sp := fun vs H Q _ => ∃ v h, vs = [v] ∧ IsH H v h ∧ Sm h ∧ ∀ H', Ex H H' → Q (.bl true) H'
def sp_put_in : Sp := fun vs H Q _ => ∃ v h b x, vs = [v, .int (b : Nat), it x] ∧ IsH H v h ∧ Sm h ∧ b < h.length ∧ ∀ u H', Ex H H' → IsH H' u (KM.put h b x) → Q u H'
def sp_items_of : Sp := fun vs H Q _ => ∃ v h, vs = [v] ∧ IsH H v h ∧ Sm h ∧ ∀ l H', Ex H H' → H l = none → H' l = some (.lst ((items h).map V.str)) → Q (.ref l) H'
def sp_are_names_once : Sp := fun vs H Q _ => ∃ v h, vs = [v] ∧ IsH H v h ∧ Sm h ∧ Nm h ∧ (items h).Nodup ∧ ∀ H', Ex H H' → Q (.bl true) H'
def sp_check : Sp := fun vs H Q _ => ∃ v u h g, vs = [v, u] ∧ IsH H v h ∧ IsH H u g ∧ Two h g ∧ ∀ H', Ex H H' → Q .non H'
def sp_fits : Sp := fun vs H Q _ => ∃ v u h g, vs = [v, u] ∧ IsH H v h ∧ IsH H u g ∧ Sm h ∧ shp h = shp g ∧ ∀ b H', Ex H H' → (b = true ↔ KM.Fits g h) → Q (.bl b) H'
def IsPr (H : Hp) (y : V) (t : Hd) : Prop := ∃ p c th, y = .ref p ∧ H p = some (.tup [c, th]) ∧ IsH H th t
def sp_carried_on : Sp := fun vs H Q _ => ∃ v h, vs = [v] ∧ IsH H v h ∧ Sm h ∧ ∀ l ys H', Ex H H' → H l = none → H' l = some (.lst ys) → Paired (IsPr H') ys (KM.nb h) → Q (.ref l) H'
def sp_way_back (P : Program) (w : World) : Sp := fun vs H Q _ => ∃ d v xs E t n, vs = [.ref d, v] ∧ DN P w H d xs ∧ Chn H xs E ∧ (t, n) ∈ E ∧ n ≤ 8000 ∧ IsH H v t ∧ ∀ u H', Ex H H' → Came (some n) u H' → Q u H'
def sp_fewest : Sp := fun vs H Q _ => ∃ v u h g, vs = [v, u] ∧ IsH H v h ∧ IsH H u g ∧ Two h g ∧ ∀ r z H', KM.Ans (KM.Fits g) (filt (items g) h) r → Ex H H' → Came r z H' → Q z H'
def sp_least : Sp := fun vs H Q _ => ∃ v u h g, vs = [v, u] ∧ IsH H v h ∧ IsH H u g ∧ Two h g ∧ ∀ r H', KM.Ans (KM.Fits g) (filt (items g) h) r → Ex H H' → Q (optI r) H'
def sp_L_dice (K : PySem.W.Frag) : Sp := fun vs H Q _ => ∃ (a : Addr) (ns : List Int), vs = [.ref a] ∧ SqL K H a (ns.map V.int) ∧ ns.length ≤ 63 ∧ ∀ d H', Ex H H' → H d = none → Dice H' d → Q (.ref d) H'
def sp_L_draw : Sp := fun vs H Q _ => ∃ d n, vs = [.ref d, .int n] ∧ Dice H d ∧ 0 < n ∧ n < 1073741824 ∧ ∀ i H', 0 ≤ i → i < n → DEx d H H' → Q (.int i) H'
def sp_L_names : Sp := fun vs H Q _ => ∃ d n, vs = [.ref d, .int (n : Nat)] ∧ Dice H d ∧ n ≤ 5 ∧ ∀ (l : Addr) (xs : List Str) H', DEx d H H' → H l = none → l ≠ d → H' l = some (.lst (xs.map V.str)) → xs.length = n → xs.Nodup → (∀ x ∈ xs, NameOk x) → Q (.ref l) H'
def sp_L_alike : Sp := fun vs H Q _ => ∃ v u r q, vs = [v, u] ∧ IsRow H v r ∧ IsRow H u q ∧ r.length = q.length ∧ 0 < r.length ∧ r.length ≤ 100 ∧ (∀ x, some x ∈ r ∨ some x ∈ q → NameOk x) ∧ ∀ b H', Ex H H' → (b = true ↔ KM.Rot r q) → Q (.bl b) H'
def sp_L_belts : Sp := fun vs H Q _ => ∃ d n, vs = [.ref d, .int (n : Nat)] ∧ Dice H d ∧ 1 ≤ n ∧ n ≤ 5 ∧ ∀ (p : Addr) (ns : List Nat) H', DEx d H H' → H' p = some (.tup (ns.map fun k : Nat => V.int (k : Int))) → KM.Pos ns → ns.sum = n → Q (.ref p) H'
def sp_L_put : Sp := sp_put_in
def sp_L_split (K : PySem.W.Frag) : Sp := fun vs H Q _ => ∃ (l p : Addr) (w : List (Option Str)) (ns : List Nat), vs = [.ref l, .ref p] ∧ H l = some (.lst (w.map it)) ∧
  (SqL K H p (ns.map fun k : Nat => V.int (k : Int)) ∨ SqT K H p (ns.map fun k : Nat => V.int (k : Int))) ∧ w.length ≤ 100 ∧ ns.length ≤ 100 ∧ ns.sum ≤ 100 ∧ ∀ v H', Ex H H' → IsH H' v (splitL w ns) → Q v H'
def sp_L_items : Sp := sp_items_of
def sp_L_fits : Sp := sp_fits
def sp_L_two_holdings : Sp := fun vs H Q _ => ∃ (d : Addr) (n : Nat) (l : Addr) (xs : List Str), vs = [.ref d, .int (n : Nat), .ref l] ∧ Dice H d ∧ l ≠ d ∧ H l = some (.lst (xs.map V.str)) ∧ xs.length = n ∧ 1 ≤ n ∧ n ≤ 5 ∧ xs.Nodup ∧ (∀ x ∈ xs, NameOk x) ∧
  ∀ p v u h g H', DEx d H H' → H' p = some (.tup [v, u]) → IsH H' v h → IsH H' u g → Two h g → (shp h).sum = n → Q (.ref p) H'
def sp_L_steps_to : Sp := sp_least
def sp_L_full_goal : Sp := fun vs H Q _ => ∃ d v h, vs = [.ref d, v] ∧ Dice H d ∧ IsH H v h ∧ Sm h ∧ (none ∉ h.flatten) ∧ ∀ u g H', DEx d H H' → IsH H' u g → shp h = shp g → g.flatten.Perm h.flatten → Q u H'
def sp_law (K : PySem.W.Frag) : Sp := fun vs H Q _ => ∃ (a : Addr) (ns : List Int), vs = [.ref a] ∧ SqL K H a (ns.map V.int) ∧ ns.length ≤ 63 ∧ ∀ H', Q (.bl true) H'

/-! ### reading holdings -/
theorem paired_get {α β : Type} {R : α → β → Prop} : ∀ {l : List α} {m : List β} {i : Nat} {y : β}, Paired R l m → m[i]? = some y → ∃ x, l[i]? = some x ∧ R x y
  | _, _, _, _, .nil, e => by simp at e
  | _, _, 0, _, .cons r _, e => by simp at e; subst e; exact ⟨_, rfl, r⟩
  | _, _, i + 1, _, .cons _ t, e => by
    obtain ⟨x, h1, h2⟩ := paired_get (i := i) t (by simpa using e)
    exact ⟨x, by simpa using h1, h2⟩
theorem paired_getL {α β : Type} {R : α → β → Prop} : ∀ {l : List α} {m : List β} {i : Nat} {x : α}, Paired R l m → l[i]? = some x → ∃ y, m[i]? = some y ∧ R x y
  | _, _, _, _, .nil, e => by simp at e
  | _, _, 0, _, .cons r _, e => by simp at e; subst e; exact ⟨_, rfl, r⟩
  | _, _, i + 1, _, .cons _ t, e => by
    obtain ⟨x, h1, h2⟩ := paired_getL (i := i) t (by simpa using e)
    exact ⟨x, by simpa using h1, h2⟩
theorem paired_of {α β : Type} {R : α → β → Prop} : ∀ {l : List α} {m : List β}, l.length = m.length → (∀ (i : Nat) x y, l[i]? = some x → m[i]? = some y → R x y) → Paired R l m
  | [], [], _, _ => .nil
  | [], _ :: _, h, _ => by simp at h
  | _ :: _, [], h, _ => by simp at h
  | x :: l, y :: m, h, f => .cons (f 0 x y rfl rfl) (paired_of (by simpa using h) fun i a b h1 h2 => f (i + 1) a b (by simpa using h1) (by simpa using h2))
theorem Sm.len {h : Hd} (s : Sm h) : h.length ≤ 5 := by
  have key : ∀ l : List Nat, KM.Pos l → l.length ≤ l.sum := by
    intro l
    induction l with
    | nil => intro _; exact Nat.le_refl _
    | cons a l ih =>
      intro p
      have h1 := p a List.mem_cons_self
      have h2 := ih fun n hn => p n (List.mem_cons_of_mem _ hn)
      simp only [List.length_cons, List.sum_cons]; omega
  have := key (shp h) s.pos
  have := s.sum
  simp only [shp, List.length_map] at *
  omega
theorem le_sum : ∀ {l : List Nat} {n : Nat}, n ∈ l → n ≤ l.sum
  | a :: l, n, h => by
    rcases List.mem_cons.mp h with e | h
    · subst e; simp
    · have := le_sum h; simp; omega
theorem Sm.row {h : Hd} (s : Sm h) {b : Nat} {r : List (Option Str)} (e : h[b]? = some r) : 0 < r.length ∧ r.length ≤ 5 := by
  have m : r.length ∈ shp h := List.mem_map.mpr ⟨r, List.mem_of_getElem? e, rfl⟩
  exact ⟨s.pos _ m, Nat.le_trans (le_sum m) s.sum⟩
theorem Sm.of_shp {h g : Hd} (s : Sm h) (e : shp h = shp g) : Sm g := by
  refine ⟨?_, by rw [← e]; exact s.pos, by rw [← e]; exact s.sum⟩
  have := congrArg List.length e
  simp only [shp, List.length_map] at this
  rw [← this]; exact s.ne
theorem Sm.flat {h : Hd} (s : Sm h) : h.flatten.length ≤ 5 := by rw [List.length_flatten]; exact s.sum
theorem shp_len {h g : Hd} (e : shp h = shp g) : h.length = g.length := by
  have := congrArg List.length e
  simpa only [shp, List.length_map] using this
theorem shp_row {h g : Hd} (e : shp h = shp g) {b : Nat} {r q : List (Option Str)} (h1 : h[b]? = some r) (h2 : g[b]? = some q) : r.length = q.length := by
  have := congrArg (fun l => l[b]?) e
  simp only [shp, List.getElem?_map, h1, h2, Option.map_some] at this
  exact Option.some.inj this
theorem Two.s2 {h g : Hd} (t : Two h g) : Sm g := t.s1.of_shp t.sh
/-- a holding's tuple, its rows -/
theorem IsH.open_ {H : Hp} {v : V} {h : Hd} (i : IsH H v h) : ∃ a vs, v = .ref a ∧ H a = some (.tup vs) ∧ vs.length = h.length ∧ (∀ (b : Nat) r, h[b]? = some r → ∃ c, vs[b]? = some (.ref c) ∧ H c = some (.tup (r.map it))) := by
  obtain ⟨a, vs, e, e2, p⟩ := i
  refine ⟨a, vs, e, e2, Paired.length p, fun b r hb => ?_⟩
  obtain ⟨x, hx, c, rfl, hc⟩ := paired_get p hb
  exact ⟨c, hx, hc⟩
theorem atI_of {α : Type} {xs : List α} {j : Nat} {v : α} (h : xs[j]? = some v) : atI xs (j : Int) = some v := atI_nat h
theorem get_it {r : List (Option Str)} {i : Nat} {x : Option Str} (h : r[i]? = some x) : (r.map it)[i]? = some (it x) := by rw [List.getElem?_map, h]; rfl
end FB

/-! ## KD1 -/
set_option Elab.async false
set_option linter.all false
set_option maxRecDepth 100000
set_option maxHeartbeats 4000000
namespace FB
open PySem PySem.Spec PyProof.Rows L2 Evl

section
variable {tt : TT} {te : TE} {vs : List Nat} {j : Nat} {σ : L2.St} {H1 : Hp} {D : Addr} {Qd : Hp → Prop} {γ : Type} (f : Nat → Option γ) (R : γ → V → Hp → Prop)
/-- a comprehension over a text -/
theorem lc_mapS {z : Str} (hm : ∀ c, Mono (R c)) (hz : z.cps.toList.length ≤ 40000) (hD : H1 D = none) (hw : ∀ x, wipe ((wipe σ vs).set j (some x)) vs = wipe σ vs)
    (step : ∀ (i : Nat) (b : Nat), z.cps.toList[i]? = some b → ∀ H, Ex H1 H → (f b = none ∧ EvB tt ((wipe σ vs).set j (some (.str ⟨#[b]⟩))) H false) ∨ ∃ c, f b = some c ∧ EvB tt ((wipe σ vs).set j (some (.str ⟨#[b]⟩))) H true ∧ ∀ H', Ex H H' → EvP te ((wipe σ vs).set j (some (.str ⟨#[b]⟩))) H' (R c))
    (done : ∀ H ys, Ex H1 H → H D = some (.lst ys) → Paired (fun y c => R c y H) ys (z.cps.toList.filterMap f) → Qd H) :
    ∃ W : Nat → Nat → Hp → Prop, (∃ m, W 0 m (upd H1 D (.lst []))) ∧ ∀ i m H, W i m H → ((Its z).stop i H ∧ Qd H) ∨ ((Its z).go i H ∧ ∃ Nx : Hp → Prop, (∀ H', Nx H' → ∃ m', m' < m ∧ W (i + 1) m' H') ∧ ∀ x H', (Its z).yld i H x H' → gName j x (wipe σ vs) H' fun σ2 H2 => wipe σ2 vs = wipe σ vs ∧ tt σ2 H2 fun b H3 =>
      if b = true then te σ2 H3 fun y H4 => ∃ acc, H4 D = some (.lst acc) ∧ acc.length < sizeLine ∧ Nx (upd H4 D (.lst (acc ++ [y]))) else Nx H3) := by
  refine ⟨fun i m H => m = z.cps.size - i ∧ i ≤ z.cps.size ∧ LcI R f z.cps.toList H1 D i H, ⟨_, rfl, Nat.zero_le _, Ex.new hD, hD, [], upd_same, .nil⟩, ?_⟩
  rintro i m H ⟨rfl, hi, p⟩
  by_cases hlt : i < z.cps.size
  · refine .inr ⟨hlt, LcI R f z.cps.toList H1 D (i + 1), fun H' p' => ⟨_, by omega, rfl, hlt, p'⟩, fun x H' y => ?_⟩
    obtain ⟨rfl, b, hb, rfl⟩ := y
    have hb' : z.cps.toList[i]? = some b := by simpa using hb
    exact ⟨hw _, lci_step f R hm hb' p hz (step i b hb' _ p.ex)⟩
  · have e : i = z.cps.size := by omega
    subst e
    obtain ⟨e, _, ys, h1, h2⟩ := p
    have et : z.cps.toList.take z.cps.size = z.cps.toList := List.take_of_length_le (by simp)
    rw [et] at h2
    exact .inl ⟨Nat.le_refl _, done H ys e h1 h2⟩
end
theorem paired_eqs {ys : List V} {bs : List V} {H : Hp} : Paired (fun y c => y = c) ys bs → ys = bs := by
  intro p
  induction p with
  | nil => rfl
  | cons a b ih => rw [a, ih]
section
variable {X : Cx}
theorem call_lenS : CallR X (.builtin "len") (rLenS X.K) := call_len_seq
def rTupS (K : PySem.W.Frag) : List V → Hp → VK → Prop := fun xs H Q => ∃ p ys, xs = [.ref p] ∧ ((SqL K H p ys ∧ ∀ l, H l = none → Q (.ref l) (upd H l (.tup ys))) ∨ (SqT K H p ys ∧ Q (.ref p) H))
theorem call_tupS : CallR X (.type "tuple") (rTupS X.K) := call_tuple_of
theorem call_listS : CallR X (.type "list") (rListS X.K) := call_list_of
end
theorem bl_t {p : Prop} [Decidable p] (h : p) : V.bl (decide p) = V.bl true := by rw [decide_eq_true h]
theorem bl_f {p : Prop} [Decidable p] (h : ¬ p) : V.bl (decide p) = V.bl false := by rw [decide_eq_false h]
/-- a list of so many True -/
theorem all_true {α : Type} : ∀ l : List α, (l.map fun _ => V.bl true) = (List.replicate l.length true).map V.bl
  | [] => rfl
  | x :: l => by simp [List.replicate_succ, all_true l]
theorem all_rep (n : Nat) : (List.replicate n true).all id = true := by
  rw [List.all_eq_true]
  intro x hx
  rw [List.eq_of_mem_replicate hx]; rfl
theorem fm_some {α β : Type} (g : α → β) : ∀ l : List α, (l.filterMap fun x => some (g x)) = l.map g
  | [] => rfl
  | x :: l => by simp [fm_some g l]

section
variable {P : Program} {w : World} {K : PySem.W.Frag} {mg : Str → Option Value} {base : Heap}
/-! ### is_integer -/
theorem ok_is_integer {f : Addr} {fd : FuncData} (F : Fun K "is_integer" "is_integer" s_is_integer f fd) (B : Bl mg) : FnOk P w K mg base CX0 1 f fd ["thing"] sp_is_integer := by
  refine F.ok sc_is_integer (fun vs H Q E h => ?_) (fun cdv A outer s H vs Q E hr h => ?_)
  · obtain ⟨i, rfl, _⟩ := h; rfl
  · obtain ⟨i, rfl, q⟩ := h
    refine ⟨_, pss_one (ps_ret (pe_and
      (pe_callB call_isi (by rfl) B.isi boot_isi' (pa_cons (pv 0) (pa_cons (pe_bltn (v := .ty "int") (by rfl) B.int boot_int' rfl) pa_nil)))
      (pe_one (pe_not (pe_callB call_isi (by rfl) B.isi boot_isi' (pa_cons (pv 0) (pa_cons (pe_bltn (v := .ty "bool") (by rfl) B.bool boot_bool' rfl) pa_nil))))))), ?_⟩
    refine ⟨.int i, rfl, .int i, .ty "int", _, _, true, rfl, .ty "int", .base (.int i), kit_ty kit_ii, true, rfl, iteT ?_⟩
    exact ⟨.int i, rfl, .int i, .ty "bool", _, _, false, rfl, .ty "bool", .base (.int i), kit_ty kit_ib, false, rfl, q⟩
/-! ### is_item -/
theorem ok_is_item {f : Addr} {fd : FuncData} (F : Fun K "is_item" "is_item" s_is_item f fd) (B : Bl mg) (cI : Cl P w K mg base 1 "is_integer" sp_is_integer) : FnOk P w K mg base CX0 2 f fd ["thing"] sp_is_item := by
  refine F.ok sc_is_item (fun vs H Q E h => ?_) (fun cdv A outer s H vs Q E hr h => ?_)
  · obtain ⟨i, rfl, _⟩ := h; rfl
  · obtain ⟨x, rfl, q⟩ := h
    refine ⟨_, pss_one (ps_ret (pe_or (pe_cmp (pc_isN (pv 0)) rfl)
      (pe_or (pe_callB call_isi (by rfl) B.isi boot_isi' (pa_cons (pv 0) (pa_cons (pe_bltn (v := .ty "str") (by rfl) B.str boot_str' rfl) pa_nil)))
      (pe_one (pe_cl cI hr (pa_cons (pv 0) pa_nil)))))), ?_⟩
    cases x with
    | none => exact ⟨.non, rfl, true, rfl, iteT q⟩
    | some x => exact ⟨.str x, rfl, false, rfl, iteF ⟨.str x, rfl, .str x, .ty "str", _, _, true, rfl, .ty "str", .base (.str x), kit_ty kit_ss, true, rfl, iteT q⟩⟩
/-! ### is_name -/
theorem ok_is_name {f : Addr} {fd : FuncData} (F : Fun K "is_name" "is_name" s_is_name f fd) (B : Bl mg) : FnOk P w K mg base CX0 1 f fd ["thing"] sp_is_name := by
  refine F.ok sc_is_name (fun vs H Q E h => ?_) (fun cdv A outer s H vs Q E hr h => ?_)
  · obtain ⟨i, rfl, _⟩ := h; rfl
  · obtain ⟨x, rfl, ⟨h1, h2, h3⟩, q⟩ := h
    refine ⟨_, pss_cons (ps_if (PW.pt (pw_or (pt_not (pt_val (pe_callB call_isi (by rfl) B.isi boot_isi' (pa_cons (pv 0) (pa_cons (pe_bltn (v := .ty "str") (by rfl) B.str boot_str' rfl) pa_nil)))))
        (pw_or1 (pt_not (pt_chain op_le op_le pe_int (pe_callB call_len_str (by rfl) B.len boot_len' (pa_cons (pv 0) pa_nil)) (pe_gl (gl_int B.mletters))))))) (pss_one (ps_ret pe_bl)) pss_nil)
      (pss_one (ps_ret (pe_callB (cr_all rfl) (by rfl) B.all boot_all' (pa_cons
        (pe_lc (own := [("sign", 1)]) (g := gName 1) (tt := tYes) rfl sc_is_name.nd (pi_str (pv 0)) (blkOk_by (own := [("sign", 1)]) (N := n_is_name) (sc := defScope s_is_name) (by decide +kernel)) (fun _ _ _ _ _ => pg_name (i := 1) sc_is_name.nd rfl (Or.inl rfl)) (fun _ _ _ _ _ => pts_nil)
          (fun _ _ _ _ _ => pe_cmpR op_in_sign (pv 1) (pe_gl (gl_str B.letters)) rfl)) pa_nil)))), ?_⟩
    refine ⟨.str x, rfl, .str x, .ty "str", _, _, true, rfl, .ty "str", .base (.str x), kit_ty kit_ss, true, rfl, iteF ?_⟩
    refine ⟨.str x, rfl, x, rfl, Nat.le_trans h2 (by decide), _, _, rfl, rfl, true, bl_t (by omega), iteT ⟨_, _, rfl, rfl, true, bl_t (by omega), iteF ?_⟩⟩
    refine ⟨.str x, rfl, x, rfl, fun D hD => lc_mapS (fun _ => some (V.bl true)) (fun c v _ => v = c) (fun c => mono_eq) (Nat.le_trans h2 (by decide)) hD (fun _ => rfl) (fun i b hb H1 e1 => .inr ⟨_, rfl, evb_yes, fun H2 e2 Q' q' => ?_⟩) fun H1 ys e1 hl p => ?_⟩
    · refine ⟨.str ⟨#[b]⟩, rfl, b, "abcdefghijklmnopqrstuvwxyz", rfl, rfl, q' _ _ (Ex.refl _) ?_⟩
      rw [decide_eq_true (h3 b (List.mem_of_getElem? hb))]
    · rw [fm_some] at p
      have ey := paired_eqs (H := H1) p
      rw [ey, all_true] at hl
      refine ⟨D, _, rfl, sq_of hl, ?_⟩
      rw [all_rep]
      exact q _ e1
end
end FB

/-! ## KComp -/
set_option Elab.async false
set_option linter.all false
set_option maxRecDepth 100000
set_option maxHeartbeats 4000000
namespace FB
open PySem PySem.Spec PyProof.Rows L2 Evl
/-! ### comprehensions over anything, by what is drawn -/
structure Draw (J : It) (H1 : Hp) (n : Nat) (X : Nat → V → Hp → Prop) : Prop where
  go : ∀ i H, Ex H1 H → i < n → J.go i H
  stop : ∀ H, Ex H1 H → J.stop n H
  yld : ∀ i H x H', Ex H1 H → i < n → J.yld i H x H' → Ex H H' ∧ X i x H'
theorem draw_tup {K : PySem.W.Frag} {a : Addr} {xs : List V} {H1 : Hp} (h : SqT K H1 a xs) : Draw (Itt K a) H1 xs.length (fun i x _ => xs[i]? = some x) where
  go := fun i H e hi => ⟨xs, xs[i], ex_t e h, List.getElem?_eq_getElem hi⟩
  stop := fun H e => ⟨xs, ex_t e h, Nat.le_refl _⟩
  yld := fun i H x H' e hi y => by
    obtain ⟨rfl, y⟩ := y
    exact ⟨Ex.refl _, y xs (ex_t e h)⟩
theorem draw_rng {n : Nat} {H1 : Hp} : Draw (Itr 0 n) H1 n (fun i x _ => x = .int (i : Nat)) where
  go := fun i H e hi => hi
  stop := fun H e => Nat.le_refl _
  yld := fun i H x H' e hi y => by
    obtain ⟨rfl, rfl⟩ := y
    exact ⟨Ex.refl _, by simp⟩
theorem draw_enum {K : PySem.W.Frag} {a : Addr} {xs : List V} {H1 : Hp} (h : SqT K H1 a xs) : Draw (IteT K a) H1 xs.length (fun i v H => ∃ T x, v = .ref T ∧ xs[i]? = some x ∧ H T = some (.tup [.int (i : Nat), x])) where
  go := fun i H e hi => ⟨xs, xs[i], ex_t e h, List.getElem?_eq_getElem hi⟩
  stop := fun H e => ⟨xs, ex_t e h, Nat.le_refl _⟩
  yld := fun i H x H' e hi y => by
    obtain ⟨T, z, rfl, hT, rfl, y⟩ := y
    exact ⟨Ex.new hT, T, z, rfl, y xs (ex_t e h), upd_same⟩
theorem draw_zip {K : PySem.W.Frag} {a b : Addr} {xs ys : List V} {H1 : Hp} (h : SqT K H1 a xs) (h' : SqT K H1 b ys) (hl : xs.length = ys.length) :
    Draw (RZ.ItzT K a b) H1 xs.length (fun i v H => ∃ T x y, v = .ref T ∧ xs[i]? = some x ∧ ys[i]? = some y ∧ H T = some (.tup [x, y])) where
  go := fun i H e hi => ⟨xs, ys, xs[i], ys[i], ex_t e h, ex_t e h', List.getElem?_eq_getElem hi, List.getElem?_eq_getElem (by omega)⟩
  stop := fun H e => ⟨xs, ys, ex_t e h, ex_t e h', .inl (Nat.le_refl _)⟩
  yld := fun i H x H' e hi y => by
    obtain ⟨T, z, z', rfl, hT, rfl, y, y'⟩ := y
    exact ⟨Ex.new hT, T, z, z', rfl, y xs (ex_t e h), y' ys (ex_t e h'), upd_same⟩
section
variable {J : It} {g g1 : TG} {tt tt1 : TT} {te : TE} {wi1 : TI} {vs vs1 : List Nat} {σ : L2.St} {H1 : Hp} {D : Addr} {Qd : Hp → Prop}
variable {β γ δ : Type} {as : List β} (f : β → Option γ) (R : γ → V → Hp → Prop) {X : Nat → V → Hp → Prop} (Good : β → L2.St → Prop)
theorem lc_gen (hm : ∀ c, Mono (R c)) (dr : Draw J H1 as.length X) (hz : as.length ≤ 40000) (hD : H1 D = none)
    (step : ∀ (i : Nat) (x : V) (b : β) (H : Hp), as[i]? = some b → Ex H1 H → X i x H → ∀ Qc : L2.St → Hp → Prop, (∀ σ2 H2, Ex H H2 → wipe σ2 vs = wipe σ vs → Good b σ2 → Qc σ2 H2) → g x (wipe σ vs) H Qc)
    (body : ∀ (b : β) σ2 H, b ∈ as → Ex H1 H → Good b σ2 → (f b = none ∧ EvB tt σ2 H false) ∨ ∃ c, f b = some c ∧ EvB tt σ2 H true ∧ ∀ H', Ex H H' → EvP te σ2 H' (R c))
    (done : ∀ H ys, Ex H1 H → H D = some (.lst ys) → Paired (fun y c => R c y H) ys (as.filterMap f) → Qd H) :
    ∃ W : Nat → Nat → Hp → Prop, (∃ m, W 0 m (upd H1 D (.lst []))) ∧ ∀ i m H, W i m H → (J.stop i H ∧ Qd H) ∨ (J.go i H ∧ ∃ Nx : Hp → Prop, (∀ H', Nx H' → ∃ m', m' < m ∧ W (i + 1) m' H') ∧ ∀ x H', J.yld i H x H' → g x (wipe σ vs) H' fun σ2 H2 => wipe σ2 vs = wipe σ vs ∧ tt σ2 H2 fun b H3 =>
      if b = true then te σ2 H3 fun y H4 => ∃ acc, H4 D = some (.lst acc) ∧ acc.length < sizeLine ∧ Nx (upd H4 D (.lst (acc ++ [y]))) else Nx H3) := by
  refine ⟨fun i m H => m = as.length - i ∧ i ≤ as.length ∧ LcI R f as H1 D i H, ⟨_, rfl, Nat.zero_le _, Ex.new hD, hD, [], upd_same, .nil⟩, ?_⟩
  rintro i m H ⟨rfl, hi, p⟩
  by_cases hlt : i < as.length
  · refine .inr ⟨dr.go i H p.ex hlt, LcI R f as H1 D (i + 1), fun H' p' => ⟨_, by omega, rfl, hlt, p'⟩, fun x H' y => ?_⟩
    obtain ⟨e', hX⟩ := dr.yld i H x H' p.ex hlt y
    have hb := List.getElem?_eq_getElem hlt
    refine step i x as[i] H' hb (p.ex.trans e') hX _ fun σ2 H2 e2 hw hg => ⟨hw, ?_⟩
    have p2 : LcI R f as H1 D i H2 := by
      obtain ⟨e, no, ys, h1, h2⟩ := p
      have e3 := e'.trans e2
      exact ⟨e.trans e3, no, ys, e3 _ _ h1, paired_map h2 fun y c q => hm c _ _ _ (Tle.of e3) q⟩
    exact lci_step f R hm hb p2 hz (body as[i] σ2 H2 (List.getElem_mem hlt) p2.ex hg)
  · have e : i = as.length := by omega
    subst e
    obtain ⟨e, _, ys, h1, h2⟩ := p
    rw [List.take_length] at h2
    exact .inl ⟨dr.stop H e, done H ys e h1 h2⟩

structure LcI2 (R : γ → V → Hp → Prop) (H1 : Hp) (D : Addr) (cs : List γ) (H : Hp) : Prop where
  ex : Ex H1 H
  no : H1 D = none
  ls : ∃ ys, H D = some (.lst ys) ∧ Paired (fun y c => R c y H) ys cs
theorem LcI2.go {R : γ → V → Hp → Prop} {cs : List γ} (hm : ∀ c, Mono (R c)) {H H2 : Hp} (p : LcI2 R H1 D cs H) (e : Ex H H2) : LcI2 R H1 D cs H2 := by
  obtain ⟨e1, no, ys, h1, h2⟩ := p
  exact ⟨e1.trans e, no, ys, e _ _ h1, paired_map h2 fun y c q => hm c _ _ _ (Tle.of e) q⟩
theorem LcI2.add {R : γ → V → Hp → Prop} {cs : List γ} {c : γ} (hm : ∀ c, Mono (R c)) {H : Hp} {y : V} (p : LcI2 R H1 D cs H) (r : R c y H) (hz : cs.length ≤ 50000) : ∃ acc, H D = some (.lst acc) ∧ acc.length < sizeLine ∧ LcI2 R H1 D (cs ++ [c]) (upd H D (.lst (acc ++ [y]))) := by
  obtain ⟨e1, no, ys, h1, h2⟩ := p
  have t2 : Tle H (upd H D (.lst (ys ++ [y]))) := Tle.put h1 fun _ z => by cases z
  refine ⟨ys, h1, sz_lt (by have := Paired.length h2; omega), e1.mut no, no, _, upd_same, ?_⟩
  exact paired_app (paired_map h2 fun z c q => hm c _ _ _ t2 q) (.cons (hm c _ _ _ t2 r) .nil)
theorem lc2_gen {j1 : Nat} (inner : β → List δ) (fi : β → δ → Option γ) (X1 : β → δ → V → Prop) (hm : ∀ c, Mono (R c)) (dr : Draw J H1 as.length X) (hz : ((as.map fun b => (inner b).length).sum) ≤ 40000) (hD : H1 D = none)
    (step : ∀ (i : Nat) (x : V) (b : β) (H : Hp), as[i]? = some b → Ex H1 H → X i x H → ∀ Qc : L2.St → Hp → Prop, (∀ σ2 H2, Ex H H2 → wipe σ2 vs = wipe σ vs → Good b σ2 → Qc σ2 H2) → g x (wipe σ vs) H Qc)
    (mid : ∀ (b : β) σ2 H, b ∈ as → Ex H1 H → Good b σ2 → ∀ Qc : It → Hp → Prop, (∀ J1 H4 Y, Ex H H4 → Draw J1 H1 (inner b).length Y → (∀ j d x H', (inner b)[j]? = some d → Y j x H' → X1 b d x) → Qc J1 H4) → wi1 σ2 H Qc)
    (hw1 : ∀ b σ2 x, Good b σ2 → wipe ((wipe σ2 vs1).set j1 (some x)) vs1 = wipe σ2 vs1)
    (body : ∀ (b : β) (d : δ) x σ2 H, b ∈ as → d ∈ inner b → Ex H1 H → Good b σ2 → X1 b d x → (fi b d = none ∧ EvB tt1 ((wipe σ2 vs1).set j1 (some x)) H false) ∨ ∃ c, fi b d = some c ∧ EvB tt1 ((wipe σ2 vs1).set j1 (some x)) H true ∧ ∀ H', Ex H H' → EvP te ((wipe σ2 vs1).set j1 (some x)) H' (R c))
    (done : ∀ H ys, Ex H1 H → H D = some (.lst ys) → Paired (fun y c => R c y H) ys (as.flatMap fun b => (inner b).filterMap (fi b)) → Qd H) :
    ∃ W : Nat → Nat → Hp → Prop, (∃ m, W 0 m (upd H1 D (.lst []))) ∧ ∀ i m H, W i m H → (J.stop i H ∧ Qd H) ∨ (J.go i H ∧ ∃ Nx : Hp → Prop, (∀ H', Nx H' → ∃ m', m' < m ∧ W (i + 1) m' H') ∧ ∀ x H', J.yld i H x H' → g x (wipe σ vs) H' fun σ2 H2 => wipe σ2 vs = wipe σ vs ∧ tYes σ2 H2 fun b H3 =>
      if b = true then wi1 σ2 H3 fun J1 H4 => ∃ W1 : Nat → Nat → Hp → Prop, (∃ m, W1 0 m H4) ∧ ∀ j k H, W1 j k H → (J1.stop j H ∧ Nx H) ∨ (J1.go j H ∧ ∃ Nx1 : Hp → Prop, (∀ H', Nx1 H' → ∃ k', k' < k ∧ W1 (j + 1) k' H') ∧ ∀ x H', J1.yld j H x H' → gName j1 x (wipe σ2 vs1) H' fun σ3 H5 => wipe σ3 vs1 = wipe σ2 vs1 ∧ tt1 σ3 H5 fun b H6 =>
        if b = true then te σ3 H6 fun y H7 => ∃ acc, H7 D = some (.lst acc) ∧ acc.length < sizeLine ∧ Nx1 (upd H7 D (.lst (acc ++ [y]))) else Nx1 H6) else Nx H3) := by
  let outs : Nat → List γ := fun i => (as.take i).flatMap fun b => (inner b).filterMap (fi b)
  have outlen : ∀ i, (outs i).length ≤ 40000 := by
    intro i
    refine Nat.le_trans ?_ hz
    have key : ∀ l : List β, (l.flatMap fun b => (inner b).filterMap (fi b)).length ≤ (l.map fun b => (inner b).length).sum := by
      intro l
      induction l with
      | nil => exact Nat.le_refl _
      | cons b l ih =>
        have := List.length_filterMap_le (fi b) (inner b)
        simp only [List.flatMap_cons, List.length_append, List.map_cons, List.sum_cons]
        omega
    refine Nat.le_trans (key _) ?_
    have key2 : ∀ (l : List β) (i : Nat), ((l.take i).map fun b => (inner b).length).sum ≤ (l.map fun b => (inner b).length).sum := by
      intro l
      induction l with
      | nil => intro i; simp
      | cons b l ih =>
        intro i
        cases i with
        | zero => simp
        | succ i => have := ih i; simp only [List.take_succ_cons, List.map_cons, List.sum_cons]; omega
    exact key2 as i
  refine ⟨fun i m H => m = as.length - i ∧ i ≤ as.length ∧ LcI2 R H1 D (outs i) H, ⟨_, rfl, Nat.zero_le _, Ex.new hD, hD, [], upd_same, .nil⟩, ?_⟩
  rintro i m H ⟨rfl, hi, p⟩
  by_cases hlt : i < as.length
  · refine .inr ⟨dr.go i H p.ex hlt, LcI2 R H1 D (outs (i + 1)), fun H' p' => ⟨_, by omega, rfl, hlt, p'⟩, fun x H' y => ?_⟩
    obtain ⟨e', hX⟩ := dr.yld i H x H' p.ex hlt y
    have hb := List.getElem?_eq_getElem hlt
    have mb : as[i] ∈ as := List.getElem_mem hlt
    generalize as[i] = b at hb mb
    have eo : outs (i + 1) = outs i ++ (inner b).filterMap (fi b) := by
      show List.flatMap _ _ = _
      rw [List.take_add_one, hb, Option.toList_some, List.flatMap_append]
      simp [outs]
    refine step i x b H' hb (p.ex.trans e') hX _ fun σ2 H2 e2 hw hg => ⟨hw, ?_⟩
    have p2 := (p.go hm e').go hm e2
    refine evb_yes _ fun H3 e3 => ?_
    rw [if_pos rfl]
    have p3 := p2.go hm e3
    refine mid b σ2 H3 mb p3.ex hg _ (fun J1 H4 Y e4 d1 hY => ?_)
    have p4 := p3.go hm e4
    refine ⟨fun j k H => k = (inner b).length - j ∧ j ≤ (inner b).length ∧ LcI2 R H1 D (outs i ++ ((inner b).take j).filterMap (fi b)) H, ⟨_, rfl, Nat.zero_le _, by simpa using p4⟩, ?_⟩
    rintro j k H5 ⟨rfl, hj, p5⟩
    by_cases hjl : j < (inner b).length
    · refine .inr ⟨d1.go j H5 p5.ex hjl, fun H' => LcI2 R H1 D (outs i ++ ((inner b).take (j + 1)).filterMap (fi b)) H', fun H' p' => ⟨_, by omega, rfl, hjl, p'⟩, fun x5 H6 y5 => ?_⟩
      obtain ⟨e6, hY6⟩ := d1.yld j H5 x5 H6 p5.ex hjl y5
      have hd := List.getElem?_eq_getElem hjl
      have md : (inner b)[j] ∈ inner b := List.getElem_mem hjl
      generalize (inner b)[j] = dd at hd md
      have hX1 := hY j dd x5 H6 hd hY6
      have p6 := p5.go hm e6
      have et : (inner b).take (j + 1) = (inner b).take j ++ [dd] := by rw [List.take_add_one, hd]; rfl
      refine ⟨hw1 b σ2 x5 hg, ?_⟩
      rcases body b dd x5 σ2 H6 mb md p6.ex hg hX1 with ⟨hf, ht⟩ | ⟨c, hf, ht, he⟩
      · refine ht _ fun H7 e7 => ?_
        rw [if_neg Bool.false_ne_true, et, List.filterMap_append]
        have : [dd].filterMap (fi b) = [] := by simp [hf]
        rw [this, List.append_nil]
        exact p6.go hm e7
      · refine ht _ fun H7 e7 => ?_
        rw [if_pos rfl]
        refine he H7 e7 _ fun yv H8 e8 ry => ?_
        have p8 := (p6.go hm e7).go hm e8
        rw [et, List.filterMap_append]
        have : [dd].filterMap (fi b) = [c] := by simp [hf]
        rw [this, ← List.append_assoc]
        refine p8.add hm ry ?_
        have h1 := outlen (i + 1)
        rw [eo, List.length_append] at h1
        have h2 := outlen i
        have h3 := List.length_filterMap_le (fi b) ((inner b).take j)
        have h4 : (inner b).length ≤ 40000 := Nat.le_trans (le_sum (List.mem_map.mpr ⟨b, mb, rfl⟩)) hz
        rw [List.length_append]
        have h5 : (((inner b).take j).filterMap (fi b)).length ≤ ((inner b).filterMap (fi b)).length := by
          have := (List.take_sublist j (inner b)).filterMap (fi b)
          exact this.length_le
        omega
    · have e : j = (inner b).length := by omega
      subst e
      refine .inl ⟨d1.stop H5 p5.ex, ?_⟩
      show LcI2 R H1 D (outs (i + 1)) H5
      rw [eo]
      simpa using p5
  · have e : i = as.length := by omega
    subst e
    obtain ⟨e, _, ys, h1, h2⟩ := p
    simp only [outs, List.take_length] at h2
    exact .inl ⟨dr.stop H e, done H ys e h1 h2⟩
end
end FB

/-! ## KD2 -/
set_option Elab.async false
set_option linter.all false
set_option maxRecDepth 100000
set_option maxHeartbeats 4000000
namespace FB
open PySem PySem.Spec PyProof.Rows L2 Evl
theorem len_tup {K : PySem.W.Frag} {H : Hp} {a : Addr} {xs : List V} (h : H a = some (.tup xs)) : SqL K H a xs ∨ SqT K H a xs := .inr (st_of h)
theorem sum_cast : ∀ l : List Nat, ((l.map fun n : Nat => (n : Int)).sum) = (l.sum : Int)
  | [] => rfl
  | n :: l => by simp [sum_cast l]
section
variable {P : Program} {w : World} {K : PySem.W.Frag} {mg : Str → Option Value} {base : Heap}
/-! ### are_lengths -/
theorem ok_are_lengths {f : Addr} {fd : FuncData} (F : Fun K "are_lengths" "are_lengths" s_are_lengths f fd) (B : Bl mg) (cI : Cl P w K mg base 1 "is_integer" sp_is_integer) : FnOk P w K mg base CX0 2 f fd ["thing"] sp_are_lengths := by
  refine F.ok sc_are_lengths (fun vs H Q E h => ?_) (fun cdv A outer s H vs Q E hr h => ?_)
  · obtain ⟨i, _, rfl, _⟩ := h; rfl
  · obtain ⟨a, ns, rfl, ha, ⟨h1, h2⟩, h3, h4, q⟩ := h
    refine ⟨_, pss_cons (ps_if (PW.pt (pw_or (pt_not (pt_val (pe_callB call_isi (by rfl) B.isi boot_isi' (pa_cons (pv 0) (pa_cons (pe_bltn (v := .ty "tuple") (by rfl) B.tuple boot_tuple' rfl) pa_nil)))))
        (pw_or1 (pt_not (pt_chain op_le op_le pe_int (pe_callB call_lenS (by rfl) B.len boot_len' (pa_cons (pv 0) pa_nil)) (pe_gl (gl_int B.mbelts))))))) (pss_one (ps_ret pe_bl)) pss_nil)
      (pss_cons (ps_if (pt_not (pt_val (pe_callB (cr_all rfl) (by rfl) B.all boot_all' (pa_cons
        (pe_lc (own := [("length", 1)]) (g := gName 1) (tt := tYes) rfl sc_are_lengths.nd (pi_tup (pv 0)) (blkOk_by (own := [("length", 1)]) (N := n_are_lengths) (sc := defScope s_are_lengths) (by decide +kernel)) (fun _ _ _ _ _ => pg_name (i := 1) sc_are_lengths.nd rfl (Or.inl rfl)) (fun _ _ _ _ _ => pts_nil)
          (fun _ _ _ _ _ => pe_and (pe_cl cI hr (pa_cons (pv 1) pa_nil)) (pe_one (pe_chain op_le op_le pe_int (pv 1) (pe_gl (gl_int B.mrooms)))))) pa_nil)))) (pss_one (ps_ret pe_bl)) pss_nil)
      (pss_one (ps_ret (pe_cmpR op_le (pe_callB (cr_sumT rfl) (by rfl) B.sum boot_sum' (pa_cons (pv 0) pa_nil)) (pe_gl (gl_int B.msize)) (nomark _))))), ?_⟩
    refine ⟨.ref a, rfl, .ref a, .ty "tuple", _, _, true, rfl, .ty "tuple", .base (.tup ha), kit_ty kit_tt, true, rfl, iteF ?_⟩
    refine ⟨.ref a, rfl, a, _, rfl, len_tup ha, _, _, rfl, rfl, true, bl_t (by rw [List.length_map]; omega), iteT ⟨_, _, rfl, rfl, true, bl_t (by rw [List.length_map]; omega), iteF ?_⟩⟩
    refine ⟨.ref a, rfl, a, rfl, ⟨_, st_of ha⟩, fun D hD => lc_mapT (as := ns) (fun _ => some (V.bl true)) (fun c v _ => v = c) (fun c => mono_eq) (st_of ha) (by simp) (by omega) hD (fun _ => rfl) (fun i x b hx hb H1 e1 => .inr ⟨_, rfl, evb_yes, fun H2 e2 Q' q' => ?_⟩) fun H1 ys e1 hl p => ?_⟩
    · rw [List.getElem?_map, hb] at hx
      cases hx
      have hb' := h3 b (List.mem_of_getElem? hb)
      exact ⟨.int b, rfl, b, rfl, true, rfl, iteT ⟨.int b, rfl, _, _, rfl, rfl, true, bl_t hb'.1, iteT ⟨_, _, rfl, rfl, q' _ _ (Ex.refl _) (bl_t hb'.2)⟩⟩⟩
    · rw [fm_some] at p
      have ey := paired_eqs (H := H1) p
      rw [ey, all_true] at hl
      refine ⟨D, _, rfl, sq_of hl, _, rfl, ?_⟩
      rw [all_rep]
      refine iteF ?_
      refine ⟨.ref a, rfl, a, ns, rfl, st_of (e1 _ _ ha), _, _, rfl, rfl, ?_⟩
      show Q (V.bl (decide (ns.sum ≤ 12))) H1
      rw [decide_eq_true h4]
      exact q _ e1
/-! ### is_holding -/
theorem ok_is_holding {f : Addr} {fd : FuncData} (F : Fun K "is_holding" "is_holding" s_is_holding f fd) (B : Bl mg) (cI : Cl P w K mg base 2 "is_item" sp_is_item) (cL : Cl P w K mg base 2 "are_lengths" sp_are_lengths) : FnOk P w K mg base CX0 3 f fd ["thing"] sp_is_holding := by
  refine F.ok sc_is_holding (fun vs H Q E h => ?_) (fun cdv A outer s H vs Q E hr h => ?_)
  · obtain ⟨i, _, rfl, _⟩ := h; rfl
  · obtain ⟨v, h, rfl, ih, sm, q⟩ := h
    have hl5 := sm.len
    obtain ⟨a, vs, rfl, ha, hlen, rows⟩ := ih.open_
    refine ⟨_, pss_cons (ps_if (PW.pt (pw_or (pt_not (pt_val (pe_callB call_isi (by rfl) B.isi boot_isi' (pa_cons (pv 0) (pa_cons (pe_bltn (v := .ty "tuple") (by rfl) B.tuple boot_tuple' rfl) pa_nil)))))
        (pw_or1 (pt_not (pt_val (pe_callB (cr_all rfl) (by rfl) B.all boot_all' (pa_cons
          (pe_lc (own := [("row", 1)]) (g := gName 1) (tt := tYes) rfl sc_is_holding.nd (pi_tup (pv 0)) (blkOk_by (own := [("row", 1)]) (N := n_is_holding) (sc := defScope s_is_holding) (by decide +kernel)) (fun _ _ _ _ _ => pg_name (i := 1) sc_is_holding.nd rfl (Or.inl rfl)) (fun _ _ _ _ _ => pts_nil)
            (fun _ _ _ _ _ => pe_callB (r := rIsi K) call_isi (by rfl) B.isi boot_isi' (pa_cons (pv 1) (pa_cons (pe_bltn (v := .ty "tuple") (by rfl) B.tuple boot_tuple' rfl) pa_nil)))) pa_nil))))))) (pss_one (ps_ret pe_bl)) pss_nil)
      (pss_cons (ps_if (pt_not (pt_val (pe_callB (cr_all rfl) (by rfl) B.all boot_all' (pa_cons
          (pe_lc (own := [("row", 1)]) (g := gName 1) (tt := tYes) rfl sc_is_holding.nd (pi_tup (pv 0)) (blkOk_by (own := [("row", 1)]) (N := n_is_holding) (sc := defScope s_is_holding) (by decide +kernel)) (fun _ _ _ _ _ => pg_name (i := 1) sc_is_holding.nd rfl (Or.inl rfl)) (fun _ _ _ _ _ => pts_nil)
            (fun _ _ _ _ _ => pe_callB (r := rAll K) (cr_all rfl) (by rfl) B.all boot_all' (pa_cons
              (pe_lc (wi := iTup K (tVar 1)) (own := [("item", 2)]) (g := gName 2) (tt := tYes) rfl sc_is_holding.nd (pi_tup (pv 1)) (blkOk_by (own := [("item", 2)]) (N := n_is_holding) (by rfl)) (fun _ _ _ _ _ => pg_name (i := 2) sc_is_holding.nd rfl (Or.inl rfl)) (fun _ _ _ _ _ => pts_nil)
                (fun _ _ _ _ _ => pe_cl cI hr (pa_cons (pv 2) pa_nil))) pa_nil))) pa_nil)))) (pss_one (ps_ret pe_bl)) pss_nil)
      (pss_one (ps_ret (pe_cl cL hr (pa_cons (pe_callTy call_tupS (by rfl) B.tuple boot_tuple' (pa_cons
          (pe_lc (own := [("row", 1)]) (g := gName 1) (tt := tYes) rfl sc_is_holding.nd (pi_tup (pv 0)) (blkOk_by (own := [("row", 1)]) (N := n_is_holding) (sc := defScope s_is_holding) (by decide +kernel)) (fun _ _ _ _ _ => pg_name (i := 1) sc_is_holding.nd rfl (Or.inl rfl)) (fun _ _ _ _ _ => pts_nil)
            (fun _ _ _ _ _ => pe_callB (r := rLenS K) call_lenS (by rfl) B.len boot_len' (pa_cons (pv 1) pa_nil))) pa_nil)) pa_nil))))), ?_⟩
    have row_at : ∀ {i : Nat} {x : V} {r : List (Option Str)}, vs[i]? = some x → h[i]? = some r → ∃ c, x = .ref c ∧ H c = some (.tup (r.map it)) := fun {i x r} hx hr => by
      obtain ⟨c, h1, h2⟩ := rows i r hr
      rw [hx] at h1
      exact ⟨c, Option.some.inj h1, h2⟩
    refine ⟨.ref a, rfl, .ref a, .ty "tuple", _, _, true, rfl, .ty "tuple", .base (.tup ha), kit_ty kit_tt, true, rfl, iteF ?_⟩
    refine ⟨.ref a, rfl, a, rfl, ⟨_, st_of ha⟩, fun D hD => lc_mapT (as := h) (fun _ => some (V.bl true)) (fun c v _ => v = c) (fun c => mono_eq) (st_of ha) hlen (by omega) hD (fun _ => rfl) (fun i x r hx hb H1 e1 => .inr ⟨_, rfl, evb_yes, fun H2 e2 Q' q' => ?_⟩) fun H1 ys e1 hl p => ?_⟩
    · obtain ⟨c, rfl, hc⟩ := row_at hx hb
      exact ⟨.ref c, rfl, .ref c, .ty "tuple", _, _, true, rfl, .ty "tuple", .base (.tup (e2 _ _ (e1 _ _ hc))), kit_ty kit_tt, q' _ _ (Ex.refl _) rfl⟩
    rw [fm_some] at p
    have ey := paired_eqs (H := H1) p
    rw [ey, all_true] at hl
    refine ⟨D, _, rfl, sq_of hl, _, rfl, ?_⟩
    rw [all_rep]
    refine iteF ?_
    have ha1 := e1 _ _ ha
    refine ⟨.ref a, rfl, a, rfl, ⟨_, st_of ha1⟩, fun D2 hD2 => lc_mapT (as := h) (fun _ => some (V.bl true)) (fun c v _ => v = c) (fun c => mono_eq) (st_of ha1) hlen (by omega) hD2 (fun _ => rfl) (fun i x r hx hb H2 e2 => .inr ⟨_, rfl, evb_yes, fun H3 e3 Q' q' => ?_⟩) fun H2 ys2 e2 hl2 p2 => ?_⟩
    · obtain ⟨c, rfl, hc⟩ := row_at hx hb
      have hc3 := e3 _ _ (e2 _ _ (e1 _ _ hc))
      have hr5 := sm.row hb
      refine ⟨.ref c, rfl, c, rfl, ⟨_, st_of hc3⟩, fun D3 hD3 => lc_mapT (as := r) (fun _ => some (V.bl true)) (fun c v _ => v = c) (fun c => mono_eq) (st_of hc3) (by simp) (by omega) hD3 (fun _ => rfl) (fun i x y hx hy H4 e4 => .inr ⟨_, rfl, evb_yes, fun H5 e5 Q2 q2 => ?_⟩) fun H4 ys4 e4 hl4 p4 => ?_⟩
      · rw [get_it hy] at hx
        cases hx
        exact ⟨it y, rfl, y, rfl, q2 _ _ (Ex.refl _) rfl⟩
      · rw [fm_some] at p4
        have ey := paired_eqs (H := H4) p4
        rw [ey, all_true] at hl4
        refine ⟨D3, _, rfl, sq_of hl4, ?_⟩
        rw [all_rep]
        exact q' _ _ e4 rfl
    rw [fm_some] at p2
    have ey2 := paired_eqs (H := H2) p2
    rw [ey2, all_true] at hl2
    refine ⟨D2, _, rfl, sq_of hl2, _, rfl, ?_⟩
    rw [all_rep]
    refine iteF ?_
    have ha2 := e2 _ _ ha1
    refine ⟨.ref a, rfl, a, rfl, ⟨_, st_of ha2⟩, fun D3 hD3 => lc_mapT (as := h) (fun r => some (V.int (r.length : Int))) (fun c v _ => v = c) (fun c => mono_eq) (st_of ha2) hlen (by omega) hD3 (fun _ => rfl) (fun i x r hx hb H3 e3 => .inr ⟨_, rfl, evb_yes, fun H4 e4 Q' q' => ?_⟩) fun H3 ys3 e3 hl3 p3 => ?_⟩
    · obtain ⟨c, rfl, hc⟩ := row_at hx hb
      have hc4 := e4 _ _ (e3 _ _ (e2 _ _ (e1 _ _ hc)))
      exact ⟨.ref c, rfl, c, _, rfl, len_tup hc4, q' _ _ (Ex.refl _) (by rw [List.length_map])⟩
    rw [fm_some] at p3
    have ey3 := paired_eqs (H := H3) p3
    have e33 : (h.map fun r => V.int (r.length : Int)) = ((shp h).map fun n : Nat => (n : Int)).map V.int := by simp [shp]
    rw [ey3, e33] at hl3
    refine ⟨D3, _, rfl, .inl ⟨sq_of hl3, fun l hl => ?_⟩⟩
    refine ⟨l, _, rfl, upd_same, ?_, fun n hn => ?_, ?_, fun H' e' => q _ (e1.trans (e2.trans (e3.trans ((Ex.new hl).trans e'))))⟩
    · simp [shp]; exact ⟨sm.ne, by omega⟩
    · obtain ⟨k, hk, rfl⟩ := List.mem_map.mp hn
      have h1 := sm.pos k hk
      have h2 := le_sum hk
      have h3 := sm.sum
      omega
    · rw [sum_cast]
      have := sm.sum
      omega
/-! ### items_of -/
theorem items_eq (h : Hd) : (h.flatMap fun r => r.filterMap fun x => x.map V.str) = (items h).map V.str := by
  unfold items
  induction h with
  | nil => rfl
  | cons r h ih =>
    have e : ∀ l : List (Option Str), l.filterMap (fun x => x.map V.str) = (l.filterMap id).map V.str := by
      intro l
      induction l with
      | nil => rfl
      | cons x l ih2 => cases x <;> simp [ih2]
    rw [List.flatMap_cons, ih, e]
    simp only [List.flatten_cons, List.filterMap_append, List.map_append]
theorem ok_items_of {f : Addr} {fd : FuncData} (F : Fun K "items_of" "items_of" s_items_of f fd) : FnOk P w K mg base CX0 1 f fd ["holding"] sp_items_of := by
  refine F.ok sc_items_of (fun vs H Q E h => ?_) (fun cdv A outer s H vs Q E hr h => ?_)
  · obtain ⟨i, _, rfl, _⟩ := h; rfl
  · obtain ⟨v, h, rfl, ih, sm, q⟩ := h
    have hl5 := sm.len
    obtain ⟨a, vs, rfl, ha, hlen, rows⟩ := ih.open_
    refine ⟨_, pss_one (ps_ret (pe_lc2 (wi1 := iTup K (tVar 1)) (own := [("row", 1), ("item", 2)]) (vs1 := [2]) (g := gName 1) (tt := tYes) (g1 := gName 2) rfl sc_items_of.nd (pi_tup (pv 0))
      (blkOk_by (own := [("row", 1), ("item", 2)]) (N := n_items_of) (sc := defScope s_items_of) (by decide +kernel)) (by decide) (fun _ _ _ _ _ => pg_name (i := 1) sc_items_of.nd rfl (Or.inl rfl)) (fun _ _ _ _ _ => pts_nil)
      (fun _ _ _ _ _ => pi_tup (pv 1)) (fun _ _ _ _ _ => pg_name (i := 2) sc_items_of.nd rfl (Or.inl rfl)) (fun _ _ _ _ _ => pts_one (pt_cmp (pc_notN (pv 2)))) (fun _ _ _ _ _ => pv 2))), ?_⟩
    refine ⟨.ref a, rfl, a, rfl, ⟨_, st_of ha⟩, fun D hD => ?_⟩
    have dr := draw_tup (K := K) (st_of (K := K) ha)
    rw [hlen] at dr
    refine lc2_gen (as := h) (fun c v _ => v = c) (fun r σ2 => ∃ c, σ2 = [some (.ref a), some (.ref c), none] ∧ H c = some (.tup (r.map it))) (fun r => r) (fun r x => x.map V.str) (fun r x v => v = it x) (fun c => mono_eq) dr ?_ hD ?_ ?_ ?_ ?_ ?_
    · exact Nat.le_trans sm.sum (by omega)
    · intro i x r H1 hr e1 hx Qc hQ
      obtain ⟨c, hc, hct⟩ := rows i r hr
      rw [hx] at hc
      cases hc
      exact hQ _ _ (Ex.refl _) rfl ⟨c, rfl, hct⟩
    · rintro r σ2 H1 hr e1 ⟨c, rfl, hc⟩ Qc hQ
      have d2 := draw_tup (K := K) (st_of (K := K) hc)
      rw [List.length_map] at d2
      refine ⟨.ref c, rfl, c, rfl, ⟨_, st_of (e1 _ _ hc)⟩, hQ _ _ _ (Ex.refl _) d2 fun j d x H' hd hx => ?_⟩
      rw [get_it hd] at hx
      exact (Option.some.inj hx).symm
    · rintro r σ2 x ⟨c, rfl, _⟩; rfl
    · rintro r d x σ2 H1 hr hd e1 ⟨c, rfl, hc⟩ rfl
      cases d with
      | none => exact .inl ⟨rfl, fun Q' q' => ⟨.non, rfl, false, rfl, q' _ (Ex.refl _)⟩⟩
      | some d => exact .inr ⟨_, rfl, fun Q' q' => ⟨.str d, rfl, true, rfl, q' _ (Ex.refl _)⟩, fun H2 e2 Q' q' => ⟨.str d, rfl, q' _ _ (Ex.refl _) rfl⟩⟩
    · intro H1 ys e1 hl p
      rw [items_eq] at p
      rw [paired_eqs (H := H1) p] at hl
      exact q D H1 e1 hD hl
end
end FB

/-! ## KD3 -/
set_option Elab.async false
set_option linter.all false
set_option maxRecDepth 100000
set_option maxHeartbeats 4000000
namespace FB
open PySem PySem.Spec PyProof.Rows L2 Evl
theorem flat_strs' (ys : List Str) : (ys.map V.str).all flatV = true := by
  rw [List.all_eq_true]
  intro x hx
  obtain ⟨y, _, rfl⟩ := List.mem_map.mp hx
  rfl
theorem inV_str {x : Str} : ∀ {ys : List Str}, inV (.str x) (ys.map V.str) = decide (x ∈ ys)
  | [] => by simp [inV]
  | y :: ys => by
    have ih := inV_str (x := x) (ys := ys)
    unfold inV at ih ⊢
    rw [List.map_cons, List.any_cons, ih]
    have e : eqV (V.str y) (V.str x) = decide (x = y) := by
      by_cases h : x = y
      · subst h; simp [eqV]
      · have h' : ¬ y = x := fun z => h z.symm
        simp [eqV, h, h']
    rw [e]
    simp
theorem inV_non {ys : List Str} : inV .non (ys.map V.str) = false := by
  unfold inV
  rw [List.any_eq_false]
  intro x hx
  obtain ⟨y, _, rfl⟩ := List.mem_map.mp hx
  simp [eqV]
theorem dp_ints {K : PySem.W.Frag} {H : Hp} : ∀ ns : List Int, DpAll K H (ns.map V.int) (ns.map PyData.int)
  | [] => .nil
  | n :: ns => .cons (.int n) (dp_ints ns)
theorem lay_ints : ∀ ns : List Int, PyData.canLayAll0 (ns.map PyData.int) = true
  | [] => rfl
  | n :: ns => by simp [PyData.canLayAll0, PyData.canLay0, lay_ints ns]
theorem shaped_ints (ns : List Int) : SeqAt.shaped (.list (ns.map PyData.int)) = true := by
  unfold SeqAt.shaped
  have h1 : PyData.canLay0 (.list (ns.map PyData.int)) = true := by simp only [PyData.canLay0, lay_ints]
  have h2 : PyData.depth (.list (ns.map PyData.int)) ≤ 64 := by simp only [PyData.depth, depth_ints]; omega
  rw [h1, decide_eq_true h2]; rfl
section
variable {P : Program} {w : World} {K : PySem.W.Frag} {mg : Str → Option Value} {base : Heap}
/-! ### are_names_once -/
theorem ok_are_names_once {f : Addr} {fd : FuncData} (F : Fun K "are_names_once" "are_names_once" s_are_names_once f fd) (B : Bl mg) (cI : Cl P w K mg base 1 "items_of" sp_items_of) (cN : Cl P w K mg base 1 "is_name" sp_is_name) : FnOk P w K mg base CX0 2 f fd ["holding"] sp_are_names_once := by
  refine F.ok sc_are_names_once (fun vs H Q E h => ?_) (fun cdv A outer s H vs Q E hr h => ?_)
  · obtain ⟨i, _, rfl, _⟩ := h; rfl
  · obtain ⟨v, h, rfl, ih, sm, nm, nd, q⟩ := h
    have hlen : (items h).length ≤ 5 := Nat.le_trans (List.length_filterMap_le _ _) sm.flat
    refine ⟨_, pss_cons (ps_set (i := 1) sc_are_names_once.nd rfl (.inl rfl) (pe_cl cI hr (pa_cons (pv 0) pa_nil)))
      (pss_one (ps_ret (pe_and (pe_callB (cr_all rfl) (by rfl) B.all boot_all' (pa_cons
        (pe_lc (own := [("item", 2)]) (g := gName 2) (tt := tYes) rfl sc_are_names_once.nd (pi_list (pv 1)) (blkOk_by (own := [("item", 2)]) (N := n_are_names_once) (sc := defScope s_are_names_once) (by decide +kernel)) (fun _ _ _ _ _ => pg_name (i := 2) sc_are_names_once.nd rfl (Or.inl rfl)) (fun _ _ _ _ _ => pts_nil)
          (fun _ _ _ _ _ => pe_cl cN hr (pa_cons (pv 2) pa_nil))) pa_nil))
        (pe_one (pe_cmpR op_eq (pe_callB call_lenK (by rfl) B.len boot_len' (pa_cons (pe_scT rfl (pv 1) rfl (by decide +kernel) (by decide +kernel) (by decide +kernel) rfl) pa_nil)) (pe_callB call_lenS (by rfl) B.len boot_len' (pa_cons (pv 1) pa_nil)) (nomark _)))))), ?_⟩
    refine ⟨v, rfl, v, h, rfl, ih, sm, fun l H1 e1 hl0 hl => ?_⟩
    refine ⟨.ref l, rfl, l, rfl, ⟨_, sq_of hl⟩, fun D hD => lc_mapL (as := items h) (fun _ => some (V.bl true)) (fun c v _ => v = c) (fun c => mono_eq) (sq_of hl) (by simp) (by omega) hD (fun _ => rfl) (fun i x y hx hy H2 e2 => .inr ⟨_, rfl, evb_yes, fun H3 e3 Q' q' => ?_⟩) fun H2 ys e2 hl2 p => ?_⟩
    · rw [List.getElem?_map, hy] at hx
      cases hx
      exact ⟨.str y, rfl, y, rfl, nm y (List.mem_of_getElem? hy), fun H4 e4 => q' _ _ e4 rfl⟩
    · rw [fm_some] at p
      have ey := paired_eqs (H := H2) p
      rw [ey, all_true] at hl2
      refine ⟨D, _, rfl, sq_of hl2, _, rfl, ?_⟩
      rw [all_rep]
      refine iteT ?_
      have hl3 := e2 _ _ hl
      refine ⟨.ref l, rfl, l, items h, rfl, sq_of hl3, nd, by omega, fun p hp => ?_⟩
      refine ⟨p, _, _, rfl, upd_same, by omega, ?_⟩
      refine ⟨.ref l, rfl, l, _, rfl, .inl (sq_of (Ex.new hp _ _ hl3)), rfl, ?_⟩
      rw [List.length_map]
      rw [decide_eq_true rfl]
      exact q _ (e1.trans (e2.trans (Ex.new hp)))
/-! ### check_holdings -/
theorem ok_check_holdings {f : Addr} {fd : FuncData} (F : Fun K "check_holdings" "check_holdings" s_check_holdings f fd) (B : Bl mg) (cH : Cl P w K mg base 3 "is_holding" sp_is_holding) (cN : Cl P w K mg base 2 "are_names_once" sp_are_names_once) (cI : Cl P w K mg base 1 "items_of" sp_items_of) : FnOk P w K mg base CX0 4 f fd ["begin", "goal"] sp_check := by
  refine F.ok sc_check_holdings (fun vs H Q E h => ?_) (fun cdv A outer s H vs Q E hr h => ?_)
  · obtain ⟨i, _, _, _, rfl, _⟩ := h; rfl
  · obtain ⟨v, u, h, g, rfl, ih, ig, tw, q⟩ := h
    have lenh : (items h).length ≤ 5 := Nat.le_trans (List.length_filterMap_le _ _) tw.s1.flat
    have leng : (items g).length ≤ 5 := Nat.le_trans (List.length_filterMap_le _ _) tw.s2.flat
    refine ⟨_, pss_cons (ps_for PassesOwn.never rfl (pi_tup (pe_tup (pa_cons (pv 0) (pa_cons (pv 1) pa_nil)))) (pg_name (i := 2) sc_check_holdings.nd rfl (.inl rfl))
        (pss_one (ps_if (PW.pt (pw_or (pt_not (pt_val (pe_cl cH hr (pa_cons (pv 2) pa_nil)))) (pw_or1 (pt_not (pt_val (pe_cl cN hr (pa_cons (pv 2) pa_nil))))))) (pss_one ps_never) pss_nil)))
      (pss_cons (ps_if (pt_cmpR (op_neD hr.units)
          (pe_lc (own := [("row", 4)]) (g := gName 4) (tt := tYes) rfl sc_check_holdings.nd (pi_tup (pv 0)) (blkOk_by (own := [("row", 4)]) (N := n_check_holdings) (sc := defScope s_check_holdings) (by decide +kernel)) (fun _ _ _ _ _ => pg_name (i := 4) sc_check_holdings.nd rfl (Or.inl rfl)) (fun _ _ _ _ _ => pts_nil)
            (fun _ _ _ _ _ => pe_callB (r := rLenS K) call_lenS (by rfl) B.len boot_len' (pa_cons (pv 4) pa_nil)))
          (pe_lc (own := [("row", 4)]) (g := gName 4) (tt := tYes) rfl sc_check_holdings.nd (pi_tup (pv 1)) (blkOk_by (own := [("row", 4)]) (N := n_check_holdings) (sc := defScope s_check_holdings) (by decide +kernel)) (fun _ _ _ _ _ => pg_name (i := 4) sc_check_holdings.nd rfl (Or.inl rfl)) (fun _ _ _ _ _ => pts_nil)
            (fun _ _ _ _ _ => pe_callB (r := rLenS K) call_lenS (by rfl) B.len boot_len' (pa_cons (pv 4) pa_nil))) (nomark _)) (pss_one ps_never) pss_nil)
      (pss_cons (ps_set (i := 3) sc_check_holdings.nd rfl (.inr rfl) (pe_cl cI hr (pa_cons (pv 0) pa_nil)))
      (pss_one (ps_if (pt_not (pt_val (pe_callB (cr_all rfl) (by rfl) B.all boot_all' (pa_cons
          (pe_lc (own := [("item", 5)]) (g := gName 5) (tt := tYes) rfl sc_check_holdings.nd (pi_list (pe_cl cI hr (pa_cons (pv 1) pa_nil))) (blkOk_by (own := [("item", 5)]) (N := n_check_holdings) (sc := defScope s_check_holdings) (by decide +kernel)) (fun _ _ _ _ _ => pg_name (i := 5) sc_check_holdings.nd rfl (Or.inl rfl)) (fun _ _ _ _ _ => pts_nil)
            (fun _ _ _ _ _ => pe_cmpR (r := rIn K false) op_in_seq (pv 5) (pv 3) rfl)) pa_nil)))) (pss_one ps_never) pss_nil)))), ?_⟩
    -- the two holdings
    refine ⟨v, rfl, u, rfl, by show 2 ≤ sizeLine; decide, fun t ht => ?_⟩
    refine ⟨t, rfl, ⟨_, st_of upd_same⟩, for_tup (xs := [v, u]) (fun i σ H' => Ex (upd H t (.tup [v, u])) H' ∧ ∃ z, σ = [some v, some u, z, none, none, none]) ⟨Ex.refl _, none, rfl⟩ (fun i σ H' _ p => st_of (p.1 _ _ upd_same)) (fun i x σ H' hx p => ?_) fun σ H' p => ?_⟩
    · obtain ⟨e, z, rfl⟩ := p
      have hk : ∃ k, IsH H' x k ∧ Sm k ∧ Nm k ∧ (items k).Nodup := by
        have t0 : Tle H H' := (Tle.new ht).trans (Tle.of e)
        match i, hx with
        | 0, hx => cases hx; exact ⟨h, ih.tle t0, tw.s1, tw.n1, tw.d1⟩
        | 1, hx => cases hx; exact ⟨g, ig.tle t0, tw.s2, tw.n2, tw.d2⟩
        | n + 2, hx => simp at hx
      obtain ⟨k, i1, i2, i3, i4⟩ := hk
      refine ⟨x, rfl, x, k, rfl, i1, i2, fun H2 e2 => ⟨true, rfl, iteF ?_⟩⟩
      refine ⟨x, rfl, x, k, rfl, i1.tle (Tle.of e2), i2, i3, i4, fun H3 e3 => ⟨true, rfl, iteF ?_⟩⟩
      exact ⟨e.trans (e2.trans e3), some x, rfl⟩
    obtain ⟨e0, z, rfl⟩ := p
    have e00 : Ex H H' := (Ex.new ht).trans e0
    -- the lengths
    have ih1 := ih.tle (Tle.of e00)
    have ig1 := ig.tle (Tle.of e00)
    obtain ⟨a, vs, rfl, ha, hlen, rows⟩ := ih1.open_
    obtain ⟨b, us, rfl, hb, hlen2, rows2⟩ := ig1.open_
    have h5 := tw.s1.len
    have g5 := tw.s2.len
    refine ⟨.ref a, rfl, a, rfl, ⟨_, st_of ha⟩, fun D hD => lc_mapT (as := h) (fun r => some (V.int (r.length : Int))) (fun c v _ => v = c) (fun c => mono_eq) (st_of ha) hlen (by omega) hD (fun _ => rfl) (fun i x r hx hr H3 e3 => .inr ⟨_, rfl, evb_yes, fun H4 e4 Q' q' => ?_⟩) fun H3 ys3 e3 hl3 p3 => ?_⟩
    · obtain ⟨c, hc, hct⟩ := rows i r hr
      rw [hx] at hc
      cases hc
      exact ⟨.ref c, rfl, c, _, rfl, len_tup (e4 _ _ (e3 _ _ hct)), q' _ _ (Ex.refl _) (by rw [List.length_map])⟩
    refine ⟨.ref b, rfl, b, rfl, ⟨_, st_of (e3 _ _ hb)⟩, fun D2 hD2 => lc_mapT (as := g) (fun r => some (V.int (r.length : Int))) (fun c v _ => v = c) (fun c => mono_eq) (st_of (e3 _ _ hb)) hlen2 (by omega) hD2 (fun _ => rfl) (fun i x r hx hr H4 e4 => .inr ⟨_, rfl, evb_yes, fun H5 e5 Q' q' => ?_⟩) fun H4 ys4 e4 hl4 p4 => ?_⟩
    · obtain ⟨c, hc, hct⟩ := rows2 i r hr
      rw [hx] at hc
      cases hc
      exact ⟨.ref c, rfl, c, _, rfl, len_tup (e5 _ _ (e4 _ _ (e3 _ _ hct))), q' _ _ (Ex.refl _) (by rw [List.length_map])⟩
    rw [fm_some] at p3 p4
    have e33 : ∀ k : Hd, (k.map fun r => V.int (r.length : Int)) = ((shp k).map fun n : Nat => (n : Int)).map V.int := fun k => by simp [shp]
    rw [paired_eqs (H := H3) p3, e33] at hl3
    rw [paired_eqs (H := H4) p4, e33, ← tw.sh] at hl4
    refine ⟨_, _, .lst (sq_of (e4 _ _ hl3)) (dp_ints _), .lst (sq_of hl4) (dp_ints _), shaped_ints _, shaped_ints _, _, rfl, ?_⟩
    rw [SeqAt.eqv_refl _ (SeqAt.canLay_of_shaped (shaped_ints _))]
    refine iteF ?_
    -- found
    have e04 : Ex H H4 := e00.trans (e3.trans e4)
    refine ⟨.ref a, rfl, .ref a, h, rfl, ih.tle (Tle.of e04), tw.s1, fun l H5 e5 hl50 hl5 => ?_⟩
    refine ⟨.ref b, rfl, .ref b, g, rfl, ig.tle (Tle.of (e04.trans e5)), tw.s2, fun m H6 e6 hm60 hm6 => ?_⟩
    refine ⟨m, rfl, ⟨_, sq_of hm6⟩, fun D3 hD3 => lc_mapL (as := items g) (fun _ => some (V.bl true)) (fun c v _ => v = c) (fun c => mono_eq) (sq_of hm6) (by simp) (by omega) hD3 (fun _ => rfl) (fun i x y hx hy H7 e7 => .inr ⟨_, rfl, evb_yes, fun H8 e8 Q' q' => ?_⟩) fun H7 ys7 e7 hl7 p7 => ?_⟩
    · rw [List.getElem?_map, hy] at hx
      cases hx
      refine ⟨.str y, rfl, .ref l, rfl, l, _, rfl, .inl (sq_of (e8 _ _ (e7 _ _ (e6 _ _ hl5)))), rfl, flat_strs' _, q' _ _ (Ex.refl _) ?_⟩
      show V.bl (inV (.str y) ((items h).map V.str)) = V.bl true
      rw [inV_str, decide_eq_true (tw.sub y (List.mem_of_getElem? hy))]
    rw [fm_some] at p7
    rw [paired_eqs (H := H7) p7, all_true] at hl7
    refine ⟨D3, _, rfl, sq_of hl7, _, rfl, ?_⟩
    rw [all_rep]
    exact iteF (q _ (e04.trans (e5.trans (e6.trans e7))))
/-! ### check_small -/
theorem ok_check_small {f : Addr} {fd : FuncData} (F : Fun K "check_small" "check_small" s_check_small f fd) (B : Bl mg) (cH : Cl P w K mg base 4 "check_holdings" sp_check) : FnOk P w K mg base CX0 5 f fd ["begin", "goal"] sp_check := by
  refine F.ok sc_check_small (fun vs H Q E h => ?_) (fun cdv A outer s H vs Q E hr h => ?_)
  · obtain ⟨i, _, _, _, rfl, _⟩ := h; rfl
  · obtain ⟨v, u, h, g, rfl, ih, ig, tw, q⟩ := h
    refine ⟨_, pss_cons (ps_expr (pe_cl cH hr (pa_cons (pv 0) (pa_cons (pv 1) pa_nil))))
      (pss_one (ps_if (pt_cmpR op_gt (pe_callB (cr_sum rfl) (by rfl) B.sum boot_sum' (pa_cons
        (pe_lc (own := [("row", 2)]) (g := gName 2) (tt := tYes) rfl sc_check_small.nd (pi_tup (pv 0)) (blkOk_by (own := [("row", 2)]) (N := n_check_small) (sc := defScope s_check_small) (by decide +kernel)) (fun _ _ _ _ _ => pg_name (i := 2) sc_check_small.nd rfl (Or.inl rfl)) (fun _ _ _ _ _ => pts_nil)
          (fun _ _ _ _ _ => pe_callB (r := rLenS K) call_lenS (by rfl) B.len boot_len' (pa_cons (pv 2) pa_nil))) pa_nil)) (pe_gl (gl_int B.mshort)) (nomark _)) (pss_one ps_never) pss_nil)), ?_⟩
    refine ⟨v, rfl, u, rfl, v, u, h, g, rfl, ih, ig, tw, fun H1 e1 => ?_⟩
    obtain ⟨a, vs, rfl, ha, hlen, rows⟩ := (ih.tle (Tle.of e1)).open_
    have h5 := tw.s1.len
    refine ⟨.ref a, rfl, a, rfl, ⟨_, st_of ha⟩, fun D hD => lc_mapT (as := h) (fun r => some (V.int (r.length : Int))) (fun c v _ => v = c) (fun c => mono_eq) (st_of ha) hlen (by omega) hD (fun _ => rfl) (fun i x r hx hr H3 e3 => .inr ⟨_, rfl, evb_yes, fun H4 e4 Q' q' => ?_⟩) fun H3 ys3 e3 hl3 p3 => ?_⟩
    · obtain ⟨c, hc, hct⟩ := rows i r hr
      rw [hx] at hc
      cases hc
      exact ⟨.ref c, rfl, c, _, rfl, len_tup (e4 _ _ (e3 _ _ hct)), q' _ _ (Ex.refl _) (by rw [List.length_map])⟩
    rw [fm_some] at p3
    have e33 : (h.map fun r => V.int (r.length : Int)) = ((shp h).map fun n : Nat => (n : Int)).map V.int := by simp [shp]
    rw [paired_eqs (H := H3) p3, e33] at hl3
    refine ⟨D, _, rfl, sq_of hl3, _, _, rfl, rfl, _, rfl, ?_⟩
    have hs := tw.s1.sum
    rw [sum_cast, decide_eq_false (by omega)]
    exact iteF (q _ (e1.trans e3))
end
end FB

/-! ## KD4 -/
set_option Elab.async false
set_option linter.all false
set_option maxRecDepth 100000
set_option maxHeartbeats 4000000
namespace FB
open PySem PySem.Spec PyProof.Rows L2 Evl
/-! ### sums and slices of tuples, whichever object they hand back -/
theorem cat_ev {K : PySem.W.Frag} {H : Hp} {a b : Addr} {xs ys : List V} {Q : VK} (ha : H a = some (.tup xs)) (hb : H b = some (.tup ys)) (hz : xs.length + ys.length ≤ 100000)
    (k : ∀ p H', Ex H H' → H' p = some (.tup (xs ++ ys)) → Q (.ref p) H') : rCatA K (.ref a) (.ref b) H Q := by
  refine ⟨a, b, xs, ys, rfl, rfl, st_of ha, st_of hb, sz_of hz, fun e => ?_, fun _ e => ?_, fun _ _ p hp => k p _ (Ex.new hp) upd_same⟩
  · subst e; exact k b H (Ex.refl H) hb
  · subst e; exact k a H (Ex.refl H) (by rw [List.append_nil]; exact ha)
theorem sl_ev {K : PySem.W.Frag} {H : Hp} {a : Addr} {xs : List V} {lo hi : Option Int} {Q : VK} (ha : H a = some (.tup xs))
    (k : ∀ p H', Ex H H' → H' p = some (.tup (cutV xs lo hi)) → Q (.ref p) H') : rSlA K (.ref a) lo hi H Q := by
  refine ⟨a, xs, rfl, st_of ha, fun e => k a H (Ex.refl H) ?_, fun _ p hp => k p _ (Ex.new hp) upd_same⟩
  unfold cutV
  rw [e.1, e.2, ha]
  simp
theorem cut_to (xs : List V) (b : Nat) : cutV xs none (some (b : Int)) = xs.take b := by
  unfold cutV
  rw [HT.sIx_none, HT.sIx_nat]
  simp only [List.drop_zero, Nat.sub_zero]
  rw [List.take_eq_take_iff]; omega
theorem cut_from (xs : List V) (b : Nat) : cutV xs (some (b : Int)) none = xs.drop b := by
  unfold cutV
  rw [HT.sIx_none, HT.sIx_nat]
  rcases Nat.lt_or_ge b xs.length with z | z
  · rw [Nat.min_eq_left (by omega)]
    exact List.take_of_length_le (by rw [List.length_drop]; omega)
  · rw [Nat.min_eq_right (by omega), List.drop_length, List.drop_eq_nil_of_le z]; simp
theorem cut_last (xs : List V) (h : 0 < xs.length) : cutV xs none (some (-1)) = xs.dropLast := by
  unfold cutV
  rw [HT.sIx_none]
  have e : HT.sIx xs.length xs.length (some (-1)) = xs.length - 1 := by
    show (if (-1 : Int) < 0 then ((-1 : Int) + (xs.length : Int)).toNat else min (-1 : Int).toNat xs.length) = _
    rw [if_pos (by decide)]; omega
  rw [e, List.dropLast_eq_take]
  simp
theorem cut_mid (xs : List V) (a b : Nat) : cutV xs (some (a : Int)) (some (b : Int)) = (xs.take b).drop a := by
  unfold cutV
  rw [HT.sIx_nat, HT.sIx_nat, List.drop_take]
  rcases Nat.lt_or_ge a xs.length with z | z
  · rw [Nat.min_eq_left (Nat.le_of_lt z), List.take_eq_take_iff, List.length_drop]; omega
  · rw [Nat.min_eq_right z, List.drop_length, List.drop_eq_nil_of_le z]
    simp
/-- the holding behind a put, told by its tuples -/
theorem put_is {H : Hp} {vs : List V} {h : Hd} {b : Nat} {x : Option Str} {r : List (Option Str)} {c p : Addr} (hlen : vs.length = h.length) (hr : h[b]? = some r)
    (rows : ∀ (b : Nat) r, h[b]? = some r → ∃ c, vs[b]? = some (.ref c) ∧ H c = some (.tup (r.map it))) (hc : H c = some (.tup ((x :: r.dropLast).map it))) (hp : H p = some (.tup (vs.set b (.ref c)))) : IsH H (.ref p) (KM.put h b x) := by
  have eg : h.getD b [] = r := by simp [List.getD, hr]
  refine ⟨p, _, rfl, hp, ?_⟩
  unfold KM.put
  rw [eg]
  refine paired_of (by simp [hlen]) fun i v q h1 h2 => ?_
  by_cases hib : i = b
  · subst hib
    have hi : i < vs.length := by rw [hlen]; exact (List.getElem?_eq_some_iff.mp hr).1
    rw [List.getElem?_set_self hi] at h1
    rw [List.getElem?_set_self (by omega)] at h2
    cases h1
    cases h2
    exact ⟨c, rfl, hc⟩
  · rw [List.getElem?_set_ne (Ne.symm hib)] at h1 h2
    obtain ⟨d, h3, h4⟩ := rows i q h2
    rw [h1] at h3
    cases h3
    exact ⟨d, rfl, h4⟩
section
variable {P : Program} {w : World} {K : PySem.W.Frag} {mg : Str → Option Value} {base : Heap}
/-! ### put_in -/
theorem ok_put_in {f : Addr} {fd : FuncData} (F : Fun K "put_in" "put_in" s_put_in f fd) : FnOk P w K mg base CX0 1 f fd ["holding", "belt", "thing"] sp_put_in := by
  refine F.ok sc_put_in (fun vs H Q E h => ?_) (fun cdv A outer s H vs Q E hr h => ?_)
  · obtain ⟨_, _, _, _, rfl, _⟩ := h; rfl
  · obtain ⟨v, h, b, x, rfl, ih, sm, hb, q⟩ := h
    obtain ⟨r, hr'⟩ : ∃ r, h[b]? = some r := ⟨_, List.getElem?_eq_getElem hb⟩
    obtain ⟨rp, r5⟩ := sm.row hr'
    have h5 := sm.len
    obtain ⟨a, vs, rfl, ha, hlen, rows⟩ := ih.open_
    obtain ⟨c, hc1, hc2⟩ := rows b r hr'
    refine ⟨_, pss_one (ps_ret (pe_op op_catA (pe_op op_catA (pe_slice sl_tupA (pv 0) po_none (po_some (pv 1)))
      (pe_tup (pa_cons (pe_op op_catA (pe_tup (pa_cons (pv 2) pa_nil)) (pe_slice sl_tupA (pe_ix ix_tup (pv 0) (pv 1) (fun _ _ => rfl)) po_none (po_some (pe_un un_neg pe_int)))) pa_nil)))
      (pe_slice sl_tupA (pv 0) (po_some (pe_op op_add (pv 1) pe_int)) po_none))), ?_⟩
    refine ⟨.ref a, rfl, .int b, rfl, b, rfl, sl_ev ha fun p1 H1 e1 hp1 => ?_⟩
    refine ⟨it x, rfl, by show 1 ≤ sizeLine; decide, fun p2 hp2 => ?_⟩
    have e2 := e1.trans (Ex.new (o := .tup [it x]) hp2)
    refine ⟨.ref a, rfl, .int b, rfl, a, vs, b, .ref c, rfl, rfl, st_of (e2 _ _ ha), atI_of hc1, 1, rfl, -1, rfl, sl_ev (e2 _ _ hc2) fun p3 H3 e3 hp3 => ?_⟩
    rw [cut_last _ (by simpa using rp)] at hp3
    refine cat_ev (e3 _ _ upd_same) hp3 (by simp; omega) fun p4 H4 e4 hp4 => ?_
    refine ⟨by show 1 ≤ sizeLine; decide, fun p5 hp5 => ?_⟩
    have e5 := (e2.trans (e3.trans e4)).trans (Ex.new (o := .tup [.ref p4]) hp5)
    have e15 := ((Ex.new (o := .tup [it x]) hp2).trans (e3.trans e4)).trans (Ex.new (o := .tup [.ref p4]) hp5)
    rw [cut_to] at hp1
    refine cat_ev (e15 _ _ hp1) upd_same (by simp; omega) fun p6 H6 e6 hp6 => ?_
    have e06 := e5.trans e6
    refine ⟨.ref a, rfl, .int b, rfl, b, 1, rfl, rfl, (b : Int) + 1, rfl, ?_⟩
    unfold tNoPart
    refine sl_ev (e06 _ _ ha) fun p7 H7 e7 hp7 => ?_
    have eb : ((b : Int) + 1) = ((b + 1 : Nat) : Int) := by omega
    rw [eb, cut_from] at hp7
    refine cat_ev (e7 _ _ hp6) hp7 (by simp; omega) fun p8 H8 e8 hp8 => ?_
    have e08 := e06.trans (e7.trans e8)
    refine q (.ref p8) H8 e08 (put_is hlen hr' (fun i r' h' => ?_) (c := p4) ?_ ?_)
    · obtain ⟨d, h1, h2⟩ := rows i r' h'
      exact ⟨d, h1, e08 _ _ h2⟩
    · have := (((Ex.new (o := .tup [.ref p4]) hp5).trans e6).trans (e7.trans e8)) _ _ hp4
      rw [this]
      simp [List.map_dropLast]
    · rw [hp8, List.set_eq_take_append_cons_drop, if_pos (by omega)]
      simp
/-! ### _law_put -/
theorem ok_L_put {f : Addr} {fd : FuncData} (F : Fun K "_law_put" "_law_put" s_L_put f fd) (B : Bl mg) : FnOk P w K mg base CX0 1 f fd ["_law_holding", "_law_belt", "_law_thing"] sp_L_put := by
  refine F.ok sc_L_put (fun vs H Q E h => ?_) (fun cdv A outer s H vs Q E hr h => ?_)
  · obtain ⟨_, _, _, _, rfl, _⟩ := h; rfl
  · obtain ⟨v, h, b, x, rfl, ih, sm, hb, q⟩ := h
    obtain ⟨r, hr'⟩ : ∃ r, h[b]? = some r := ⟨_, List.getElem?_eq_getElem hb⟩
    obtain ⟨rp, r5⟩ := sm.row hr'
    have h5 := sm.len
    obtain ⟨a, vs, rfl, ha, hlen, rows⟩ := ih.open_
    obtain ⟨c, hc1, hc2⟩ := rows b r hr'
    refine ⟨_, pss_cons (ps_set (i := 3) sc_L_put.nd rfl (.inl rfl) (pe_callTy call_listS (by rfl) B.list boot_list' (pa_cons (pv 0) pa_nil)))
      (pss_cons (ps_asg (pe_op op_catA (pe_tup (pa_cons (pv 2) pa_nil)) (pe_slice sl_tupA (pe_ix ix_list (pv 3) (pv 1) (fun _ _ => rfl)) po_none (po_some (pe_un un_neg pe_int)))) (pg_sub (pv 3) (pv 1) set_list))
      (pss_one (ps_ret (pe_callTy call_tupS (by rfl) B.tuple boot_tuple' (pa_cons (pv 3) pa_nil))))), ?_⟩
    refine ⟨.ref a, rfl, a, vs, rfl, .inr (st_of ha), fun l hl => ?_⟩
    have e1 : Ex H (upd H l (.lst vs)) := Ex.new hl
    refine ⟨it x, rfl, by show 1 ≤ sizeLine; decide, fun p2 hp2 => ?_⟩
    have e2 := Ex.new (o := .tup [it x]) hp2
    refine ⟨.ref l, rfl, .int b, rfl, l, vs, b, .ref c, rfl, rfl, sq_of (e2 _ _ upd_same), atI_of hc1, 1, rfl, -1, rfl, sl_ev (e2 _ _ (e1 _ _ hc2)) fun p3 H3 e3 hp3 => ?_⟩
    rw [cut_last _ (by simpa using rp)] at hp3
    refine cat_ev (e3 _ _ upd_same) hp3 (by simp; omega) fun p4 H4 e4 hp4 => ?_
    have e24 := e2.trans (e3.trans e4)
    have hl4 : H4 l = some (.lst vs) := e24 _ _ upd_same
    refine ⟨.ref l, rfl, .int b, rfl, l, vs, b, b, rfl, rfl, hl4, ixN_nat (by omega), ?_⟩
    have e04 : Ex H (upd H4 l (.lst (vs.set b (.ref p4)))) := (e1.trans e24).mut hl
    have t4 : Tle H4 (upd H4 l (.lst (vs.set b (.ref p4)))) := Tle.put hl4 fun _ z => by cases z
    refine ⟨.ref l, rfl, l, _, rfl, .inl ⟨sq_of upd_same, fun p8 hp8 => ?_⟩⟩
    have e8 := Ex.new (o := .tup (vs.set b (.ref p4))) hp8
    refine q (.ref p8) _ (e04.trans e8) (put_is hlen hr' (fun i r' h' => ?_) (c := p4) ?_ upd_same)
    · obtain ⟨d, h1, h2⟩ := rows i r' h'
      exact ⟨d, h1, (e04.trans e8) _ _ h2⟩
    · rw [e8 _ _ (t4 _ _ hp4)]
      simp [List.map_dropLast]
end
end FB

/-! ## KD5 -/
set_option Elab.async false
set_option linter.all false
set_option maxRecDepth 100000
set_option maxHeartbeats 4000000
namespace FB
open PySem PySem.Spec PyProof.Rows L2 Evl
/-- what a row's test says -/
def rowFit (r q : List (Option Str)) : Prop := ∀ (i : Nat) x y, r[i]? = some x → q[i]? = some y → y = none ∨ y = x
theorem fits_by {h g : Hd} (sh : shp h = shp g) : KM.Fits g h ↔ ∀ (b : Nat) r q, h[b]? = some r → g[b]? = some q → rowFit r q := KM.fits_rows sh
theorem pair_all {r q : List (Option Str)} (hl : r.length = q.length) : (((r.zip q).map fun p => decide (p.2 = none ∨ p.2 = p.1)).all id) = true ↔ rowFit r q := by
  rw [List.all_eq_true]
  constructor
  · intro h i x y hx hy
    have hz : (r.zip q)[i]? = some (x, y) := by rw [List.getElem?_zip_eq_some]; exact ⟨hx, hy⟩
    have := h _ (List.mem_map.mpr ⟨(x, y), List.mem_of_getElem? hz, rfl⟩)
    simpa using this
  · intro h b hb
    obtain ⟨⟨x, y⟩, hm, rfl⟩ := List.mem_map.mp hb
    obtain ⟨i, hi⟩ := List.mem_iff_getElem?.mp hm
    rw [List.getElem?_zip_eq_some] at hi
    simpa using h i x y hi.1 hi.2
section
variable {P : Program} {w : World} {K : PySem.W.Frag} {mg : Str → Option Value} {base : Heap}
/-! ### fits -/
theorem ok_fits {f : Addr} {fd : FuncData} (F : Fun K "fits" "fits" s_fits f fd) (B : Bl mg) : FnOk P w K mg base CX0 1 f fd ["holding", "goal"] sp_fits := by
  refine F.ok sc_fits (fun vs H Q E h => ?_) (fun cdv A outer s H vs Q E hr h => ?_)
  · obtain ⟨_, _, _, _, rfl, _⟩ := h; rfl
  · obtain ⟨v, u, h, g, rfl, ih, ig, sm, sh, q⟩ := h
    have h5 := sm.len
    have hg := shp_len sh
    obtain ⟨a, vs, rfl, ha, hlen, rows⟩ := ih.open_
    obtain ⟨b, us, rfl, hb, hlen2, rows2⟩ := ig.open_
    refine ⟨_, pss_cons (ps_for PassesOwn.never rfl (RZ.pi_zipA (by rfl) B.zip (pa_cons (pv 0) (pa_cons (pv 1) pa_nil)))
        (pg_tup rfl (pgs_cons (pg_name (i := 2) sc_fits.nd rfl (.inl rfl)) (pgs_cons (pg_name (i := 3) sc_fits.nd rfl (.inl rfl)) pgs_nil)))
        (pss_one (ps_if (pt_not (pt_val (pe_callB (cr_all rfl) (by rfl) B.all boot_all' (pa_cons
          (pe_lc (own := [("here", 4), ("item", 5)]) (g := gTup K 2 (gCons (gName 4) (gCons (gName 5) gNil))) (tt := tYes) rfl sc_fits.nd (RZ.pi_zipA (by rfl) B.zip (pa_cons (pv 2) (pa_cons (pv 3) pa_nil))) (blkOk_by (own := [("here", 4), ("item", 5)]) (N := n_fits) (sc := defScope s_fits) (by decide +kernel))
            (fun _ _ _ _ _ => pg_tup rfl (pgs_cons (pg_name (i := 4) sc_fits.nd rfl (Or.inl rfl)) (pgs_cons (pg_name (i := 5) sc_fits.nd rfl (Or.inl rfl)) pgs_nil))) (fun _ _ _ _ _ => pts_nil)
            (fun _ _ _ _ _ => pe_or (pe_cmp (pc_isN (pv 5)) rfl) (pe_one (pe_cmpR op_eq (pv 5) (pv 4) (nomark _))))) pa_nil)))) (pss_one (ps_ret pe_bl)) pss_nil)))
      (pss_one (ps_ret pe_bl)), ?_⟩
    refine ⟨.ref a, rfl, .ref b, rfl, a, b, vs, us, rfl, .inr ⟨st_of ha, st_of hb, ?_⟩⟩
    refine RZ.for_zipT (by omega) (fun i σ H' => Ex H H' ∧ (∃ z2 z3, σ = [some (.ref a), some (.ref b), z2, z3, none, none]) ∧ ∀ (j : Nat) r o, j < i → h[j]? = some r → g[j]? = some o → rowFit r o) ⟨Ex.refl _, ⟨none, none, rfl⟩, fun j r o hj => absurd hj (Nat.not_lt_zero _)⟩ (fun i σ H' p => ⟨st_of (p.1 _ _ ha), st_of (p.1 _ _ hb)⟩) (fun i x y T σ H' hx hy p hT => ?_) fun σ H' p => ?_
    · obtain ⟨e, ⟨z2, z3, rfl⟩, old⟩ := p
      have hi : i < h.length := by rw [← hlen]; exact (List.getElem?_eq_some_iff.mp hx).1
      obtain ⟨r, hr1⟩ : ∃ r, h[i]? = some r := ⟨_, List.getElem?_eq_getElem hi⟩
      obtain ⟨o, ho1⟩ : ∃ o, g[i]? = some o := ⟨_, List.getElem?_eq_getElem (by omega)⟩
      obtain ⟨c, hc1, hc2⟩ := rows i r hr1
      obtain ⟨d, hd1, hd2⟩ := rows2 i o ho1
      rw [hx] at hc1
      rw [hy] at hd1
      cases hc1
      cases hd1
      have hro := shp_row sh hr1 ho1
      obtain ⟨rp, r5⟩ := sm.row hr1
      have eT := e.trans (Ex.new (o := .tup [.ref c, .ref d]) hT)
      refine ⟨T, [.ref c, .ref d], rfl, st_of upd_same, rfl, .ref c, [.ref d], rfl, .ref d, [], rfl, rfl, ?_⟩
      have c1 := eT _ _ hc2
      have d1 := eT _ _ hd2
      refine ⟨.ref c, rfl, .ref d, rfl, c, d, _, _, rfl, .inr ⟨st_of c1, st_of d1, fun D hD => ?_⟩⟩
      have dz := draw_zip (K := K) (st_of (K := K) c1) (st_of (K := K) d1) (by simp [hro])
      have lz : (r.map it).length = (r.zip o).length := by simp [hro]
      rw [lz] at dz
      refine lc_gen (as := r.zip o) (fun p => some (V.bl (decide (p.2 = none ∨ p.2 = p.1)))) (fun c v _ => v = c) (fun p σ2 => σ2 = [some (.ref a), some (.ref b), some (.ref c), some (.ref d), some (it p.1), some (it p.2)]) (fun c => mono_eq) dz (by rw [← lz]; simp; omega) hD ?_ ?_ ?_
      · rintro j x ⟨p1, p2⟩ H2 hp e2 ⟨T2, x2, y2, rfl, hx2, hy2, hT2⟩ Qc hQ
        rw [List.getElem?_zip_eq_some] at hp
        rw [get_it hp.1] at hx2
        rw [get_it hp.2] at hy2
        cases hx2
        cases hy2
        exact ⟨T2, [it p1, it p2], rfl, st_of hT2, rfl, _, _, rfl, _, _, rfl, rfl, hQ _ _ (Ex.refl _) rfl rfl⟩
      · rintro ⟨p1, p2⟩ σ2 H2 _ e2 rfl
        refine .inr ⟨_, rfl, evb_yes, fun H3 e3 Q' q' => ?_⟩
        cases p2 with
        | none => exact ⟨.non, rfl, true, rfl, iteT (q' _ _ (Ex.refl _) (by simp))⟩
        | some p2 =>
          refine ⟨.str p2, rfl, false, rfl, iteF ⟨.str p2, rfl, it p1, rfl, ?_, q' _ _ (Ex.refl _) ?_⟩⟩
          · cases p1 <;> rfl
          · congr 1
            cases p1 with
            | none => simp [it]
            | some p1 => simp [it]
      · intro H2 ys e2 hl p
        rw [fm_some] at p
        rw [paired_eqs (H := H2) p] at hl
        have em : ((r.zip o).map fun p => V.bl (decide (p.2 = none ∨ p.2 = p.1))) = ((r.zip o).map fun p => decide (p.2 = none ∨ p.2 = p.1)).map V.bl := by simp
        rw [em] at hl
        refine ⟨D, _, rfl, sq_of hl, _, rfl, ?_⟩
        cases hc : (((r.zip o).map fun p => decide (p.2 = none ∨ p.2 = p.1)).all id) with
        | true =>
          have rf := (pair_all hro).mp hc
          refine iteF ⟨eT.trans e2, ⟨_, _, rfl⟩, fun j r' o' hj h1 h2 => ?_⟩
          by_cases hji : j = i
          · subst hji
            rw [hr1] at h1
            rw [ho1] at h2
            cases h1
            cases h2
            exact rf
          · exact old j r' o' (by omega) h1 h2
        | false =>
          refine iteT (q false H2 (eT.trans e2) ⟨(fun z => nomatch z), fun ft => ?_⟩)
          have := (pair_all hro).mpr ((fits_by sh).mp ft i r o hr1 ho1)
          rw [hc] at this
          cases this
    · obtain ⟨e, ⟨z2, z3, rfl⟩, old⟩ := p
      refine q true H' e ⟨fun _ => (fits_by sh).mpr fun j r o h1 h2 => old j r o ?_ h1 h2, fun _ => rfl⟩
      rw [hlen]
      exact (List.getElem?_eq_some_iff.mp h1).1
end
end FB

/-! ## KD6 -/
set_option Elab.async false
set_option linter.all false
set_option maxRecDepth 100000
set_option maxHeartbeats 4000000
namespace FB
open PySem PySem.Spec PyProof.Rows L2 Evl
section
variable {P : Program} {w : World} {K : PySem.W.Frag} {mg : Str → Option Value} {base : Heap}
/-! ### _law_fits -/
theorem ok_L_fits {f : Addr} {fd : FuncData} (F : Fun K "_law_fits" "_law_fits" s_L_fits f fd) (B : Bl mg) : FnOk P w K mg base CX0 1 f fd ["_law_holding", "_law_goal"] sp_L_fits := by
  refine F.ok sc_L_fits (fun vs H Q E h => ?_) (fun cdv A outer s H vs Q E hr h => ?_)
  · obtain ⟨_, _, _, _, rfl, _⟩ := h; rfl
  · obtain ⟨v, u, h, g, rfl, ih, ig, sm, sh, q⟩ := h
    have h5 := sm.len
    have hg := shp_len sh
    obtain ⟨a, vs, rfl, ha, hlen, rows⟩ := ih.open_
    obtain ⟨b, us, rfl, hb, hlen2, rows2⟩ := ig.open_
    refine ⟨_, pss_cons (ps_for PassesOwn.never rfl (RZ.pi_zipA (by rfl) B.zip (pa_cons (pv 0) (pa_cons (pv 1) pa_nil)))
        (pg_tup rfl (pgs_cons (pg_name (i := 2) sc_L_fits.nd rfl (.inl rfl)) (pgs_cons (pg_name (i := 3) sc_L_fits.nd rfl (.inl rfl)) pgs_nil)))
        (pss_one (ps_for PassesOwn.never rfl (pi_range1 (by rfl) B.range (pa_cons (pe_callB call_lenS (by rfl) B.len boot_len' (pa_cons (pv 2) pa_nil)) pa_nil)) (pg_name (i := 4) sc_L_fits.nd rfl (.inl rfl))
          (pss_one (ps_if (PW.pt (pw_and (pt_cmp (pc_notN (pe_ix ix_tup (pv 3) (pv 4) (fun _ _ => rfl)))) (pw_and1 (pt_cmpR op_ne (pe_ix ix_tup (pv 3) (pv 4) (fun _ _ => rfl)) (pe_ix ix_tup (pv 2) (pv 4) (fun _ _ => rfl)) (nomark _))))) (pss_one (ps_ret pe_bl)) pss_nil)))))
      (pss_one (ps_ret pe_bl)), ?_⟩
    refine ⟨.ref a, rfl, .ref b, rfl, a, b, vs, us, rfl, .inr ⟨st_of ha, st_of hb, ?_⟩⟩
    refine RZ.for_zipT (by omega) (fun i σ H' => Ex H H' ∧ (∃ z2 z3 z4, σ = [some (.ref a), some (.ref b), z2, z3, z4]) ∧ ∀ (j : Nat) r o, j < i → h[j]? = some r → g[j]? = some o → rowFit r o) ⟨Ex.refl _, ⟨none, none, none, rfl⟩, fun j r o hj => absurd hj (Nat.not_lt_zero _)⟩ (fun i σ H' p => ⟨st_of (p.1 _ _ ha), st_of (p.1 _ _ hb)⟩) (fun i x y T σ H' hx hy p hT => ?_) fun σ H' p => ?_
    · obtain ⟨e, ⟨z2, z3, z4, rfl⟩, old⟩ := p
      have hi : i < h.length := by rw [← hlen]; exact (List.getElem?_eq_some_iff.mp hx).1
      obtain ⟨r, hr1⟩ : ∃ r, h[i]? = some r := ⟨_, List.getElem?_eq_getElem hi⟩
      obtain ⟨o, ho1⟩ : ∃ o, g[i]? = some o := ⟨_, List.getElem?_eq_getElem (by omega)⟩
      obtain ⟨c, hc1, hc2⟩ := rows i r hr1
      obtain ⟨d, hd1, hd2⟩ := rows2 i o ho1
      rw [hx] at hc1
      rw [hy] at hd1
      cases hc1
      cases hd1
      have hro := shp_row sh hr1 ho1
      obtain ⟨rp, r5⟩ := sm.row hr1
      have eT := e.trans (Ex.new (o := .tup [.ref c, .ref d]) hT)
      refine ⟨T, [.ref c, .ref d], rfl, st_of upd_same, rfl, .ref c, [.ref d], rfl, .ref d, [], rfl, rfl, ?_⟩
      have c1 := eT _ _ hc2
      have d1 := eT _ _ hd2
      refine ⟨.ref c, rfl, c, _, rfl, len_tup c1, (r.map it).length, rfl, by omega, by rw [List.length_map]; omega, ?_⟩
      have en : (((r.map it).length : Int)).toNat = r.length := by rw [List.length_map]; omega
      rw [en]
      refine for_range (lo := 0) (n := r.length) (fun k σ H2 => Ex H H2 ∧ H2 c = some (.tup (r.map it)) ∧ H2 d = some (.tup (o.map it)) ∧ (∃ z4, σ = [some (.ref a), some (.ref b), some (.ref c), some (.ref d), z4]) ∧ ∀ (j : Nat) x y, j < k → r[j]? = some x → o[j]? = some y → y = none ∨ y = x) ⟨eT, c1, d1, ⟨z4, rfl⟩, fun j x y hj => absurd hj (Nat.not_lt_zero _)⟩ (fun k σ H2 hk p => ?_) fun σ H2 p => ?_
      · obtain ⟨e2, c2, d2, ⟨z4, rfl⟩, old2⟩ := p
        obtain ⟨x, hx1⟩ : ∃ x, r[k]? = some x := ⟨_, List.getElem?_eq_getElem hk⟩
        obtain ⟨y, hy1⟩ : ∃ y, o[k]? = some y := ⟨_, List.getElem?_eq_getElem (by omega)⟩
        have gx := get_it hx1
        have gy := get_it hy1
        have ek : (0 : Int) + (k : Nat) = (k : Int) := by omega
        refine ⟨.ref d, rfl, .int (0 + (k : Nat)), rfl, d, _, (k : Int), it y, rfl, by rw [ek], st_of d2, atI_of gy, !decide (it y = .non), rfl, ?_⟩
        have next : (y = none ∨ y = x) → ∀ (j : Nat) x y, j < k + 1 → r[j]? = some x → o[j]? = some y → y = none ∨ y = x := fun hh j x' y' hj h1 h2 => by
          by_cases hjk : j = k
          · subst hjk
            rw [hx1] at h1
            rw [hy1] at h2
            cases h1
            cases h2
            exact hh
          · exact old2 j x' y' (by omega) h1 h2
        cases y with
        | none => exact iteF ⟨e2, c2, d2, ⟨_, rfl⟩, next (.inl rfl)⟩
        | some y =>
          refine iteT ⟨.ref d, rfl, .int (0 + (k : Nat)), rfl, d, _, (k : Int), it (some y), rfl, by rw [ek], st_of d2, atI_of gy, .ref c, rfl, .int (0 + (k : Nat)), rfl, c, _, (k : Int), it x, rfl, by rw [ek], st_of c2, atI_of gx, by cases x <;> rfl, _, rfl, ?_⟩
          by_cases hxy : some y = x
          · subst hxy
            rw [decide_eq_true rfl]
            exact iteF ⟨e2, c2, d2, ⟨_, rfl⟩, next (.inr rfl)⟩
          · rw [decide_eq_false (fun z => hxy (it_inj z))]
            refine iteT (q false H2 e2 ⟨(fun z => nomatch z), fun ft => ?_⟩)
            rcases (fits_by sh).mp ft i r o hr1 ho1 k x (some y) hx1 hy1 with z | z
            · cases z
            · exact absurd z hxy
      · obtain ⟨e2, c2, d2, ⟨z4, rfl⟩, old2⟩ := p
        refine ⟨e2, ⟨_, _, _, rfl⟩, fun j r' o' hj h1 h2 => ?_⟩
        by_cases hji : j = i
        · subst hji
          rw [hr1] at h1
          rw [ho1] at h2
          cases h1
          cases h2
          exact fun k x y hx hy => old2 k x y (List.getElem?_eq_some_iff.mp hx).1 hx hy
        · exact old j r' o' (by omega) h1 h2
    · obtain ⟨e, ⟨z2, z3, z4, rfl⟩, old⟩ := p
      refine q true H' e ⟨fun _ => (fits_by sh).mpr fun j r o h1 h2 => old j r o ?_ h1 h2, fun _ => rfl⟩
      rw [hlen]
      exact (List.getElem?_eq_some_iff.mp h1).1
/-! ### _law_alike -/
def dat : Option Str → PyData
  | none => .none
  | some x => .str x
theorem dp_row {H : Hp} : ∀ r : List (Option Str), DpAll K H (r.map it) (r.map dat)
  | [] => .nil
  | none :: r => .cons .non (dp_row r)
  | some x :: r => .cons (.str x) (dp_row r)
theorem eqv_rows : ∀ r q : List (Option Str), PyData.eqvAll (r.map dat) (q.map dat) = decide (r = q)
  | [], [] => by simp [PyData.eqvAll]
  | [], y :: q => by simp [PyData.eqvAll]
  | x :: r, [] => by simp [PyData.eqvAll]
  | x :: r, y :: q => by
    have ih := eqv_rows r q
    simp only [List.map_cons, PyData.eqvAll, ih]
    cases x with
    | none => cases y <;> simp [dat, PyData.eqv]
    | some x =>
      cases y with
      | none => simp [dat, PyData.eqv]
      | some y =>
        have e : (x == y) = decide (x = y) := by by_cases h : x = y <;> simp [h]
        simp [dat, PyData.eqv, e]
theorem ok_name_str {x : Str} (h : NameOk x) : PyData.strOk x = true := by
  unfold PyData.strOk
  rw [← Array.all_toList, List.all_eq_true]
  intro c hc
  have h2 := h.2.2 c hc
  have key : ∀ c ∈ ("abcdefghijklmnopqrstuvwxyz" : Str).cps.toList, c < 0x110000 := by decide +kernel
  exact decide_eq_true (key c h2)
theorem lay_row : ∀ r : List (Option Str), (∀ x, some x ∈ r → NameOk x) → PyData.canLayAll0 (r.map dat) = true
  | [], _ => rfl
  | none :: r, h => by simp only [List.map_cons, PyData.canLayAll0, dat, PyData.canLay0, lay_row r fun x hx => h x (List.mem_cons_of_mem _ hx)]; rfl
  | some y :: r, h => by simp only [List.map_cons, PyData.canLayAll0, dat, PyData.canLay0, ok_name_str (h y List.mem_cons_self), lay_row r fun x hx => h x (List.mem_cons_of_mem _ hx)]; rfl
theorem depth_dat : ∀ r : List (Option Str), PyData.depthAll (r.map dat) = 0
  | [] => rfl
  | none :: r => by simp [PyData.depthAll, PyData.depth, dat, depth_dat r]
  | some x :: r => by simp [PyData.depthAll, PyData.depth, dat, depth_dat r]
theorem shaped_row {r : List (Option Str)} (h : ∀ x, some x ∈ r → NameOk x) : SeqAt.shaped (.tuple (r.map dat)) = true := by
  unfold SeqAt.shaped
  have h1 : PyData.canLay0 (.tuple (r.map dat)) = true := by simp only [PyData.canLay0, lay_row r h]
  have h2 : PyData.depth (.tuple (r.map dat)) ≤ 64 := by simp only [PyData.depth, depth_dat]; omega
  rw [h1, decide_eq_true h2]; rfl
theorem ok_L_alike {f : Addr} {fd : FuncData} (F : Fun K "_law_alike" "_law_alike" s_L_alike f fd) (B : Bl mg) : FnOk P w K mg base CX0 1 f fd ["_law_one", "_law_other"] sp_L_alike := by
  refine F.ok sc_L_alike (fun vs H Q E h => ?_) (fun cdv A outer s H vs Q E hr h => ?_)
  · obtain ⟨_, _, _, _, rfl, _⟩ := h; rfl
  · obtain ⟨v, u, r, o, rfl, ⟨a, rfl, ha⟩, ⟨b, rfl, hb⟩, hro, rp, r5, nm, q⟩ := h
    have hu := hr.units
    refine ⟨_, pss_cons (ps_if (pt_cmpR op_ne (pe_callB call_lenS (by rfl) B.len boot_len' (pa_cons (pv 0) pa_nil)) (pe_callB call_lenS (by rfl) B.len boot_len' (pa_cons (pv 1) pa_nil)) (nomark _)) (pss_one (ps_ret pe_bl)) pss_nil)
      (pss_one (ps_ret (pe_cmpR op_gt (pe_callB call_lenS (by rfl) B.len boot_len' (pa_cons
        (pe_lc (own := [("_law_k", 2)]) (g := gName 2) rfl sc_L_alike.nd (pi_range1 (by rfl) B.range (pa_cons (pe_callB call_lenS (by rfl) B.len boot_len' (pa_cons (pv 0) pa_nil)) pa_nil)) (blkOk_by (own := [("_law_k", 2)]) (N := n_L_alike) (sc := defScope s_L_alike) (by decide +kernel)) (fun _ _ _ _ _ => pg_name (i := 2) sc_L_alike.nd rfl (Or.inl rfl))
          (fun _ _ _ _ _ => pts_one (pt_cmpR (r := rEqD K) (op_eqD hu) (pe_op (r := rCatA K) op_catA (pe_slice (r := rSlA K) sl_tupA (pv 0) (po_some (pv 2)) po_none) (pe_slice (r := rSlA K) sl_tupA (pv 0) po_none (po_some (pv 2)))) (pv 1) (nomark _)))
          (fun _ _ _ _ _ => pv 2)) pa_nil)) pe_int (nomark _)))), ?_⟩
    refine ⟨.ref a, rfl, a, _, rfl, len_tup ha, .ref b, rfl, b, _, rfl, len_tup hb, rfl, _, rfl, ?_⟩
    rw [decide_eq_true (by simp [hro])]
    refine iteF ?_
    refine ⟨.ref a, rfl, a, _, rfl, len_tup ha, ((r.map it).length : Int), rfl, by omega, by rw [List.length_map]; omega, fun D hD => ?_⟩
    have en : (((r.map it).length : Int)).toNat = r.length := by rw [List.length_map]; omega
    rw [en]
    refine lc_mapR (n := r.length) (as := List.range r.length) (fun k => if r.drop k ++ r.take k = o then some (V.int (k : Int)) else none) (fun c v _ => v = c) (fun c => mono_eq) (by simp) (by simp; omega) hD (fun _ => rfl) (fun i k hi hk H1 e1 => ?_) fun H1 ys e1 hl p => ?_
    · have hki : k = i := by
        rw [List.getElem?_range hi] at hk
        exact (Option.some.inj hk).symm
      subst hki
      have ek : (0 : Int) + (k : Nat) = (k : Int) := by omega
      rw [ek]
      have test : EvB (tTest (tOp (rEqD K) (tOp (rCatA K) (tSl (rSlA K) (tVar 0) (tPart (tVar 2)) tNoPart) (tSl (rSlA K) (tVar 0) tNoPart (tPart (tVar 2)))) (tVar 1))) [some (.ref a), some (.ref b), some (.int (k : Int))] H1 (decide (r.drop k ++ r.take k = o)) := by
        intro Q' q'
        refine ⟨.ref a, rfl, .int (k : Int), rfl, k, rfl, ?_⟩
        unfold tNoPart
        refine sl_ev (e1 _ _ ha) fun p1 H2 e2 hp1 => ?_
        refine ⟨.ref a, rfl, .int (k : Int), rfl, k, rfl, sl_ev ((e1.trans e2) _ _ ha) fun p2 H3 e3 hp2 => ?_⟩
        rw [cut_from] at hp1
        rw [cut_to] at hp2
        refine cat_ev (e3 _ _ hp1) hp2 (by simp; omega) fun p3 H4 e4 hp3 => ?_
        have e14 := e2.trans (e3.trans e4)
        have erow : (r.map it).drop k ++ (r.map it).take k = (r.drop k ++ r.take k).map it := by simp
        rw [erow] at hp3
        refine ⟨.ref b, rfl, _, _, .tup (st_of hp3) (dp_row _), .tup (st_of (e14 _ _ (e1 _ _ hb))) (dp_row _), shaped_row fun x hx => ?_, shaped_row fun x hx => nm x (.inr hx), _, rfl, ?_⟩
        · rcases List.mem_append.mp hx with z | z
          · exact nm x (.inl (List.mem_of_mem_drop z))
          · exact nm x (.inl (List.mem_of_mem_take z))
        · show Q' (PyData.eqvAll _ _) H4
          rw [eqv_rows]
          exact q' _ e14
      by_cases hc : r.drop k ++ r.take k = o
      · rw [decide_eq_true hc] at test
        exact .inr ⟨_, if_pos hc, test, fun H2 e2 Q' q' => ⟨_, rfl, q' _ _ (Ex.refl _) rfl⟩⟩
      · rw [decide_eq_false hc] at test
        exact .inl ⟨if_neg hc, test⟩
    · have ey := paired_eqs (H := H1) p
      refine ⟨D, ys, rfl, .inl (sq_of hl), _, _, rfl, rfl, ?_⟩
      refine q _ H1 e1 ?_
      rw [decide_eq_true_iff, KM.rot_iff rp]
      constructor
      · intro hpos
        have : 0 < ys.length := by omega
        obtain ⟨z, hz⟩ := List.exists_mem_of_length_pos this
        rw [ey] at hz
        obtain ⟨k, hk, hf⟩ := List.mem_filterMap.mp hz
        have hk' := List.mem_range.mp hk
        by_cases hc : r.drop k ++ r.take k = o
        · exact ⟨k, hk', hc⟩
        · simp [hc] at hf
      · rintro ⟨k, hk, hc⟩
        have : V.int (k : Int) ∈ ys := by
          rw [ey]
          exact List.mem_filterMap.mpr ⟨k, List.mem_range.mpr hk, if_pos hc⟩
        have := List.length_pos_of_mem this
        omega
end
end FB

/-! ## KD7 -/
set_option Elab.async false
set_option linter.all false
set_option maxRecDepth 100000
set_option maxHeartbeats 4000000
namespace FB
open PySem PySem.Spec PyProof.Rows L2 Evl
theorem sum_take_le : ∀ (l : List Nat) (i : Nat), (l.take i).sum ≤ l.sum
  | [], i => by simp
  | a :: l, 0 => by simp
  | a :: l, i + 1 => by have := sum_take_le l i; simp only [List.take_succ_cons, List.sum_cons]; omega
theorem splitL_get : ∀ (w : List (Option Str)) {ns : List Nat} {i n : Nat}, ns[i]? = some n → (splitL w ns)[i]? = some ((w.drop (ns.take i).sum).take n)
  | w, [], i, n, h => by simp at h
  | w, m :: ns, 0, n, h => by simp at h; subst h; simp [splitL]
  | w, m :: ns, i + 1, n, h => by
    have ih := splitL_get (w.drop m) (ns := ns) (i := i) (n := n) (by simpa using h)
    simp only [splitL, List.getElem?_cons_succ, ih, List.take_succ_cons, List.sum_cons, List.drop_drop]
theorem splitL_len : ∀ (w : List (Option Str)) (ns : List Nat), (splitL w ns).length = ns.length
  | w, [] => rfl
  | w, m :: ns => by simp [splitL, splitL_len (w.drop m) ns]
theorem take_sum {ns : List Nat} {i n : Nat} (h : ns[i]? = some n) : (ns.take (i + 1)).sum = (ns.take i).sum + n := by
  rw [List.take_add_one, h]
  simp
theorem strs_of (r : List (Option Str)) : (r.filterMap fun x => x.map V.str) = (r.filterMap id).map V.str := by
  induction r with
  | nil => rfl
  | cons x r ih => cases x <;> simp [ih]
theorem items_take (h : Hd) {i : Nat} {r : List (Option Str)} (hr : h[i]? = some r) : items (h.take (i + 1)) = items (h.take i) ++ r.filterMap id := by
  unfold items
  rw [List.take_add_one, hr]
  simp
section
variable {P : Program} {w : World} {K : PySem.W.Frag} {mg : Str → Option Value} {base : Heap}
/-! ### _law_items -/
theorem ok_L_items {f : Addr} {fd : FuncData} (F : Fun K "_law_items" "_law_items" s_L_items f fd) : FnOk P w K mg base CX0 1 f fd ["_law_holding"] sp_L_items := by
  refine F.ok sc_L_items (fun vs H Q E h => ?_) (fun cdv A outer s H vs Q E hr h => ?_)
  · obtain ⟨i, _, rfl, _⟩ := h; rfl
  · obtain ⟨v, h, rfl, ih, sm, q⟩ := h
    have h5 := sm.len
    obtain ⟨a, vs, rfl, ha, hlen, rows⟩ := ih.open_
    refine ⟨_, pss_cons (ps_set (i := 1) sc_L_items.nd rfl (.inl rfl) (pe_lst pa_nil))
      (pss_cons (ps_for PassesOwn.never rfl (pi_tup (pv 0)) (pg_name (i := 2) sc_L_items.nd rfl (.inl rfl))
        (pss_one (ps_expr (pe_bm PySem.F.plainAttrs_list PySem.F.slot_list_extend PySem.F.type_list_extend mt_extend (pv 1) (pa_cons
          (pe_lc (own := [("_law_item", 3)]) (g := gName 3) rfl sc_L_items.nd (pi_tup (pv 2)) (blkOk_by (own := [("_law_item", 3)]) (N := n_L_items) (sc := defScope s_L_items) (by decide +kernel)) (fun _ _ _ _ _ => pg_name (i := 3) sc_L_items.nd rfl (Or.inl rfl))
            (fun _ _ _ _ _ => pts_one (pt_cmp (pc_notN (pv 3)))) (fun _ _ _ _ _ => pv 3)) pa_nil)))))
      (pss_one (ps_ret (pv 1)))), ?_⟩
    refine ⟨Nat.zero_le _, fun l hl => ?_⟩
    refine ⟨.ref a, rfl, a, rfl, ⟨_, st_of (Ex.new hl _ _ ha)⟩, for_tup (xs := vs) (fun i σ H' => Ex H H' ∧ H' l = some (.lst ((items (h.take i)).map V.str)) ∧ ∃ z, σ = [some (.ref a), some (.ref l), z, none]) ⟨Ex.new hl, upd_same, none, rfl⟩ (fun i σ H' _ p => st_of (p.1 _ _ ha)) (fun i x σ H' hx p => ?_) fun σ H' p => ?_⟩
    · obtain ⟨e, hl', z, rfl⟩ := p
      have hi : i < h.length := by rw [← hlen]; exact (List.getElem?_eq_some_iff.mp hx).1
      obtain ⟨r, hr1⟩ : ∃ r, h[i]? = some r := ⟨_, List.getElem?_eq_getElem hi⟩
      obtain ⟨c, hc1, hc2⟩ := rows i r hr1
      rw [hx] at hc1
      cases hc1
      obtain ⟨rp, r5⟩ := sm.row hr1
      refine ⟨.ref l, rfl, .inl ⟨rfl, _, sq_of hl'⟩, .ref c, rfl, c, rfl, ⟨_, st_of (e _ _ hc2)⟩, fun D hD => lc_mapT (as := r) (fun x => x.map V.str) (fun c v _ => v = c) (fun c => mono_eq) (st_of (e _ _ hc2)) (by simp) (by omega) hD (fun _ => rfl) (fun j x y hx hy H2 e2 => ?_) fun H2 ys e2 hl2 p2 => ?_⟩
      · rw [get_it hy] at hx
        cases hx
        cases y with
        | none => exact .inl ⟨rfl, fun Q' q' => ⟨.non, rfl, false, rfl, q' _ (Ex.refl _)⟩⟩
        | some y => exact .inr ⟨_, rfl, fun Q' q' => ⟨.str y, rfl, true, rfl, q' _ (Ex.refl _)⟩, fun H3 e3 Q' q' => ⟨.str y, rfl, q' _ _ (Ex.refl _) rfl⟩⟩
      · rw [strs_of] at p2
        rw [paired_eqs (H := H2) p2] at hl2
        have hlz : (items (h.take i)).length ≤ 5 := by
          refine Nat.le_trans (List.length_filterMap_le _ _) (Nat.le_trans ?_ sm.flat)
          rw [List.length_flatten, List.length_flatten, List.map_take]
          exact sum_take_le _ _
        refine ⟨l, D, _, _, rfl, rfl, e2 _ _ hl', hl2, ?_, ?_⟩
        · rw [List.length_map, List.length_map]
          have := List.length_filterMap_le id r
          exact sz_of (by omega)
        · refine ⟨(e.trans e2).mut hl, ?_, _, rfl⟩
          rw [upd_same, items_take h hr1, List.map_append]
    · obtain ⟨e, hl', z, rfl⟩ := p
      rw [hlen, List.take_length] at hl'
      exact ⟨.ref l, rfl, q l H' e hl hl'⟩
/-! ### _law_split -/
theorem ok_L_split {f : Addr} {fd : FuncData} (F : Fun K "_law_split" "_law_split" s_L_split f fd) (B : Bl mg) : FnOk P w K mg base CX0 1 f fd ["_law_word", "_law_lengths_here"] (sp_L_split K) := by
  refine F.ok sc_L_split (fun vs H Q E h => ?_) (fun cdv A outer s H vs Q E hr h => ?_)
  · obtain ⟨_, _, _, _, rfl, _⟩ := h; rfl
  · obtain ⟨l, p, wd, ns, rfl, hl, hp, w100, n100, s100, q⟩ := h
    rcases hp with hp | hp
    · refine ⟨_, pss_cons (ps_set (i := 2) sc_L_split.nd rfl (.inl rfl) (pe_lst pa_nil))
        (pss_cons (ps_set (i := 3) sc_L_split.nd rfl (.inl rfl) pe_int)
        (pss_cons (ps_for PassesOwn.never rfl (pi_list (pv 1)) (pg_name (i := 4) sc_L_split.nd rfl (.inl rfl))
          (pss_cons (ps_expr (pe_bm PySem.F.plainAttrs_list PySem.F.slot_list_append PySem.F.type_list_append mt_append (pv 2) (pa_cons (pe_callTy call_tupS (by rfl) B.tuple boot_tuple' (pa_cons (pe_slice sl_list (pv 0) (po_some (pv 3)) (po_some (pe_op op_add (pv 3) (pv 4)))) pa_nil)) pa_nil)))
          (pss_one (ps_set (i := 3) sc_L_split.nd rfl (.inl rfl) (pe_op op_add (pv 3) (pv 4))))))
        (pss_one (ps_ret (pe_callTy call_tupS (by rfl) B.tuple boot_tuple' (pa_cons (pv 2) pa_nil)))))), ?_⟩
      refine ⟨Nat.zero_le _, fun rs hrs => ?_⟩
      have e0 : Ex H (upd H rs (.lst [])) := Ex.new hrs
      refine ⟨.ref p, rfl, p, rfl, ⟨_, ex_l e0 hp⟩, for_list (xs := ns.map fun k : Nat => V.int (k : Int)) (fun i σ H' => Ex H H' ∧ (∃ ys, H' rs = some (.lst ys) ∧ Paired (IsRow H') ys ((splitL wd ns).take i)) ∧ ∃ z4, σ = [some (.ref l), some (.ref p), some (.ref rs), some (.int (((ns.take i).sum : Nat) : Int)), z4])
        ⟨e0, ⟨[], upd_same, .nil⟩, none, rfl⟩ (fun i σ H' _ pp => ex_l pp.1 hp) (fun i x σ H' hx pp => ?_) fun σ H' pp => ?_⟩
      · obtain ⟨e, ⟨ys, hys, pr⟩, z4, rfl⟩ := pp
        obtain ⟨n, hn, rfl⟩ : ∃ n, ns[i]? = some n ∧ x = V.int (n : Int) := by
          rw [List.getElem?_map] at hx
          obtain ⟨n, h1, h2⟩ := Option.map_eq_some_iff.mp hx
          exact ⟨n, h1, h2.symm⟩
        have hi := (List.getElem?_eq_some_iff.mp hn).1
        have yl : ys.length ≤ 100 := by
          have := Paired.length pr
          rw [List.length_take] at this
          omega
        refine ⟨.ref rs, rfl, .inl ⟨rfl, _, sq_of hys⟩, .ref l, rfl, .int (((ns.take i).sum : Nat) : Int), rfl, _, rfl, .int (((ns.take i).sum : Nat) : Int), rfl, .int (n : Int), rfl, _, _, rfl, rfl, _, rfl, l, _, rfl, sq_of (e _ _ hl), fun c hc => ?_⟩
        have e1 := e.trans (Ex.new (o := .lst (cutV (wd.map it) (some (((ns.take i).sum : Nat) : Int)) (some ((((ns.take i).sum : Nat) : Int) + (n : Int))))) hc)
        refine ⟨c, _, rfl, .inl ⟨sq_of upd_same, fun t ht => ?_⟩⟩
        have ec : cutV (wd.map it) (some (((ns.take i).sum : Nat) : Int)) (some ((((ns.take i).sum : Nat) : Int) + (n : Int))) = ((wd.drop (ns.take i).sum).take n).map it := by
          have : (((ns.take i).sum : Nat) : Int) + (n : Int) = (((ns.take i).sum + n : Nat) : Int) := by omega
          rw [this, cut_mid, ← List.map_take, ← List.map_drop, List.drop_take]
          congr 2
          omega
        have e2 := (Ex.new (o := .lst (cutV (wd.map it) (some (((ns.take i).sum : Nat) : Int)) (some ((((ns.take i).sum : Nat) : Int) + (n : Int))))) hc).trans (Ex.new (o := .tup (cutV (wd.map it) (some (((ns.take i).sum : Nat) : Int)) (some ((((ns.take i).sum : Nat) : Int) + (n : Int))))) ht)
        refine ⟨rs, ys, _, rfl, rfl, e2 _ _ hys, sz_lt (by omega), ?_⟩
        refine ⟨.int (((ns.take i).sum : Nat) : Int), rfl, .int (n : Int), rfl, _, _, rfl, rfl, (e.trans e2).mut hrs, ⟨_, upd_same, ?_⟩, some (.int (n : Int)), ?_⟩
        · have tt := Tle.put (o := .lst (ys ++ [.ref t])) (e2 _ _ hys) fun _ z => by cases z
          have : (splitL wd ns).take (i + 1) = (splitL wd ns).take i ++ [(wd.drop (ns.take i).sum).take n] := by
            rw [List.take_add_one, splitL_get wd hn]; rfl
          rw [this]
          refine paired_app (paired_map pr fun y c q => q.tle ((Tle.of e2).trans tt)) (.cons ⟨t, rfl, tt _ _ ?_⟩ .nil)
          rw [upd_same, ec]
        · rw [take_sum hn]
          simp
      · obtain ⟨e, ⟨ys, hys, pr⟩, z4, rfl⟩ := pp
        rw [List.length_map, ← splitL_len wd ns, List.take_length] at pr
        refine ⟨.ref rs, rfl, rs, ys, rfl, .inl ⟨sq_of hys, fun t ht => q (.ref t) _ (e.trans (Ex.new ht)) ⟨t, ys, rfl, upd_same, paired_map pr fun y c q => q.tle (Tle.new ht)⟩⟩⟩
    · refine ⟨_, pss_cons (ps_set (i := 2) sc_L_split.nd rfl (.inl rfl) (pe_lst pa_nil))
        (pss_cons (ps_set (i := 3) sc_L_split.nd rfl (.inl rfl) pe_int)
        (pss_cons (ps_for PassesOwn.never rfl (pi_tup (pv 1)) (pg_name (i := 4) sc_L_split.nd rfl (.inl rfl))
          (pss_cons (ps_expr (pe_bm PySem.F.plainAttrs_list PySem.F.slot_list_append PySem.F.type_list_append mt_append (pv 2) (pa_cons (pe_callTy call_tupS (by rfl) B.tuple boot_tuple' (pa_cons (pe_slice sl_list (pv 0) (po_some (pv 3)) (po_some (pe_op op_add (pv 3) (pv 4)))) pa_nil)) pa_nil)))
          (pss_one (ps_set (i := 3) sc_L_split.nd rfl (.inl rfl) (pe_op op_add (pv 3) (pv 4))))))
        (pss_one (ps_ret (pe_callTy call_tupS (by rfl) B.tuple boot_tuple' (pa_cons (pv 2) pa_nil)))))), ?_⟩
      refine ⟨Nat.zero_le _, fun rs hrs => ?_⟩
      have e0 : Ex H (upd H rs (.lst [])) := Ex.new hrs
      refine ⟨.ref p, rfl, p, rfl, ⟨_, ex_t e0 hp⟩, for_tup (xs := ns.map fun k : Nat => V.int (k : Int)) (fun i σ H' => Ex H H' ∧ (∃ ys, H' rs = some (.lst ys) ∧ Paired (IsRow H') ys ((splitL wd ns).take i)) ∧ ∃ z4, σ = [some (.ref l), some (.ref p), some (.ref rs), some (.int (((ns.take i).sum : Nat) : Int)), z4])
        ⟨e0, ⟨[], upd_same, .nil⟩, none, rfl⟩ (fun i σ H' _ pp => ex_t pp.1 hp) (fun i x σ H' hx pp => ?_) fun σ H' pp => ?_⟩
      · obtain ⟨e, ⟨ys, hys, pr⟩, z4, rfl⟩ := pp
        obtain ⟨n, hn, rfl⟩ : ∃ n, ns[i]? = some n ∧ x = V.int (n : Int) := by
          rw [List.getElem?_map] at hx
          obtain ⟨n, h1, h2⟩ := Option.map_eq_some_iff.mp hx
          exact ⟨n, h1, h2.symm⟩
        have hi := (List.getElem?_eq_some_iff.mp hn).1
        have yl : ys.length ≤ 100 := by
          have := Paired.length pr
          rw [List.length_take] at this
          omega
        refine ⟨.ref rs, rfl, .inl ⟨rfl, _, sq_of hys⟩, .ref l, rfl, .int (((ns.take i).sum : Nat) : Int), rfl, _, rfl, .int (((ns.take i).sum : Nat) : Int), rfl, .int (n : Int), rfl, _, _, rfl, rfl, _, rfl, l, _, rfl, sq_of (e _ _ hl), fun c hc => ?_⟩
        have e1 := e.trans (Ex.new (o := .lst (cutV (wd.map it) (some (((ns.take i).sum : Nat) : Int)) (some ((((ns.take i).sum : Nat) : Int) + (n : Int))))) hc)
        refine ⟨c, _, rfl, .inl ⟨sq_of upd_same, fun t ht => ?_⟩⟩
        have ec : cutV (wd.map it) (some (((ns.take i).sum : Nat) : Int)) (some ((((ns.take i).sum : Nat) : Int) + (n : Int))) = ((wd.drop (ns.take i).sum).take n).map it := by
          have : (((ns.take i).sum : Nat) : Int) + (n : Int) = (((ns.take i).sum + n : Nat) : Int) := by omega
          rw [this, cut_mid, ← List.map_take, ← List.map_drop, List.drop_take]
          congr 2
          omega
        have e2 := (Ex.new (o := .lst (cutV (wd.map it) (some (((ns.take i).sum : Nat) : Int)) (some ((((ns.take i).sum : Nat) : Int) + (n : Int))))) hc).trans (Ex.new (o := .tup (cutV (wd.map it) (some (((ns.take i).sum : Nat) : Int)) (some ((((ns.take i).sum : Nat) : Int) + (n : Int))))) ht)
        refine ⟨rs, ys, _, rfl, rfl, e2 _ _ hys, sz_lt (by omega), ?_⟩
        refine ⟨.int (((ns.take i).sum : Nat) : Int), rfl, .int (n : Int), rfl, _, _, rfl, rfl, (e.trans e2).mut hrs, ⟨_, upd_same, ?_⟩, some (.int (n : Int)), ?_⟩
        · have tt := Tle.put (o := .lst (ys ++ [.ref t])) (e2 _ _ hys) fun _ z => by cases z
          have : (splitL wd ns).take (i + 1) = (splitL wd ns).take i ++ [(wd.drop (ns.take i).sum).take n] := by
            rw [List.take_add_one, splitL_get wd hn]; rfl
          rw [this]
          refine paired_app (paired_map pr fun y c q => q.tle ((Tle.of e2).trans tt)) (.cons ⟨t, rfl, tt _ _ ?_⟩ .nil)
          rw [upd_same, ec]
        · rw [take_sum hn]
          simp
      · obtain ⟨e, ⟨ys, hys, pr⟩, z4, rfl⟩ := pp
        rw [List.length_map, ← splitL_len wd ns, List.take_length] at pr
        refine ⟨.ref rs, rfl, rs, ys, rfl, .inl ⟨sq_of hys, fun t ht => q (.ref t) _ (e.trans (Ex.new ht)) ⟨t, ys, rfl, upd_same, paired_map pr fun y c q => q.tle (Tle.new ht)⟩⟩⟩
end
end FB

/-! ## KD8 -/
set_option Elab.async false
set_option linter.all false
set_option maxRecDepth 100000
set_option maxHeartbeats 4000000
namespace FB
open PySem PySem.Spec PyProof.Rows L2 Evl
/-- the rooms, belt by belt -/
def rooms (h : Hd) : List (Nat × Nat) := h.zipIdx.flatMap fun p => (List.range p.1.length).map fun i => (p.2, i)
theorem rooms_from : ∀ (h : Hd) (b : Nat) (k : Nat) (x : Option Str), h.flatten[k]? = some x → ∃ c i r, ((h.zipIdx b).flatMap fun p => (List.range p.1.length).map fun i => (p.2, i))[k]? = some (b + c, i) ∧ h[c]? = some r ∧ r[i]? = some x
  | [], b, k, x, hx => by simp at hx
  | r :: h, b, k, x, hx => by
    simp only [List.zipIdx_cons, List.flatMap_cons]
    rcases Nat.lt_or_ge k r.length with z | z
    · rw [List.flatten_cons, List.getElem?_append_left z] at hx
      refine ⟨0, k, r, ?_, rfl, hx⟩
      rw [List.getElem?_append_left (by simpa using z), List.getElem?_map, List.getElem?_range z]
      rfl
    · rw [List.flatten_cons, List.getElem?_append_right z] at hx
      obtain ⟨c, i, q, h1, h2, h3⟩ := rooms_from h (b + 1) (k - r.length) x hx
      refine ⟨c + 1, i, q, ?_, by simpa using h2, h3⟩
      rw [List.getElem?_append_right (by simpa using z)]
      simp only [List.length_map, List.length_range]
      rw [h1]
      congr 2
      omega
theorem rooms_len (h : Hd) : (rooms h).length = h.flatten.length := by
  unfold rooms
  have key : ∀ (h : Hd) (b : Nat), ((h.zipIdx b).flatMap fun p => (List.range p.1.length).map fun i => (p.2, i)).length = h.flatten.length := by
    intro h
    induction h with
    | nil => intro b; rfl
    | cons r h ih => intro b; simp only [List.zipIdx_cons, List.flatMap_cons, List.length_append, List.length_map, List.length_range, ih, List.flatten_cons]
  exact key h 0
theorem nb_take (h : Hd) {k : Nat} {x : Option Str} (hx : h.flatten[k]? = some x) : ((h.flatten.take (k + 1)).flatMap fun x => (List.range h.length).map fun b => KM.put h b x) = ((h.flatten.take k).flatMap fun x => (List.range h.length).map fun b => KM.put h b x) ++ (List.range h.length).map fun b => KM.put h b x := by
  rw [List.take_add_one, hx, List.flatMap_append]
  simp
theorem IsPr.tle {H H' : Hp} (e : Tle H H') {y : V} {t : Hd} : IsPr H y t → IsPr H' y t := fun ⟨p, c, th, h1, h2, h3⟩ => ⟨p, c, th, h1, e _ _ h2, h3.tle e⟩
section
variable {P : Program} {w : World} {K : PySem.W.Frag} {mg : Str → Option Value} {base : Heap}
/-! ### carried_on -/
theorem ok_carried_on {f : Addr} {fd : FuncData} (F : Fun K "carried_on" "carried_on" s_carried_on f fd) (B : Bl mg) (cP : Cl P w K mg base 1 "put_in" sp_put_in) : FnOk P w K mg base CX0 2 f fd ["holding"] sp_carried_on := by
  refine F.ok sc_carried_on (fun vs H Q E h => ?_) (fun cdv A outer s H vs Q E hr h => ?_)
  · obtain ⟨i, _, rfl, _⟩ := h; rfl
  · obtain ⟨v, h, rfl, ih, sm, q⟩ := h
    have h5 := sm.len
    have fl5 := sm.flat
    obtain ⟨a, vs, rfl, ha, hlen, rows⟩ := ih.open_
    refine ⟨_, pss_cons (ps_setLc2 (i := 2) (own := [("belt", 1), ("row", 5), ("at", 6)]) (vs1 := [6]) (wi1 := iRng1 (tCons (tCB (rLenS K) (tCons (tVar 5) tNil)) tNil)) (g := gTup K 2 (gCons (gName 1) (gCons (gName 5) gNil))) (tt := tYes) (g1 := gName 6) (tt1 := tYes) rfl sc_carried_on.nd rfl rfl (by rfl)
        (pi_enumT (by rfl) B.enum (pa_cons (pv 0) pa_nil)) (blkOk_by (own := [("belt", 1), ("row", 5), ("at", 6)]) (N := n_carried_on) (sc := defScope s_carried_on) (by decide +kernel)) (by decide)
        (fun _ _ _ _ _ => pg_tup rfl (pgs_cons (pg_name (i := 1) sc_carried_on.nd rfl (Or.inl rfl)) (pgs_cons (pg_name (i := 5) sc_carried_on.nd rfl (Or.inl rfl)) pgs_nil))) (fun _ _ _ _ _ => pts_nil)
        (fun _ _ _ _ _ => pi_range1 (by rfl) B.range (pa_cons (pe_callB (r := rLenS K) call_lenS (by rfl) B.len boot_len' (pa_cons (pv 5) pa_nil)) pa_nil)) (fun _ _ _ _ _ => pg_name (i := 6) sc_carried_on.nd rfl (Or.inl rfl)) (fun _ _ _ _ _ => pts_nil)
        (fun _ _ _ _ _ => pe_tup (pa_cons (pv 1) (pa_cons (pv 6) pa_nil))))
      (pss_cons (ps_set (i := 3) sc_carried_on.nd rfl (.inl rfl) (pe_lst pa_nil))
      (pss_cons (ps_for PassesOwn.never rfl (pi_list (pv 2)) (pg_name (i := 4) sc_carried_on.nd rfl (.inl rfl))
        (pss_one (ps_for PassesOwn.never rfl (pi_range1 (by rfl) B.range (pa_cons (pe_callB call_lenS (by rfl) B.len boot_len' (pa_cons (pv 0) pa_nil)) pa_nil)) (pg_name (i := 1) sc_carried_on.nd rfl (.inl rfl))
          (pss_one (ps_expr (pe_bm PySem.F.plainAttrs_list PySem.F.slot_list_append PySem.F.type_list_append mt_append (pv 3) (pa_cons
            (pe_tup (pa_cons (pe_tup (pa_cons (pv 4) (pa_cons (pv 1) pa_nil))) (pa_cons (pe_cl cP hr (pa_cons (pv 0) (pa_cons (pv 1) (pa_cons (pe_ix ix_tup (pe_ix ix_tup (pv 0) (pe_ix ix_tup (pv 4) pe_int (fun _ _ => rfl)) (fun _ _ => rfl)) (pe_ix ix_tup (pv 4) pe_int (fun _ _ => rfl)) (fun _ _ => rfl)) pa_nil)))) pa_nil))) pa_nil)))))))
      (pss_one (ps_ret (pv 3))))), ?_⟩
    -- rooms
    refine ⟨.ref a, rfl, a, vs, rfl, st_of ha, fun D hD => ?_⟩
    have dr := draw_enum (K := K) (st_of (K := K) ha)
    have hz : vs.length = h.zipIdx.length := by rw [List.length_zipIdx, hlen]
    rw [hz] at dr
    refine lc2_gen (as := h.zipIdx) (fun (c : Nat × Nat) v H => ∃ p, v = .ref p ∧ H p = some (.tup [.int (c.1 : Int), .int (c.2 : Int)])) (fun p σ2 => ∃ c, σ2 = [some (.ref a), some (.int (p.2 : Int)), none, none, none, some (.ref c), none] ∧ H c = some (.tup (p.1.map it))) (fun p => List.range p.1.length) (fun p i => some (p.2, i)) (fun p i v => v = .int (i : Int))
      (fun c v H H' e hp => let ⟨p, h1, h2⟩ := hp; ⟨p, h1, e _ _ h2⟩) dr ?_ hD ?_ ?_ ?_ ?_ ?_
    · have e : (h.zipIdx.map fun b => (List.range b.1.length).length) = shp h := by
        unfold shp
        simp only [List.length_range]
        rw [show (fun b : List (Option Str) × Nat => b.1.length) = List.length ∘ Prod.fst from rfl, ← List.map_map, List.zipIdx_map_fst]
      rw [e]
      have := sm.sum
      omega
    · rintro i x ⟨r, b⟩ H1 hr1 e1 ⟨T, z, rfl, hz, hT⟩ Qc hQ
      have hrb : h[i]? = some r ∧ b = i := by
        rw [List.getElem?_zipIdx] at hr1
        obtain ⟨r', h1, h2⟩ := Option.map_eq_some_iff.mp hr1
        cases h2
        exact ⟨h1, by omega⟩
      obtain ⟨h1, rfl⟩ := hrb
      obtain ⟨c, hc, hct⟩ := rows b r h1
      rw [hz] at hc
      cases hc
      exact ⟨T, _, rfl, st_of hT, rfl, _, _, rfl, _, _, rfl, rfl, hQ _ _ (Ex.refl _) rfl ⟨c, rfl, hct⟩⟩
    · rintro ⟨r, b⟩ σ2 H1 hrb e1 ⟨c, rfl, hc⟩ Qc hQ
      refine ⟨.ref c, rfl, c, _, rfl, len_tup (e1 _ _ hc), ((r.map it).length : Int), rfl, by omega, ?_, ?_⟩
      · have hm : r ∈ h := by
          obtain ⟨i, hi⟩ := List.mem_iff_getElem?.mp hrb
          rw [List.getElem?_zipIdx] at hi
          obtain ⟨r', h1, h2⟩ := Option.map_eq_some_iff.mp hi
          cases h2
          exact List.mem_of_getElem? h1
        obtain ⟨i, hi⟩ := List.mem_iff_getElem?.mp hm
        have := (sm.row hi).2
        rw [List.length_map]; omega
      · have en : (((r.map it).length : Int)).toNat = (List.range r.length).length := by simp
        rw [en]
        refine hQ _ H1 _ (Ex.refl _) draw_rng fun j d x H' hd hx => ?_
        have hj := (List.getElem?_eq_some_iff.mp hd).1
        rw [List.length_range] at hj
        rw [List.getElem?_range hj] at hd
        cases hd
        exact hx
    · rintro ⟨r, b⟩ σ2 x ⟨c, rfl, _⟩; rfl
    · rintro ⟨r, b⟩ i x σ2 H1 _ _ e1 ⟨c, rfl, hc⟩ rfl
      exact .inr ⟨_, rfl, evb_yes, fun H2 e2 Q' q' => ⟨_, rfl, _, rfl, by show 2 ≤ sizeLine; decide, fun p hp => q' _ _ (Ex.new hp) ⟨p, rfl, upd_same⟩⟩⟩
    · intro H1 ys e1 hl p
      have ep : (h.zipIdx.flatMap fun b => (List.range b.1.length).filterMap fun i => some (b.2, i)) = rooms h := by
        unfold rooms
        congr 1
        funext b
        rw [fm_some]
      rw [ep] at p
      have yl : ys.length = h.flatten.length := by rw [Paired.length p, rooms_len]
      -- found = []
      refine ⟨Nat.zero_le _, fun l hl0 => ?_⟩
      have el : Ex H1 (upd H1 l (.lst [])) := Ex.new hl0
      have e0 := e1.trans el
      refine ⟨.ref D, rfl, D, rfl, ⟨_, sq_of (el _ _ hl)⟩, for_list (xs := ys) (fun k σ H' => Ex H1 H' ∧ (∃ zs, H' l = some (.lst zs) ∧ Paired (IsPr H') zs ((h.flatten.take k).flatMap fun x => (List.range h.length).map fun b => KM.put h b x)) ∧ ∃ z1 z4, σ = [some (.ref a), z1, some (.ref D), some (.ref l), z4, none, none])
        ⟨el, ⟨[], upd_same, .nil⟩, none, none, rfl⟩ (fun k σ H' _ pp => sq_of (pp.1 _ _ hl)) (fun k y σ H' hy pp => ?_) fun σ H' pp => ?_⟩
      · obtain ⟨e, ⟨zs, hzs, pr⟩, z1, z4, rfl⟩ := pp
        have hk : k < h.flatten.length := by rw [← yl]; exact (List.getElem?_eq_some_iff.mp hy).1
        obtain ⟨x, hx⟩ : ∃ x, h.flatten[k]? = some x := ⟨_, List.getElem?_eq_getElem hk⟩
        obtain ⟨b, i, r, r1, r2, r3⟩ := rooms_from h 0 k x hx
        have r1' : (rooms h)[k]? = some (b, i) := by
          rw [show (0 : Nat) + b = b by omega] at r1
          exact r1
        obtain ⟨y', hy', pp, rfl, hpp⟩ := paired_get p r1'
        rw [hy] at hy'
        cases hy'
        obtain ⟨c, hc1, hc2⟩ := rows b r r2
        refine ⟨.ref a, rfl, a, vs, rfl, len_tup (e _ _ (e1 _ _ ha)), (vs.length : Int), rfl, by omega, by omega, ?_⟩
        have en : ((vs.length : Int)).toNat = h.length := by omega
        rw [en]
        refine for_range (lo := 0) (n := h.length) (fun m σ H2 => Ex H1 H2 ∧ (∃ zs, H2 l = some (.lst zs) ∧ Paired (IsPr H2) zs (((h.flatten.take k).flatMap fun x => (List.range h.length).map fun b => KM.put h b x) ++ (List.range m).map fun b => KM.put h b x)) ∧ ∃ z1, σ = [some (.ref a), z1, some (.ref D), some (.ref l), some (.ref pp), none, none])
          ⟨e, ⟨zs, hzs, by simpa using pr⟩, z1, rfl⟩ (fun m σ H2 hm p2 => ?_) fun σ H2 p2 => ?_
        · obtain ⟨e2, ⟨us, hus, pr2⟩, z1, rfl⟩ := p2
          have em : (0 : Int) + (m : Nat) = (m : Int) := by omega
          rw [em]
          have ul : us.length ≤ 1000 := by
            have h1 := Paired.length pr2
            rw [List.length_append, List.length_map, List.length_range] at h1
            have h2 : ((h.flatten.take k).flatMap fun x => (List.range h.length).map fun b => KM.put h b x).length ≤ 5 * 5 := by
              rw [List.length_flatMap]
              simp only [List.length_map, List.length_range]
              rw [List.map_const', List.sum_replicate_nat, List.length_take]
              have h3 : min k h.flatten.length ≤ 5 := by omega
              exact Nat.le_trans (Nat.mul_le_mul_left _ h5) (Nat.mul_le_mul_right _ h3)
            omega
          have hpp2 := e2 _ _ hpp
          have h02 := e1.trans e2
          refine ⟨.ref l, rfl, .inl ⟨rfl, _, sq_of hus⟩, .ref pp, rfl, .int (m : Int), rfl, by show 2 ≤ sizeLine; decide, fun t1 ht1 => ?_⟩
          have e3 := Ex.new (o := .tup [.ref pp, .int (m : Int)]) ht1
          have hpp3 := e3 _ _ hpp2
          refine ⟨.ref a, rfl, .int (m : Int), rfl, .ref a, rfl, .ref pp, rfl, pp, _, 0, .int (b : Int), rfl, rfl, st_of hpp3, atI_of (j := 0) rfl, a, vs, (b : Int), .ref c, rfl, rfl, st_of ((h02.trans e3) _ _ ha), atI_of hc1, .ref pp, rfl, pp, _, 1, .int (i : Int), rfl, rfl, st_of hpp3, atI_of (j := 1) rfl, c, _, (i : Int), it x, rfl, rfl, st_of ((h02.trans e3) _ _ hc2), atI_of (get_it r3), ?_⟩
          refine ⟨.ref a, h, m, x, rfl, ih.tle (Tle.of (h02.trans e3)), sm, hm, fun u H4 e4 hu => ?_⟩
          refine ⟨by show 2 ≤ sizeLine; decide, fun t2 ht2 => ?_⟩
          have e5 := Ex.new (o := .tup [.ref t1, u]) ht2
          have e35 := e3.trans (e4.trans e5)
          have hus5 := e35 _ _ hus
          refine ⟨l, us, .ref t2, rfl, rfl, hus5, sz_lt (by omega), (e2.trans e35).mut hl0, ⟨_, upd_same, ?_⟩, _, rfl⟩
          have tt := Tle.put (o := .lst (us ++ [.ref t2])) hus5 fun _ z => by cases z
          rw [List.range_succ, List.map_append, ← List.append_assoc]
          exact paired_app (paired_map pr2 fun y c q => q.tle ((Tle.of e35).trans tt)) (.cons ⟨t2, .ref t1, u, rfl, tt _ _ upd_same, (hu.tle (Tle.of e5)).tle tt⟩ .nil)
        · obtain ⟨e2, ⟨us, hus, pr2⟩, z1, rfl⟩ := p2
          rw [← nb_take h hx] at pr2
          exact ⟨e2, ⟨us, hus, pr2⟩, _, _, rfl⟩
      · obtain ⟨e, ⟨zs, hzs, pr⟩, z1, z4, rfl⟩ := pp
        rw [yl, List.take_length] at pr
        refine ⟨.ref l, rfl, q l zs H' (e1.trans e) (fresh_back e1 hl0) hzs pr⟩
end
end FB

/-! ## KD9 -/
set_option Elab.async false
set_option linter.all false
set_option maxRecDepth 100000
set_option maxHeartbeats 4000000
namespace FB
open PySem PySem.Spec PyProof.Rows L2 Evl
theorem Chn.tle {H H' : Hp} (e : Tle H H') {xs : List Ent} {E : List (Hd × Nat)} (c : Chn H xs E) : Chn H' xs E := fun t n h => by
  obtain ⟨v, h1, h2⟩ := c t n h
  refine ⟨v, h1, ?_⟩
  cases n with
  | zero => exact h2
  | succ m =>
    obtain ⟨p, a, c, u, e1, e2, e3, e4⟩ := h2
    exact ⟨p, a, c, u, e1, e _ _ e2, e3.tle e, e4⟩
theorem DN.keep {P : Program} {w : World} {H H' : Hp} {d : Addr} {xs : List Ent} (D : DN P w H d xs) (e : Tle H H') (hd : H' d = H d) : DN P w H' d xs := ⟨by rw [hd]; exact D.1, fun x hx => (D.2 x hx).tle e⟩
theorem DN.ex {P : Program} {w : World} {H H' : Hp} {d : Addr} {xs : List Ent} (D : DN P w H d xs) (e : Ex H H') : DN P w H' d xs := ⟨e _ _ D.1, fun x hx => (D.2 x hx).tle (Tle.of e)⟩
section
variable {P : Program} {w : World} {K : PySem.W.Frag} {mg : Str → Option Value} {base : Heap}
/-! ### way_back -/
theorem ok_way_back {f : Addr} {fd : FuncData} (F : Fun K "way_back" "way_back" s_way_back f fd) (B : Bl mg) : FnOk P w K mg base CX0 1 f fd ["came", "holding"] (sp_way_back P w) := by
  refine F.ok sc_way_back (fun vs H Q E h => ?_) (fun cdv A outer s H vs Q E hr h => ?_)
  · obtain ⟨_, _, _, _, _, _, rfl, _⟩ := h; rfl
  · obtain ⟨d, v, xs, E2, t, n, rfl, dn, ch, hm, hn, iv, q⟩ := h
    have hu := hr.units
    refine ⟨_, pss_cons (ps_set (i := 2) sc_way_back.nd rfl (.inl rfl) (pe_lst pa_nil))
      (pss_cons (ps_while PassesOwn.never (pt_cmp (pc_notN (pe_getN hu (pv 0) (pv 1) (fun _ _ => rfl))))
        (pss_cons (ps_asg (pe_getN hu (pv 0) (pv 1) (fun _ _ => rfl)) (pg_tup rfl (pgs_cons (pg_name (i := 1) sc_way_back.nd rfl (.inl rfl)) (pgs_cons (pg_name (i := 3) sc_way_back.nd rfl (.inl rfl)) pgs_nil))))
        (pss_one (ps_expr (pe_bm PySem.F.plainAttrs_list PySem.F.slot_list_append PySem.F.type_list_append mt_append (pv 2) (pa_cons (pv 3) pa_nil))))))
      (pss_one (ps_ret (pe_callTy call_tupS (by rfl) B.tuple boot_tuple' (pa_cons (pe_revL (pv 2)) pa_nil))))), ?_⟩
    refine ⟨Nat.zero_le _, fun l hl => ?_⟩
    have e0 : Ex H (upd H l (.lst [])) := Ex.new hl
    refine ⟨fun m σ H' => Ex H H' ∧ ∃ t v z3 cs, σ = [some (.ref d), some v, some (.ref l), z3] ∧ H' l = some (.lst cs) ∧ cs.length + m = n ∧ IsH H' v t ∧ (t, m) ∈ E2, ⟨n, e0, t, v, none, [], rfl, upd_same, by simp, iv.tle (Tle.of e0), hm⟩, ?_⟩
    rintro m σ H' ⟨e, t, v, z3, cs, rfl, hcs, hlen, ivt, hmm⟩
    obtain ⟨b, vb, rfl, hb, pb⟩ := id ivt
    have dn' := dn.ex e
    have ch' := ch.tle (Tle.of e)
    obtain ⟨z, hz1, hz2⟩ := ch' t m hmm
    refine ⟨.ref d, rfl, .ref b, rfl, b, d, t, xs, z, rfl, rfl, ivt, dn', hz1, _, rfl, ?_⟩
    cases m with
    | zero =>
      have hz2 : z = .non := hz2
      subst hz2
      refine iteF ?_
      -- the end
      refine ⟨.ref l, rfl, l, cs, rfl, sq_of hcs, fun p hp => ⟨p, cs.reverse, rfl, .inl ⟨sq_of upd_same, fun r hr => ?_⟩⟩⟩
      exact q (.ref r) _ (e.trans ((Ex.new hp).trans (Ex.new hr))) ⟨r, cs.reverse, rfl, upd_same, by rw [List.length_reverse]; omega⟩
    | succ k =>
      obtain ⟨p, a2, c2, u, rfl, hp, iu, hu2⟩ := hz2
      refine iteT ⟨fun σ' H2 => Ex H H2 ∧ ∃ t v z3 cs, σ' = [some (.ref d), some v, some (.ref l), z3] ∧ H2 l = some (.lst cs) ∧ cs.length + k = n ∧ IsH H2 v t ∧ (t, k) ∈ E2, fun σ' H2 x => ⟨k, by omega, x⟩, ?_⟩
      refine ⟨.ref d, rfl, .ref b, rfl, b, d, t, xs, .ref p, rfl, rfl, ivt, dn', hz1, p, _, rfl, st_of hp, rfl, .ref a2, [c2], rfl, c2, [], rfl, rfl, ?_⟩
      refine ⟨.ref l, rfl, .inl ⟨rfl, _, sq_of hcs⟩, c2, rfl, l, cs, c2, rfl, rfl, hcs, sz_lt (by omega), e.mut hl, u, .ref a2, some c2, cs ++ [c2], rfl, upd_same, by rw [List.length_append]; simp; omega, iu.tle (Tle.put hcs fun _ z => by cases z), hu2⟩
end
end FB

/-! ## KMid -/
set_option Elab.async false
set_option linter.all false
set_option maxRecDepth 100000
set_option maxHeartbeats 4000000
namespace FB
open PySem PySem.Spec PyProof.Rows L2 Evl
theorem mem_items {h : Hd} {x : Str} : x ∈ items h ↔ some x ∈ h.flatten := by
  unfold items
  rw [List.mem_filterMap]
  constructor
  · rintro ⟨y, h1, h2⟩
    have : y = some x := h2
    rw [← this]; exact h1
  · intro h1; exact ⟨some x, h1, rfl⟩
theorem filt_flat (W : List Str) (h : Hd) : (filt W h).flatten = h.flatten.map (keepIf W) := by
  unfold filt
  rw [List.map_flatten]
theorem filt_shp (W : List Str) (h : Hd) : shp (filt W h) = shp h := by
  unfold filt shp
  rw [List.map_map]
  congr 1
  funext r
  simp
theorem keepIf_some {W : List Str} {x : Option Str} {a : Str} (h : keepIf W x = some a) : x = some a ∧ a ∈ W := by
  cases x with
  | none => cases h
  | some y =>
    by_cases hy : y ∈ W
    · have e : keepIf W (some y) = some y := if_pos hy
      rw [e] at h
      have h' := Option.some.inj h
      rw [← h']
      exact ⟨rfl, hy⟩
    · have e : keepIf W (some y) = none := if_neg hy
      rw [e] at h
      cases h
theorem uniq_ix : ∀ (l : List (Option Str)), (l.filterMap id).Nodup → ∀ (i j : Nat) (a : Str), l[i]? = some (some a) → l[j]? = some (some a) → i = j
  | [], _, i, j, a, h, _ => by simp at h
  | x :: l, hn, i, j, a, h1, h2 => by
    have tail : (l.filterMap id).Nodup := by
      cases x with
      | none => simpa using hn
      | some y => exact (List.nodup_cons.mp (by simpa using hn)).2
    have head : ∀ y, x = some y → some y ∉ l := fun y e hm => by
      subst e
      have := (List.nodup_cons.mp (by simpa using hn : (y :: l.filterMap id).Nodup)).1
      exact this (List.mem_filterMap.mpr ⟨some y, hm, rfl⟩)
    cases i with
    | zero =>
      cases j with
      | zero => rfl
      | succ j =>
        simp at h1 h2
        exact absurd (List.mem_of_getElem? h2) (head a h1)
    | succ i =>
      cases j with
      | zero =>
        simp at h1 h2
        exact absurd (List.mem_of_getElem? h1) (head a h2)
      | succ j =>
        simp at h1 h2
        rw [uniq_ix l tail i j a h1 h2]
theorem Two.given {h g : Hd} (t : Two h g) : KM.Given (filt (items g) h) g where
  sh := by
    have := filt_shp (items g) h
    unfold shp at this
    rw [this]
    exact t.sh
  pos := t.s2.pos
  gd := uniq_ix g.flatten t.d2
  pr := fun a ha => by
    have h1 := mem_items.mpr ha
    have h2 := mem_items.mp (t.sub a h1)
    rw [filt_flat]
    exact List.mem_map.mpr ⟨some a, h2, if_pos h1⟩
  fi := fun a ha => by
    rw [filt_flat] at ha
    obtain ⟨x, hx, e⟩ := List.mem_map.mp ha
    exact mem_items.mp (keepIf_some e).2
/-- all states that a search meets -/
def Dom (g : Hd) : KM.Row Str := none :: (items g).map some
theorem Two.of_s {h g : Hd} (t : Two h g) : KM.Of (Dom g) (shp g) (filt (items g) h) := by
  refine ⟨by rw [show (filt (items g) h).map List.length = shp (filt (items g) h) from rfl, filt_shp, t.sh], fun x hx => ?_⟩
  cases x with
  | none => exact List.mem_cons_self
  | some a => exact List.mem_cons_of_mem _ (List.mem_map.mpr ⟨a, mem_items.mpr (t.given.fi a hx), rfl⟩)
theorem Two.reach {h g : Hd} (t : Two h g) {n : Nat} {u : Hd} (r : KM.Reach (filt (items g) h) n u) : KM.Of (Dom g) (shp g) u := KM.Reach.of t.of_s t.s2.pos r
theorem Two.card {h g : Hd} (t : Two h g) {l : List Hd} (hn : l.Nodup) (o : ∀ u ∈ l, KM.Of (Dom g) (shp g) u) : l.length ≤ 7776 := by
  refine Nat.le_trans (KM.Of.card hn o) ?_
  have h1 : (Dom g).length ≤ 6 := by
    unfold Dom
    simp only [List.length_cons, List.length_map]
    have : (items g).length ≤ g.flatten.length := List.length_filterMap_le _ _
    have := t.s2.flat
    omega
  have h2 := t.s2.sum
  exact Nat.le_trans (Nat.pow_le_pow_left h1 _) (Nat.le_trans (Nat.pow_le_pow_right (by omega) h2) (by decide))
theorem of_sm {g u : Hd} (s : Sm g) (o : KM.Of (Dom g) (shp g) u) : Sm u ∧ shp u = shp g := ⟨s.of_shp o.1.symm, o.1⟩
theorem Two.few {h g : Hd} (t : Two h g) {n : Nat} (l : KM.Least (KM.Fits g) (filt (items g) h) n) : n ≤ 55 := by
  apply Classical.byContradiction
  intro hn
  by_cases c : none ∈ g.flatten ∨ KM.Alike (filt (items g) h) g
  · obtain ⟨k, hk, l2⟩ := t.given.main.1 c
    have e := l.uniq l2
    have f := t.s2.flat
    have h1 : 2 * g.flatten.length * g.flatten.length ≤ 2 * 5 * 5 := Nat.mul_le_mul (Nat.mul_le_mul_left 2 f) f
    omega
  · exact l.not_never (t.given.main.2 c)
end FB

/-! ## KD10 -/
set_option Elab.async false
set_option linter.all false
set_option maxRecDepth 100000
set_option maxHeartbeats 8000000
namespace FB
open PySem PySem.Spec PyProof.Rows L2 Evl
/-- the dict came and the list waiting, for the entries E -/
def Qh (P : Program) (w : World) (d wt : Addr) (E : List (Hd × Nat)) (H : Hp) : Prop := ∃ xs ws, DN P w H d xs ∧ xs.map (·.1) = E.map (·.1) ∧ Chn H xs E ∧ H wt = some (.lst ws) ∧ Paired (IsH H) ws (E.map (·.1))
theorem Qh.ex {P : Program} {w : World} {d wt : Addr} {E : List (Hd × Nat)} {H H' : Hp} (q : Qh P w d wt E H) (e : Ex H H') : Qh P w d wt E H' := by
  obtain ⟨xs, ws, h1, h2, h3, h4, h5⟩ := q
  exact ⟨xs, ws, h1.ex e, h2, h3.tle (Tle.of e), e _ _ h4, paired_map h5 fun v h q => q.tle (Tle.of e)⟩
theorem lookE_app_old {xs : List Ent} {e : Ent} {t : Hd} {v : V} (h : lookE xs t = some v) : lookE (xs ++ [e]) t = some v := by
  unfold lookE at h ⊢
  obtain ⟨y, hy, rfl⟩ := Option.map_eq_some_iff.mp h
  rw [List.find?_append, hy]
  rfl
theorem lookE_app_new {xs : List Ent} {u : Hd} {a : Addr} {v : V} (h : u ∉ xs.map (·.1)) : lookE (xs ++ [(u, a, v)]) u = some v := by
  have h0 := not_mem_look h
  unfold lookE at h0 ⊢
  rw [Option.map_eq_none_iff] at h0
  rw [List.find?_append, h0]
  simp
theorem Chn.add {H : Hp} {xs : List Ent} {E : List (Hd × Nat)} {u t : Hd} {a b p : Addr} {c : V} {l : Nat} (ch : Chn H xs E) (hk : xs.map (·.1) = E.map (·.1)) (hu : u ∉ E.map (·.1)) (hp : H p = some (.tup [.ref a, c])) (it : IsH H (.ref a) t) (hm : (t, l) ∈ E) :
    Chn H (xs ++ [(u, b, .ref p)]) (E ++ [(u, l + 1)]) := fun t' n h => by
  rcases List.mem_append.mp h with h | h
  · obtain ⟨v, h1, h2⟩ := ch t' n h
    refine ⟨v, lookE_app_old h1, ?_⟩
    cases n with
    | zero => exact h2
    | succ m =>
      obtain ⟨p, a, c, u, e1, e2, e3, e4⟩ := h2
      exact ⟨p, a, c, u, e1, e2, e3, List.mem_append_left _ e4⟩
  · have e := List.mem_singleton.mp h
    injection e with e1 e2
    subst e1; subst e2
    exact ⟨.ref p, lookE_app_new (by rw [hk]; exact hu), p, a, c, t, rfl, hp, it, List.mem_append_left _ hm⟩
theorem paired_its : ∀ {ys : List V} {r : List (Option Str)}, Paired (fun y c => y = it c) ys r → ys = r.map it
  | _, _, .nil => rfl
  | _, _, .cons a b => by rw [a, paired_its b]; rfl
section
variable {P : Program} {w : World} {K : PySem.W.Frag} {mg : Str → Option Value} {base : Heap}
/-! ### fewest -/
theorem ok_fewest {f : Addr} {fd : FuncData} (F : Fun K "fewest" "fewest" s_fewest f fd) (B : Bl mg) (cI : Cl P w K mg base 1 "items_of" sp_items_of) (cF : Cl P w K mg base 1 "fits" sp_fits) (cW : Cl P w K mg base 1 "way_back" (sp_way_back P w)) (cC : Cl P w K mg base 2 "carried_on" sp_carried_on) :
    FnOk P w K mg base CX0 3 f fd ["begin", "goal"] sp_fewest := by
  refine F.ok sc_fewest (fun vs H Q E h => ?_) (fun cdv A outer s H vs Q E hr h => ?_)
  · obtain ⟨i, _, _, _, rfl, _⟩ := h; rfl
  · obtain ⟨v, u, h, g, rfl, ih, ig, tw, q⟩ := h
    have hu := hr.units
    have h5 := tw.s1.len
    refine ⟨_, pss_cons (ps_set (i := 2) sc_fewest.nd rfl (.inr rfl) (pe_cl cI hr (pa_cons (pv 1) pa_nil)))
      (pss_cons (ps_set (i := 3) sc_fewest.nd rfl (.inl rfl) (pe_callTy call_tupS (by rfl) B.tuple boot_tuple' (pa_cons
        (pe_lc (own := [("row", 10)]) (g := gName 10) (tt := tYes) rfl sc_fewest.nd (pi_tup (pv 0)) (blkOk_by (own := [("row", 10)]) (N := n_fewest) (sc := defScope s_fewest) (by decide +kernel)) (fun _ _ _ _ _ => pg_name (i := 10) sc_fewest.nd rfl (Or.inl rfl)) (fun _ _ _ _ _ => pts_nil)
          (fun _ _ _ _ _ => pe_callTy (r := rTupS K) call_tupS (by rfl) B.tuple boot_tuple' (pa_cons
            (pe_lc (wi := iTup K (tVar 10)) (own := [("item", 11)]) (g := gName 11) (tt := tYes) rfl sc_fewest.nd (pi_tup (pv 10)) (blkOk_by (own := [("item", 11)]) (N := n_fewest) (by rfl)) (fun _ _ _ _ _ => pg_name (i := 11) sc_fewest.nd rfl (Or.inl rfl)) (fun _ _ _ _ _ => pts_nil)
              (fun _ _ _ _ _ => pe_ifExp (pt_cmpR (r := rIn K false) op_in_seq (pv 11) (pv 2) rfl) (pv 11) pe_non)) pa_nil))) pa_nil)))
      (pss_cons (ps_set (i := 4) sc_fewest.nd rfl (.inl rfl) (pe_dispN hu (pv 3) pe_non))
      (pss_cons (ps_set (i := 5) sc_fewest.nd rfl (.inl rfl) (pe_lst (pa_cons (pv 3) pa_nil)))
      (pss_cons (ps_set (i := 6) sc_fewest.nd rfl (.inl rfl) pe_int)
      (pss_cons (ps_while PassesOwn.never (pt_cmpR op_lt (pv 6) (pe_callB call_lenS (by rfl) B.len boot_len' (pa_cons (pv 5) pa_nil)) (nomark _))
        (pss_cons (ps_set (i := 7) sc_fewest.nd rfl (.inl rfl) (pe_ix ix_list (pv 5) (pv 6) (fun _ _ => rfl)))
        (pss_cons (ps_aug (i := 6) sc_fewest.nd rfl (.inl rfl) pe_int ip_add)
        (pss_cons (ps_if (pt_val (pe_cl cF hr (pa_cons (pv 7) (pa_cons (pv 1) pa_nil)))) (pss_one (ps_ret (pe_cl cW hr (pa_cons (pv 4) (pa_cons (pv 7) pa_nil))))) pss_nil)
        (pss_one (ps_for PassesOwn.never rfl (pi_list (pe_cl cC hr (pa_cons (pv 7) pa_nil))) (pg_tup rfl (pgs_cons (pg_name (i := 8) sc_fewest.nd rfl (.inl rfl)) (pgs_cons (pg_name (i := 9) sc_fewest.nd rfl (.inl rfl)) pgs_nil)))
          (pss_one (ps_if (pt_cmpR (op_notInN hu) (pv 9) (pv 4) rfl)
            (pss_cons (ps_asg (pe_tup (pa_cons (pv 7) (pa_cons (pv 8) pa_nil))) (pg_sub (pv 4) (pv 9) (set_N hu)))
            (pss_one (ps_expr (pe_bm PySem.F.plainAttrs_list PySem.F.slot_list_append PySem.F.type_list_append mt_append (pv 5) (pa_cons (pv 9) pa_nil))))) pss_nil))))))))
      (pss_one (ps_ret pe_non))))))), ?_⟩
    -- wanted
    refine ⟨u, rfl, u, g, rfl, ig, tw.s2, fun wl H1 e1 hwl0 hwl => ?_⟩
    obtain ⟨a, vs, rfl, ha, hlen, rows⟩ := ih.open_
    -- first
    refine ⟨.ref a, rfl, a, rfl, ⟨_, st_of (e1 _ _ ha)⟩, fun D hD => lc_mapT (as := h) (fun r => some (r.map (keepIf (items g)))) (fun r v H => IsRow H v r) (fun r => mono_row) (st_of (e1 _ _ ha)) hlen (by omega) hD (fun _ => rfl) (fun i x r hx hr1 H2 e2 => .inr ⟨_, rfl, evb_yes, fun H3 e3 Q' q' => ?_⟩) fun H2 ys e2 hl2 p2 => ?_⟩
    · obtain ⟨c, hc, hct⟩ := rows i r hr1
      rw [hx] at hc
      cases hc
      obtain ⟨rp, r5⟩ := tw.s1.row hr1
      have hc3 := (e1.trans (e2.trans e3)) _ _ hct
      refine ⟨.ref c, rfl, c, rfl, ⟨_, st_of hc3⟩, fun D3 hD3 => lc_mapT (as := r) (fun y => some (keepIf (items g) y)) (fun y v _ => v = it y) (fun c => mono_eq) (st_of hc3) (by simp) (by omega) hD3 (fun _ => rfl) (fun j z y hz hy H4 e4 => .inr ⟨_, rfl, evb_yes, fun H5 e5 Q2 q2 => ?_⟩) fun H4 ys4 e4 hl4 p4 => ?_⟩
      · rw [get_it hy] at hz
        cases hz
        have hw5 : H5 wl = some (.lst ((items g).map V.str)) := (e2.trans (e3.trans (e4.trans e5))) _ _ hwl
        cases y with
        | none =>
          refine ⟨.non, rfl, .ref wl, rfl, wl, _, rfl, .inl (sq_of hw5), rfl, flat_strs' _, false, ?_, ?_⟩
          · show V.bl (inV .non _) = _
            rw [inV_non]
          · exact iteF (q2 _ _ (Ex.refl _) rfl)
        | some y =>
          refine ⟨.str y, rfl, .ref wl, rfl, wl, _, rfl, .inl (sq_of hw5), rfl, flat_strs' _, decide (y ∈ items g), ?_, ?_⟩
          · show V.bl (inV (.str y) _) = _
            rw [inV_str]
          · by_cases hy2 : y ∈ items g
            · rw [decide_eq_true hy2]
              exact iteT ⟨.str y, rfl, q2 _ _ (Ex.refl _) (by rw [show keepIf (items g) (some y) = some y from if_pos hy2]; rfl)⟩
            · rw [decide_eq_false hy2]
              exact iteF (q2 _ _ (Ex.refl _) (by rw [show keepIf (items g) (some y) = none from if_neg hy2]; rfl))
      · rw [fm_some] at p4
        have ey : ys4 = (r.map (keepIf (items g))).map it := paired_its p4
        refine ⟨D3, _, rfl, .inl ⟨sq_of hl4, fun t ht => q' _ _ (e4.trans (Ex.new ht)) ⟨t, rfl, by rw [upd_same, ey]⟩⟩⟩
    rw [fm_some] at p2
    refine ⟨D, _, rfl, .inl ⟨sq_of hl2, fun fa hfa => ?_⟩⟩
    have e12 := e2.trans (Ex.new (o := .tup ys) hfa)
    have e02 := e1.trans e12
    have isF : IsH (upd H2 fa (.tup ys)) (.ref fa) (filt (items g) h) := ⟨fa, ys, rfl, upd_same, paired_map p2 fun y r q => q.tle (Tle.new hfa)⟩
    generalize hs : filt (items g) h = s0 at isF q
    have hgiven : KM.Given s0 g := hs ▸ tw.given
    have hreach : ∀ {n : Nat} {u : Hd}, KM.Reach s0 n u → KM.Of (Dom g) (shp g) u := fun r => tw.reach (hs ▸ r)
    have hfew : ∀ {n : Nat}, KM.Least (KM.Fits g) s0 n → n ≤ 55 := fun l => tw.few (hs ▸ l)
    generalize upd H2 fa (.tup ys) = H3 at isF e02 e12
    -- came, waiting, at
    refine fun d hd => ⟨.ref fa, rfl, upd_same, fa, s0, rfl, isF.tle (Tle.new hd), ?_⟩
    rw [upd_upd]
    have e3 : Ex H3 (upd H3 d (dN P w d [(s0, fa, V.non)])) := Ex.new hd
    refine ⟨.ref fa, rfl, by show 1 ≤ sizeLine; decide, fun wt hwt => ?_⟩
    have e4 : Ex (upd H3 d (dN P w d [(s0, fa, V.non)])) (upd (upd H3 d (dN P w d [(s0, fa, V.non)])) wt (.lst [.ref fa])) := Ex.new hwt
    have e04 := e02.trans (e3.trans e4)
    have q0 : Qh P w d wt [(s0, 0)] (upd (upd H3 d (dN P w d [(s0, fa, V.non)])) wt (.lst [.ref fa])) := by
      refine ⟨[(s0, fa, .non)], [.ref fa], ⟨e4 _ _ upd_same, fun x hx => ?_⟩, rfl, fun t n h => ?_, upd_same, .cons (isF.tle (Tle.of (e3.trans e4))) .nil⟩
      · rw [List.mem_singleton.mp hx]
        exact isF.tle (Tle.of (e3.trans e4))
      · have e := List.mem_singleton.mp h
        injection e with e1 e2
        subst e1; subst e2
        exact ⟨.non, by simp [lookE], rfl⟩
    have hd0 : H d = none := fresh_back e02 hd
    have hwt0 : H wt = none := fresh_back (e02.trans e3) hwt
    have hdw : d ≠ wt := by
      intro z
      subst z
      rw [upd_same] at hwt
      cases hwt
    -- the search
    refine ⟨fun m σ H5 => ∃ (at_ : Nat) (E2 : List (Hd × Nat)) (z7 z8 z9 : Option V), σ = [some (.ref a), some u, some (.ref wl), some (.ref fa), some (.ref d), some (.ref wt), some (.int (at_ : Int)), z7, z8, z9, none, none] ∧ Ex H H5 ∧ Qh P w d wt E2 H5 ∧ KM.Qu (KM.Fits g) s0 E2 at_ ∧ at_ ≤ E2.length ∧ m + at_ = 8000,
      ⟨8000, 0, [(s0, 0)], none, none, none, rfl, e04, q0, KM.Qu.start, Nat.zero_le _, rfl⟩, ?_⟩
    rintro m σ H5 ⟨at_, E2, z7, z8, z9, rfl, e5, qh, qu, hat, hm⟩
    have card : ∀ {E3 : List (Hd × Nat)} {k : Nat}, KM.Qu (KM.Fits g) s0 E3 k → E3.length ≤ 7776 := fun {E3 k} qu => by
      have := tw.card qu.nd fun x hx => by
        obtain ⟨⟨x, n⟩, hy, rfl⟩ := List.mem_map.mp hx
        exact hreach (qu.re x n hy)
      simpa using this
    have hE := card qu
    obtain ⟨xs, ws, dn, keys, ch, hws, pws⟩ := id qh
    have wl2 : ws.length = E2.length := by have := Paired.length pws; simpa using this
    refine ⟨.int (at_ : Int), rfl, .ref wt, rfl, wt, ws, rfl, .inl (sq_of hws), _, _, rfl, rfl, decide ((at_ : Int) < (ws.length : Int)), rfl, ?_⟩
    by_cases hlt : at_ < E2.length
    · rw [decide_eq_true (by omega)]
      refine iteT ⟨fun σ' H' => ∃ (E3 : List (Hd × Nat)) (z7 z8 z9 : Option V), σ' = [some (.ref a), some u, some (.ref wl), some (.ref fa), some (.ref d), some (.ref wt), some (.int ((at_ + 1 : Nat) : Int)), z7, z8, z9, none, none] ∧ Ex H H' ∧ Qh P w d wt E3 H' ∧ KM.Qu (KM.Fits g) s0 E3 (at_ + 1) ∧ at_ + 1 ≤ E3.length,
        fun σ' H' ⟨E3, z7, z8, z9, x1, x2, x3, x4, x5⟩ => ⟨m - 1, by omega, at_ + 1, E3, z7, z8, z9, x1, x2, x3, x4, x5, by omega⟩, ?_⟩
      obtain ⟨⟨t, l⟩, hEt⟩ : ∃ y, E2[at_]? = some y := ⟨_, List.getElem?_eq_getElem hlt⟩
      obtain ⟨hv, hwv, iht⟩ := paired_get pws (i := at_) (y := t) (by rw [List.getElem?_map, hEt]; rfl)
      have hmt := List.mem_of_getElem? hEt
      obtain ⟨smt, sht⟩ := of_sm tw.s2 (hreach (qu.re t l hmt))
      -- here, at
      refine ⟨.ref wt, rfl, .int (at_ : Int), rfl, wt, ws, (at_ : Int), hv, rfl, rfl, sq_of hws, atI_of hwv, ?_⟩
      refine ⟨.int (at_ : Int), rfl, _, _, rfl, rfl, ?_⟩
      have eat : ((at_ : Int) + 1) = ((at_ + 1 : Nat) : Int) := by omega
      -- fits
      refine ⟨hv, rfl, u, rfl, hv, u, t, g, rfl, iht, ig.tle (Tle.of e5), smt, sht, fun bb H6 e6 hbb => ?_⟩
      refine ⟨bb, rfl, ?_⟩
      cases bb with
      | true =>
        have ls := qu.found hEt (hbb.mp rfl)
        have l55 := hfew ls
        refine iteT ⟨.ref d, rfl, hv, rfl, d, hv, xs, E2, t, l, rfl, dn.ex e6, ch.tle (Tle.of e6), hmt, by omega, iht.tle (Tle.of e6), fun z H7 e7 hz => ?_⟩
        exact q (some l) z H7 ls (e5.trans (e6.trans e7)) hz
      | false =>
        have nf : ¬ KM.Fits g t := fun z => nomatch hbb.mpr z
        refine iteF ?_
        -- for carry, there in carried_on(here)
        refine ⟨hv, rfl, hv, t, rfl, iht.tle (Tle.of e6), smt, fun D7 ys7 H7 e7 hD70 hD7 p7 => ?_⟩
        have e57 := e5.trans (e6.trans e7)
        have qh7 := (qh.ex e6).ex e7
        refine ⟨D7, rfl, ⟨_, sq_of hD7⟩, for_list (xs := ys7) (fun j σ H' => Tle H7 H' ∧ Ex H H' ∧ H' D7 = some (.lst ys7) ∧ ∃ E3 z8 z9, σ = [some (.ref a), some u, some (.ref wl), some (.ref fa), some (.ref d), some (.ref wt), some (.int ((at_ + 1 : Nat) : Int)), some hv, z8, z9, none, none] ∧ Qh P w d wt E3 H' ∧ KM.QuIn (KM.Fits g) s0 E3 at_ t l ((KM.nb t).take j))
          ⟨Tle.refl _, e57, hD7, E2, z8, z9, by rw [← eat]; rfl, qh7, KM.QuIn.start qu hEt⟩ (fun j σ H' _ pp => sq_of pp.2.2.1) (fun j y σ H' hy pp => ?_) fun σ H' pp => ?_⟩
        · obtain ⟨t7, e8, hD8, E3, z8', z9', rfl, qh8, qin⟩ := pp
          obtain ⟨un, hun, p, c, th, rfl, hp, ith⟩ := paired_getL p7 hy
          have hp8 := t7 _ _ hp
          have ith8 := ith.tle t7
          obtain ⟨thb, thv, rfl, hthb, _⟩ := id ith8
          obtain ⟨xs8, ws8, dn8, keys8, ch8, hws8, pws8⟩ := id qh8
          have enb : (KM.nb t).take (j + 1) = (KM.nb t).take j ++ [un] := by rw [List.take_add_one, hun]; rfl
          have mnb : un ∈ KM.nb t := List.mem_of_getElem? hun
          refine ⟨p, [c, .ref thb], rfl, st_of hp8, rfl, c, [.ref thb], rfl, .ref thb, [], rfl, rfl, ?_⟩
          refine ⟨.ref thb, rfl, .ref d, rfl, thb, d, un, xs8, rfl, rfl, ith8, dn8, _, rfl, ?_⟩
          by_cases hin : un ∈ xs8.map (·.1)
          · rw [decide_eq_true hin]
            rw [keys8] at hin
            refine iteF ⟨t7, e8, hD8, E3, _, _, rfl, qh8, ?_⟩
            rw [enb]
            exact qin.old hin
          · rw [decide_eq_false hin]
            have hin' : un ∉ E3.map (·.1) := by rw [← keys8]; exact hin
            have hE3 := card qin.q
            have iht8 : IsH H' hv t := (iht.tle (Tle.of (e6.trans e7))).tle t7
            obtain ⟨ha8, hv8, rfl, hha8, _⟩ := id iht8
            refine iteT ⟨.ref ha8, rfl, c, rfl, by show 2 ≤ sizeLine; decide, fun pp hpp => ?_⟩
            have e9 := Ex.new (o := .tup [.ref ha8, c]) hpp
            have dn9 := dn8.ex e9
            have hxl : xs8.length = E3.length := by have := congrArg List.length keys8; simpa using this
            refine ⟨.ref d, rfl, .ref thb, rfl, thb, d, un, xs8, rfl, rfl, ith8.tle (Tle.of e9), dn9, hin, sz_lt (by omega), ?_⟩
            have t10 : Tle (upd H' pp (.tup [.ref ha8, c])) (upd (upd H' pp (.tup [.ref ha8, c])) d (dN P w d (xs8 ++ [(un, thb, .ref pp)]))) := Tle.put dn9.1 fun _ z => by cases z
            have hws9 : (upd (upd H' pp (.tup [.ref ha8, c])) d (dN P w d (xs8 ++ [(un, thb, .ref pp)]))) wt = some (.lst ws8) := by
              rw [upd_ne (Ne.symm hdw)]
              exact e9 _ _ hws8
            have wl8 : ws8.length = E3.length := by have := Paired.length pws8; simpa using this
            refine ⟨.ref wt, rfl, .inl ⟨rfl, _, sq_of hws9⟩, .ref thb, rfl, wt, ws8, .ref thb, rfl, rfl, hws9, sz_lt (by omega), ?_⟩
            have t11 : Tle (upd (upd H' pp (.tup [.ref ha8, c])) d (dN P w d (xs8 ++ [(un, thb, .ref pp)]))) (upd (upd (upd H' pp (.tup [.ref ha8, c])) d (dN P w d (xs8 ++ [(un, thb, .ref pp)]))) wt (.lst (ws8 ++ [.ref thb]))) := Tle.put hws9 fun _ z => by cases z
            have tt := ((Tle.of e9).trans t10).trans t11
            have hDd : D7 ≠ d := ne_of hD8 dn8.1 fun z => by cases z
            have hDw : D7 ≠ wt := by
              intro z
              subst z
              have h1 : H6 D7 = none := hD70
              have h2 : H6 D7 = some (.lst ws) := e6 _ _ hws
              rw [h1] at h2
              cases h2
            refine ⟨t7.trans tt, ((e8.trans e9).mut hd0).mut hwt0, ?_, E3 ++ [(un, l + 1)], _, _, rfl, ⟨xs8 ++ [(un, thb, .ref pp)], ws8 ++ [.ref thb], ?_, ?_, ?_, upd_same, ?_⟩, ?_⟩
            · rw [upd_ne hDw, upd_ne hDd]
              exact e9 _ _ hD8
            · exact (DN.snoc dn9 (ith8.tle (Tle.of e9))).keep t11 (upd_ne hdw)
            · rw [List.map_append, List.map_append, keys8]; rfl
            · exact Chn.add (ch8.tle tt) keys8 hin' ((t10.trans t11) _ _ upd_same) (iht8.tle tt) (List.mem_of_getElem? qin.h)
            · rw [List.map_append]
              exact paired_app (paired_map pws8 fun v h q => q.tle tt) (.cons (ith8.tle tt) .nil)
            · rw [enb]
              exact qin.new hin' mnb
        · obtain ⟨t7, e8, hD8, E3, z8', z9', rfl, qh8, qin⟩ := pp
          have yl : ys7.length = (KM.nb t).length := Paired.length p7
          rw [yl, List.take_length] at qin
          refine ⟨E3, _, _, _, rfl, e8, qh8, qin.done nf, (List.getElem?_eq_some_iff.mp qin.h).1⟩
    · rw [decide_eq_false (by omega)]
      exact iteF (q none .non H5 (qu.dead (by omega)) e5 rfl)
end
end FB

/-! ## KD11 -/
set_option Elab.async false
set_option linter.all false
set_option maxRecDepth 100000
set_option maxHeartbeats 8000000
namespace FB
open PySem PySem.Spec PyProof.Rows L2 Evl
section
variable {P : Program} {w : World} {K : PySem.W.Frag} {mg : Str → Option Value} {base : Heap}
/-! ### shortest, least_carries -/
theorem ok_shortest {f : Addr} {fd : FuncData} (F : Fun K "shortest" "shortest" s_shortest f fd) (cS : Cl P w K mg base 5 "check_small" sp_check) (cF : Cl P w K mg base 3 "fewest" sp_fewest) : FnOk P w K mg base CX0 6 f fd ["begin", "goal"] sp_fewest := by
  refine F.ok sc_shortest (fun vs H Q E h => ?_) (fun cdv A outer s H vs Q E hr h => ?_)
  · obtain ⟨i, _, _, _, rfl, _⟩ := h; rfl
  · obtain ⟨v, u, h, g, rfl, ih, ig, tw, q⟩ := h
    refine ⟨_, pss_cons (ps_expr (pe_cl cS hr (pa_cons (pv 0) (pa_cons (pv 1) pa_nil)))) (pss_one (ps_ret (pe_cl cF hr (pa_cons (pv 0) (pa_cons (pv 1) pa_nil))))), ?_⟩
    exact ⟨v, rfl, u, rfl, v, u, h, g, rfl, ih, ig, tw, fun H1 e1 => ⟨v, rfl, u, rfl, v, u, h, g, rfl, ih.tle (Tle.of e1), ig.tle (Tle.of e1), tw, fun r z H2 ha e2 hz => q r z H2 ha (e1.trans e2) hz⟩⟩
theorem ok_least {f : Addr} {fd : FuncData} (F : Fun K "least_carries" "least_carries" s_least_carries f fd) (B : Bl mg) (cS : Cl P w K mg base 5 "check_small" sp_check) (cF : Cl P w K mg base 3 "fewest" sp_fewest) : FnOk P w K mg base CX0 6 f fd ["begin", "goal"] sp_least := by
  refine F.ok sc_least_carries (fun vs H Q E h => ?_) (fun cdv A outer s H vs Q E hr h => ?_)
  · obtain ⟨i, _, _, _, rfl, _⟩ := h; rfl
  · obtain ⟨v, u, h, g, rfl, ih, ig, tw, q⟩ := h
    refine ⟨_, pss_cons (ps_expr (pe_cl cS hr (pa_cons (pv 0) (pa_cons (pv 1) pa_nil)))) (pss_cons (ps_set (i := 2) sc_least_carries.nd rfl (.inl rfl) (pe_cl cF hr (pa_cons (pv 0) (pa_cons (pv 1) pa_nil))))
      (pss_one (ps_ret (pe_ifExp (pt_cmp (pc_isN (pv 2))) pe_non (pe_callB call_lenS (by rfl) B.len boot_len' (pa_cons (pv 2) pa_nil)))))), ?_⟩
    refine ⟨v, rfl, u, rfl, v, u, h, g, rfl, ih, ig, tw, fun H1 e1 => ⟨v, rfl, u, rfl, v, u, h, g, rfl, ih.tle (Tle.of e1), ig.tle (Tle.of e1), tw, fun r z H2 ha e2 hz => ?_⟩⟩
    cases r with
    | none =>
      have hz : z = .non := hz
      subst hz
      exact ⟨.non, rfl, true, rfl, iteT (q none H2 ha (e1.trans e2))⟩
    | some n =>
      obtain ⟨p, cs, rfl, hp, hn⟩ := hz
      refine ⟨.ref p, rfl, false, rfl, iteF ⟨.ref p, rfl, p, cs, rfl, len_tup hp, ?_⟩⟩
      rw [hn]
      exact q (some n) H2 ha (e1.trans e2)
/-! ### _law_steps_to -/
/-- within a level -/
def Inn (S : Hd) (P : Program) (w : World) (H0 Hb : Hp) (d fr la : Addr) (fs : List V) (known L : List Hd) (H : Hp) : Prop := Tle Hb H ∧ Ex H0 H ∧ H fr = some (.lst fs) ∧
  ∃ later xs ls, DN P w H d xs ∧ xs.map (·.1) = known ++ later ∧ H la = some (.lst ls) ∧ Paired (IsH H) ls later ∧ KM.Ab known L later ∧ ∀ y ∈ later, ∃ n, KM.Reach S n y
theorem Inn.ex {S : Hd} {P : Program} {w : World} {H0 Hb H H' : Hp} {d fr la : Addr} {fs : List V} {known L : List Hd} (i : Inn S P w H0 Hb d fr la fs known L H) (e : Ex H H') : Inn S P w H0 Hb d fr la fs known L H' := by
  obtain ⟨a, b, c, later, xs, ls, h1, h2, h3, h4, h5⟩ := i
  exact ⟨a.trans (Tle.of e), b.trans e, e _ _ c, later, xs, ls, h1.ex e, h2, e _ _ h3, paired_map h4 fun v h q => q.tle (Tle.of e), h5⟩
def ppl (t : Hd) (x : Option Str) : List Hd := (List.range t.length).map fun b => KM.put t b x
theorem nb_ppl (t : Hd) : KM.nb t = t.flatten.flatMap (ppl t) := rfl
theorem ok_L_steps_to {f : Addr} {fd : FuncData} (F : Fun K "_law_steps_to" "_law_steps_to" s_L_steps_to f fd) (B : Bl mg) (cI : Cl P w K mg base 1 "_law_items" sp_L_items) (cF : Cl P w K mg base 1 "_law_fits" sp_L_fits) (cP : Cl P w K mg base 1 "_law_put" sp_L_put) :
    FnOk P w K mg base CX0 2 f fd ["_law_begin", "_law_goal"] sp_L_steps_to := by
  refine F.ok sc_L_steps_to (fun vs H Q E h => ?_) (fun cdv A outer s H vs Q E hr h => ?_)
  · obtain ⟨i, _, _, _, rfl, _⟩ := h; rfl
  · obtain ⟨v, u, h, g, rfl, ih, ig, tw, q⟩ := h
    have hu := hr.units
    have h5 := tw.s1.len
    refine ⟨_, pss_cons (ps_set (i := 2) sc_L_steps_to.nd rfl (.inr rfl) (pe_cl cI hr (pa_cons (pv 1) pa_nil)))
      (pss_cons (ps_set (i := 5) sc_L_steps_to.nd rfl (.inl rfl) (pe_callTy call_tupS (by rfl) B.tuple boot_tuple' (pa_cons
        (pe_lc (own := [("_law_row", 3)]) (g := gName 3) (tt := tYes) rfl sc_L_steps_to.nd (pi_tup (pv 0)) (blkOk_by (own := [("_law_row", 3)]) (N := n_L_steps_to) (sc := defScope s_L_steps_to) (by decide +kernel)) (fun _ _ _ _ _ => pg_name (i := 3) sc_L_steps_to.nd rfl (Or.inl rfl)) (fun _ _ _ _ _ => pts_nil)
          (fun _ _ _ _ _ => pe_callTy (r := rTupS K) call_tupS (by rfl) B.tuple boot_tuple' (pa_cons
            (pe_lc (wi := iTup K (tVar 3)) (own := [("_law_item", 4)]) (g := gName 4) (tt := tYes) rfl sc_L_steps_to.nd (pi_tup (pv 3)) (blkOk_by (own := [("_law_item", 4)]) (N := n_L_steps_to) (by rfl)) (fun _ _ _ _ _ => pg_name (i := 4) sc_L_steps_to.nd rfl (Or.inl rfl)) (fun _ _ _ _ _ => pts_nil)
              (fun _ _ _ _ _ => pe_ifExp (pt_cmpR (r := rIn K false) op_in_seq (pv 4) (pv 2) rfl) (pv 4) pe_non)) pa_nil))) pa_nil)))
      (pss_cons (ps_set (i := 6) sc_L_steps_to.nd rfl (.inl rfl) (pe_dispN hu (pv 5) pe_bl))
      (pss_cons (ps_set (i := 7) sc_L_steps_to.nd rfl (.inl rfl) (pe_lst (pa_cons (pv 5) pa_nil)))
      (pss_cons (ps_for PassesOwn.never rfl (pi_range1 (by rfl) B.range (pa_cons pe_int pa_nil)) (pg_name (i := 8) sc_L_steps_to.nd rfl (.inl rfl))
        (pss_cons (ps_if (pt_cmpR op_gt (pe_callB call_lenS (by rfl) B.len boot_len' (pa_cons
            (pe_lc (own := [("_law_holding", 9)]) (g := gName 9) rfl sc_L_steps_to.nd (pi_list (pv 7)) (blkOk_by (own := [("_law_holding", 9)]) (N := n_L_steps_to) (sc := defScope s_L_steps_to) (by decide +kernel)) (fun _ _ _ _ _ => pg_name (i := 9) sc_L_steps_to.nd rfl (Or.inl rfl))
              (fun _ _ _ _ _ => pts_one (pt_val (pe_cl cF hr (pa_cons (pv 9) (pa_cons (pv 1) pa_nil))))) (fun _ _ _ _ _ => pe_int)) pa_nil)) pe_int (nomark _)) (pss_one (ps_ret (pv 8))) pss_nil)
        (pss_cons (ps_set (i := 10) sc_L_steps_to.nd rfl (.inl rfl) (pe_lst pa_nil))
        (pss_cons (ps_for PassesOwn.never rfl (pi_list (pv 7)) (pg_name (i := 9) sc_L_steps_to.nd rfl (.inl rfl))
          (pss_one (ps_for PassesOwn.never rfl (pi_tup (pv 9)) (pg_name (i := 3) sc_L_steps_to.nd rfl (.inl rfl))
            (pss_one (ps_for PassesOwn.never rfl (pi_tup (pv 3)) (pg_name (i := 4) sc_L_steps_to.nd rfl (.inl rfl))
              (pss_one (ps_for PassesOwn.never rfl (pi_range1 (by rfl) B.range (pa_cons (pe_callB call_lenS (by rfl) B.len boot_len' (pa_cons (pv 9) pa_nil)) pa_nil)) (pg_name (i := 11) sc_L_steps_to.nd rfl (.inl rfl))
                (pss_cons (ps_set (i := 12) sc_L_steps_to.nd rfl (.inl rfl) (pe_cl cP hr (pa_cons (pv 9) (pa_cons (pv 11) (pa_cons (pv 4) pa_nil)))))
                (pss_one (ps_if (pt_cmpR (op_notInN hu) (pv 12) (pv 6) rfl)
                  (pss_cons (ps_asg pe_bl (pg_sub (pv 6) (pv 12) (set_N hu)))
                  (pss_one (ps_expr (pe_bm PySem.F.plainAttrs_list PySem.F.slot_list_append PySem.F.type_list_append mt_append (pv 10) (pa_cons (pv 12) pa_nil))))) pss_nil))))))))))
        (pss_cons (ps_set (i := 7) sc_L_steps_to.nd rfl (.inl rfl) (pv 10))
        (pss_one (ps_if (pt_cmpR op_eq (pe_callB call_lenS (by rfl) B.len boot_len' (pa_cons (pv 7) pa_nil)) pe_int (nomark _)) (pss_one (ps_ret pe_non)) pss_nil)))))))
      (pss_one (ps_ret pe_non)))))), ?_⟩
    -- names
    refine ⟨u, rfl, u, g, rfl, ig, tw.s2, fun wl H1 e1 hwl0 hwl => ?_⟩
    obtain ⟨a, vs, rfl, ha, hlen, rows⟩ := ih.open_
    -- first
    refine ⟨.ref a, rfl, a, rfl, ⟨_, st_of (e1 _ _ ha)⟩, fun D hD => lc_mapT (as := h) (fun r => some (r.map (keepIf (items g)))) (fun r v H => IsRow H v r) (fun r => mono_row) (st_of (e1 _ _ ha)) hlen (by omega) hD (fun _ => rfl) (fun i x r hx hr1 H2 e2 => .inr ⟨_, rfl, evb_yes, fun H3 e3 Q' q' => ?_⟩) fun H2 ys e2 hl2 p2 => ?_⟩
    · obtain ⟨c, hc, hct⟩ := rows i r hr1
      rw [hx] at hc
      cases hc
      obtain ⟨rp, r5⟩ := tw.s1.row hr1
      have hc3 := (e1.trans (e2.trans e3)) _ _ hct
      refine ⟨.ref c, rfl, c, rfl, ⟨_, st_of hc3⟩, fun D3 hD3 => lc_mapT (as := r) (fun y => some (keepIf (items g) y)) (fun y v _ => v = it y) (fun c => mono_eq) (st_of hc3) (by simp) (by omega) hD3 (fun _ => rfl) (fun j z y hz hy H4 e4 => .inr ⟨_, rfl, evb_yes, fun H5 e5 Q2 q2 => ?_⟩) fun H4 ys4 e4 hl4 p4 => ?_⟩
      · rw [get_it hy] at hz
        cases hz
        have hw5 : H5 wl = some (.lst ((items g).map V.str)) := (e2.trans (e3.trans (e4.trans e5))) _ _ hwl
        cases y with
        | none =>
          refine ⟨.non, rfl, .ref wl, rfl, wl, _, rfl, .inl (sq_of hw5), rfl, flat_strs' _, false, ?_, ?_⟩
          · show V.bl (inV .non _) = _
            rw [inV_non]
          · exact iteF (q2 _ _ (Ex.refl _) rfl)
        | some y =>
          refine ⟨.str y, rfl, .ref wl, rfl, wl, _, rfl, .inl (sq_of hw5), rfl, flat_strs' _, decide (y ∈ items g), ?_, ?_⟩
          · show V.bl (inV (.str y) _) = _
            rw [inV_str]
          · by_cases hy2 : y ∈ items g
            · rw [decide_eq_true hy2]
              exact iteT ⟨.str y, rfl, q2 _ _ (Ex.refl _) (by rw [show keepIf (items g) (some y) = some y from if_pos hy2]; rfl)⟩
            · rw [decide_eq_false hy2]
              exact iteF (q2 _ _ (Ex.refl _) (by rw [show keepIf (items g) (some y) = none from if_neg hy2]; rfl))
      · rw [fm_some] at p4
        have ey : ys4 = (r.map (keepIf (items g))).map it := paired_its p4
        refine ⟨D3, _, rfl, .inl ⟨sq_of hl4, fun t ht => q' _ _ (e4.trans (Ex.new ht)) ⟨t, rfl, by rw [upd_same, ey]⟩⟩⟩
    rw [fm_some] at p2
    refine ⟨D, _, rfl, .inl ⟨sq_of hl2, fun fa hfa => ?_⟩⟩
    have e12 := e2.trans (Ex.new (o := .tup ys) hfa)
    have e02 := e1.trans e12
    have isF : IsH (upd H2 fa (.tup ys)) (.ref fa) (filt (items g) h) := ⟨fa, ys, rfl, upd_same, paired_map p2 fun y r q => q.tle (Tle.new hfa)⟩
    generalize hs : filt (items g) h = s0 at isF q
    have hgiven : KM.Given s0 g := hs ▸ tw.given
    have hreach : ∀ {n : Nat} {u : Hd}, KM.Reach s0 n u → KM.Of (Dom g) (shp g) u := fun r => tw.reach (hs ▸ r)
    generalize upd H2 fa (.tup ys) = H3 at isF e02 e12
    -- known, front
    refine fun d hd => ⟨.ref fa, rfl, upd_same, fa, s0, rfl, isF.tle (Tle.new hd), ?_⟩
    rw [upd_upd]
    have e3 : Ex H3 (upd H3 d (dN P w d [(s0, fa, V.bl true)])) := Ex.new hd
    refine ⟨.ref fa, rfl, by show 1 ≤ sizeLine; decide, fun wt hwt => ?_⟩
    have e4 : Ex (upd H3 d (dN P w d [(s0, fa, V.bl true)])) (upd (upd H3 d (dN P w d [(s0, fa, V.bl true)])) wt (.lst [.ref fa])) := Ex.new hwt
    have e04 := e02.trans (e3.trans e4)
    have hd0 : H d = none := fresh_back e02 hd
    have card : ∀ {l : List Hd}, l.Nodup → (∀ u ∈ l, ∃ n, KM.Reach s0 n u) → l.length ≤ 7776 := fun {l} hn hr => tw.card hn fun u hu => by
      obtain ⟨n, r⟩ := hr u hu
      exact hreach r
    -- the levels
    refine ⟨2000, rfl, by decide, by decide, ?_⟩
    refine for_range (lo := 0) (n := 2000) (fun m σ H5 => ∃ (fr : Addr) (xs : List Ent) (fs : List V) (known front : List Hd) (z3 z4 z8 z9 z10 z11 z12 : Option V), σ = [some (.ref a), some u, some (.ref wl), z3, z4, some (.ref fa), some (.ref d), some (.ref fr), z8, z9, z10, z11, z12] ∧ Ex H H5 ∧
        DN P w H5 d xs ∧ xs.map (·.1) = known ∧ H5 fr = some (.lst fs) ∧ Paired (IsH H5) fs front ∧ KM.Lv (KM.Fits g) s0 m known front ∧ front.length ≤ 7776)
      ⟨wt, [(s0, fa, .bl true)], [.ref fa], [s0], [s0], none, none, none, none, none, none, none, rfl, e04, ⟨e4 _ _ upd_same, fun x hx => by
          rw [List.mem_singleton.mp hx]
          exact isF.tle (Tle.of (e3.trans e4))⟩, rfl, upd_same, .cons (isF.tle (Tle.of (e3.trans e4))) .nil, KM.Lv.start, by simp⟩
      (fun m σ H5 hm pp => ?_) fun σ H5 pp => ?_
    · obtain ⟨fr, xs, fs, known, front, z3, z4, z8, z9, z10, z11, z12, rfl, e5, dn, keys, hfs, pfs, lv, hfl⟩ := pp
      have em : (0 : Int) + (m : Nat) = (m : Int) := by omega
      rw [em]
      have good : ∀ t ∈ front, Sm t ∧ shp t = shp g := fun t ht => of_sm tw.s2 (hreach (lv.fr t ht))
      have fl2 : fs.length = front.length := Paired.length pfs
      -- does one fit
      refine ⟨.ref fr, rfl, fr, rfl, ⟨_, sq_of hfs⟩, fun D5 hD5 => lc_mapL (as := front) (fun t => @ite _ (KM.Fits g t) (Classical.propDecidable _) (some (V.int 1)) none) (fun c v _ => v = c) (fun c => mono_eq) (sq_of hfs) fl2 (by omega) hD5 (fun _ => rfl) (fun i x t hx ht H6 e6 => ?_) fun H6 ys6 e6 hl6 p6 => ?_⟩
      · obtain ⟨x', hx', it'⟩ := paired_get pfs ht
        rw [hx] at hx'
        cases hx'
        obtain ⟨smt, sht⟩ := good t (List.mem_of_getElem? ht)
        by_cases hf : KM.Fits g t
        · refine .inr ⟨V.int 1, if_pos hf, fun Q' q' => ⟨x, rfl, u, rfl, x, u, t, g, rfl, it'.tle (Tle.of e6), ig.tle (Tle.of (e5.trans e6)), smt, sht, fun b H7 e7 hb => ⟨b, rfl, ?_⟩⟩, fun H7 e7 Q' q' => q' _ _ (Ex.refl _) rfl⟩
          have : b = true := hb.mpr hf
          subst this
          exact q' _ e7
        · refine .inl ⟨if_neg hf, fun Q' q' => ⟨x, rfl, u, rfl, x, u, t, g, rfl, it'.tle (Tle.of e6), ig.tle (Tle.of (e5.trans e6)), smt, sht, fun b H7 e7 hb => ⟨b, rfl, ?_⟩⟩⟩
          have : b = false := by
            cases b with
            | false => rfl
            | true => exact absurd (hb.mp rfl) hf
          subst this
          exact q' _ e7
      have ey6 := paired_eqs (H := H6) p6
      refine ⟨D5, ys6, rfl, .inl (sq_of hl6), _, _, rfl, rfl, decide (0 < (ys6.length : Int)), rfl, ?_⟩
      have e06 := e5.trans e6
      by_cases hpos : 0 < ys6.length
      · rw [decide_eq_true (by omega)]
        refine iteT ⟨.int (m : Int), rfl, ?_⟩
        obtain ⟨z, hz⟩ := List.exists_mem_of_length_pos hpos
        rw [ey6] at hz
        obtain ⟨t, ht, hf⟩ := List.mem_filterMap.mp hz
        have hft : KM.Fits g t := Classical.byContradiction fun z => by rw [if_neg z] at hf; cases hf
        exact q (some m) H6 (lv.found ⟨t, ht, hft⟩) e06
      rw [decide_eq_false (by omega)]
      refine iteF ?_
      have miss : ∀ t ∈ front, ¬ KM.Fits g t := fun t ht hf => by
        have : V.int 1 ∈ ys6 := by
          rw [ey6]
          exact List.mem_filterMap.mpr ⟨t, ht, if_pos hf⟩
        exact hpos (List.length_pos_of_mem this)
      -- later = []
      refine ⟨Nat.zero_le _, fun la hla => ?_⟩
      have e7 : Ex H6 (upd H6 la (.lst [])) := Ex.new hla
      have e67 := e6.trans e7
      have hla0 : H la = none := fresh_back e06 hla
      have hlad : la ≠ d := fun z => by
        subst z
        have h1 : H6 la = some (dN P w la xs) := e6 _ _ dn.1
        rw [hla] at h1
        cases h1
      have hlaf : la ≠ fr := fun z => by
        subst z
        have h1 : H6 la = some (.lst fs) := e6 _ _ hfs
        rw [hla] at h1
        cases h1
      have hfrd : fr ≠ d := ne_of hfs dn.1 fun z => by cases z
      have inn0 : Inn s0 P w H (upd H6 la (.lst [])) d fr la fs known [] (upd H6 la (.lst [])) := by
        refine ⟨Tle.refl _, e06.trans e7, e67 _ _ hfs, [], xs, [], dn.ex e67, by rw [keys]; simp, upd_same, .nil, KM.Ab.start lv.nd, fun _ z => nomatch z⟩
      have pfs7 := paired_map pfs fun v h q => q.tle (Tle.of e67)
      generalize upd H6 la (.lst []) = Hb at inn0 pfs7
      -- over the front
      refine ⟨.ref fr, rfl, fr, rfl, ⟨_, sq_of inn0.2.2.1⟩, for_list (xs := fs) (fun j σ H' => Inn s0 P w H Hb d fr la fs known ((front.take j).flatMap KM.nb) H' ∧ ∃ z3 z4 z9 z11 z12, σ = [some (.ref a), some u, some (.ref wl), z3, z4, some (.ref fa), some (.ref d), some (.ref fr), some (.int (m : Int)), z9, some (.ref la), z11, z12])
        ⟨by simpa using inn0, z3, z4, z9, z11, z12, rfl⟩ (fun j σ H' _ p => sq_of p.1.2.2.1) (fun j x σ H' hx p => ?_) fun σ H' p => ?_⟩
      · obtain ⟨inn1, z3, z4, z9, z11, z12, rfl⟩ := p
        obtain ⟨t, ht, ihx⟩ := paired_getL pfs7 hx
        obtain ⟨smt, sht⟩ := good t (List.mem_of_getElem? ht)
        have tmem := List.mem_of_getElem? ht
        obtain ⟨ta, tv, rfl, hta, tlen, trows⟩ := ihx.open_
        have t5 := smt.len
        have enb : (front.take (j + 1)).flatMap KM.nb = (front.take j).flatMap KM.nb ++ t.flatten.flatMap (ppl t) := by
          rw [List.take_add_one, ht, Option.toList_some, List.flatMap_append]
          simp [nb_ppl]
        rw [enb]
        generalize (front.take j).flatMap KM.nb = L0 at inn1
        -- its rows
        refine ⟨.ref ta, rfl, ta, rfl, ⟨_, st_of (inn1.1 _ _ hta)⟩, for_tup (xs := tv) (fun b σ H' => Inn s0 P w H Hb d fr la fs known (L0 ++ ((t.take b).flatten).flatMap (ppl t)) H' ∧ ∃ z3 z4 z11 z12, σ = [some (.ref a), some u, some (.ref wl), z3, z4, some (.ref fa), some (.ref d), some (.ref fr), some (.int (m : Int)), some (.ref ta), some (.ref la), z11, z12])
          ⟨by simpa using inn1, z3, z4, z11, z12, rfl⟩ (fun b σ H' _ p => st_of (p.1.1 _ _ hta)) (fun b y σ H' hy p => ?_) fun σ H' p => ?_⟩
        · obtain ⟨inn2, z3, z4, z11, z12, rfl⟩ := p
          have hb : b < t.length := by rw [← tlen]; exact (List.getElem?_eq_some_iff.mp hy).1
          obtain ⟨r, hr1⟩ : ∃ r, t[b]? = some r := ⟨_, List.getElem?_eq_getElem hb⟩
          obtain ⟨c, hc1, hct⟩ := trows b r hr1
          rw [hy] at hc1
          cases hc1
          have erow : (t.take (b + 1)).flatten = (t.take b).flatten ++ r := by rw [List.take_add_one, hr1]; simp
          rw [erow, List.flatMap_append, ← List.append_assoc]
          generalize L0 ++ ((t.take b).flatten).flatMap (ppl t) = L1 at inn2
          -- its items
          refine ⟨.ref c, rfl, c, rfl, ⟨_, st_of (inn2.1 _ _ hct)⟩, for_tup (xs := r.map it) (fun i σ H' => Inn s0 P w H Hb d fr la fs known (L1 ++ (r.take i).flatMap (ppl t)) H' ∧ ∃ z4 z11 z12, σ = [some (.ref a), some u, some (.ref wl), some (.ref c), z4, some (.ref fa), some (.ref d), some (.ref fr), some (.int (m : Int)), some (.ref ta), some (.ref la), z11, z12])
            ⟨by simpa using inn2, z4, z11, z12, rfl⟩ (fun i σ H' _ p => st_of (p.1.1 _ _ hct)) (fun i z σ H' hz p => ?_) fun σ H' p => ?_⟩
          · obtain ⟨inn3, z4, z11, z12, rfl⟩ := p
            have hi : i < r.length := by have := (List.getElem?_eq_some_iff.mp hz).1; simpa using this
            obtain ⟨x, hx1⟩ : ∃ x, r[i]? = some x := ⟨_, List.getElem?_eq_getElem hi⟩
            rw [get_it hx1] at hz
            cases hz
            have eit : (r.take (i + 1)).flatMap (ppl t) = (r.take i).flatMap (ppl t) ++ ppl t x := by rw [List.take_add_one, hx1, Option.toList_some, List.flatMap_append]; simp
            rw [eit, ← List.append_assoc]
            have xmem : x ∈ t.flatten := List.mem_flatten.mpr ⟨r, List.mem_of_getElem? hr1, List.mem_of_getElem? hx1⟩
            generalize L1 ++ (r.take i).flatMap (ppl t) = L2 at inn3
            -- its belts
            refine ⟨.ref ta, rfl, ta, tv, rfl, len_tup (inn3.1 _ _ hta), (tv.length : Int), rfl, by omega, by omega, ?_⟩
            have en : ((tv.length : Int)).toNat = t.length := by omega
            rw [en]
            refine for_range (lo := 0) (n := t.length) (fun k σ H' => Inn s0 P w H Hb d fr la fs known (L2 ++ (List.range k).map fun b => KM.put t b x) H' ∧ ∃ z11 z12, σ = [some (.ref a), some u, some (.ref wl), some (.ref c), some (it x), some (.ref fa), some (.ref d), some (.ref fr), some (.int (m : Int)), some (.ref ta), some (.ref la), z11, z12])
              ⟨by simpa using inn3, z11, z12, rfl⟩ (fun k σ H' hk p => ?_) fun σ H' p => ?_
            · obtain ⟨inn4, z11, z12, rfl⟩ := p
              have ek : (0 : Int) + (k : Nat) = (k : Int) := by omega
              rw [ek]
              have eput : (List.range (k + 1)).map (fun b => KM.put t b x) = (List.range k).map (fun b => KM.put t b x) ++ [KM.put t k x] := by rw [List.range_succ]; simp
              rw [eput, ← List.append_assoc]
              have mnb : KM.put t k x ∈ KM.nb t := KM.mem_nb.mpr ⟨x, xmem, k, hk, rfl⟩
              have rnb : KM.Reach s0 (m + 1) (KM.put t k x) := .succ (lv.fr t tmem) mnb
              generalize L2 ++ (List.range k).map (fun b => KM.put t b x) = L3 at inn4
              refine ⟨.ref ta, rfl, .int (k : Int), rfl, it x, rfl, .ref ta, t, k, x, rfl, ihx.tle inn4.1, smt, hk, fun th H8 e8 hth => ?_⟩
              obtain ⟨thb, thv, rfl, hthb, _⟩ := id hth
              generalize KM.put t k x = un at hth mnb rnb
              have inn5 := inn4.ex e8
              obtain ⟨tb5, e05, hfr5, later, xs5, ls5, dn5, keys5, hls5, pls5, ab5, rl5⟩ := id inn5
              refine ⟨.ref thb, rfl, .ref d, rfl, thb, d, un, xs5, rfl, rfl, hth, dn5, _, rfl, ?_⟩
              by_cases hin : un ∈ xs5.map (·.1)
              · rw [decide_eq_true hin]
                refine iteF ⟨⟨tb5, e05, hfr5, later, xs5, ls5, dn5, keys5, hls5, pls5, ab5.old (by rw [← keys5]; exact hin), rl5⟩, _, _, rfl⟩
              · rw [decide_eq_false hin]
                have hkl : (known ++ later).length ≤ 7776 := card ab5.nd fun y hy => by
                  rcases List.mem_append.mp hy with z | z
                  · obtain ⟨n, _, r⟩ := (lv.kn y).mp z
                    exact ⟨n, r⟩
                  · exact rl5 y z
                have hxl : xs5.length = (known ++ later).length := by have := congrArg List.length keys5; simpa using this
                have hll : ls5.length ≤ 7776 := by
                  have := Paired.length pls5
                  rw [List.length_append] at hkl
                  omega
                refine iteT ⟨.ref d, rfl, .ref thb, rfl, thb, d, un, xs5, rfl, rfl, hth, dn5, hin, sz_lt (by omega), ?_⟩
                have t10 : Tle H8 (upd H8 d (dN P w d (xs5 ++ [(un, thb, .bl true)]))) := Tle.put dn5.1 fun _ z => by cases z
                have hls9 : (upd H8 d (dN P w d (xs5 ++ [(un, thb, .bl true)]))) la = some (.lst ls5) := by rw [upd_ne hlad]; exact hls5
                refine ⟨.ref la, rfl, .inl ⟨rfl, _, sq_of hls9⟩, .ref thb, rfl, la, ls5, .ref thb, rfl, rfl, hls9, sz_lt (by omega), ?_⟩
                have t11 : Tle (upd H8 d (dN P w d (xs5 ++ [(un, thb, .bl true)]))) (upd (upd H8 d (dN P w d (xs5 ++ [(un, thb, .bl true)]))) la (.lst (ls5 ++ [.ref thb]))) := Tle.put hls9 fun _ z => by cases z
                have tt := t10.trans t11
                refine ⟨⟨tb5.trans tt, (e05.mut hd0).mut hla0, ?_, later ++ [un], xs5 ++ [(un, thb, .bl true)], ls5 ++ [.ref thb], ?_, ?_, upd_same, ?_, ?_, ?_⟩, _, _, rfl⟩
                · rw [upd_ne (Ne.symm hlaf), upd_ne hfrd]; exact hfr5
                · exact (DN.snoc dn5 hth).keep t11 (upd_ne (Ne.symm hlad))
                · rw [List.map_append, keys5, List.append_assoc]; rfl
                · exact paired_app (paired_map pls5 fun v h q => q.tle tt) (.cons (hth.tle tt) .nil)
                · exact ab5.new (by rw [← keys5]; exact hin)
                · intro y hy
                  rcases List.mem_append.mp hy with z | z
                  · exact rl5 y z
                  · rw [List.mem_singleton.mp z]; exact ⟨_, rnb⟩
            · obtain ⟨inn4, z11, z12, rfl⟩ := p
              exact ⟨inn4, _, _, _, rfl⟩
          · obtain ⟨inn3, z4, z11, z12, rfl⟩ := p
            rw [List.length_map, List.take_length] at inn3
            exact ⟨inn3, _, _, _, _, rfl⟩
        · obtain ⟨inn2, z3, z4, z11, z12, rfl⟩ := p
          rw [tlen, List.take_length] at inn2
          exact ⟨inn2, _, _, _, _, _, rfl⟩
      · obtain ⟨inn1, z3, z4, z9, z11, z12, rfl⟩ := p
        rw [fl2, List.take_length] at inn1
        obtain ⟨tb1, e01, hfr1, later, xs1, ls1, dn1, keys1, hls1, pls1, ab1, rl1⟩ := inn1
        have lv2 := lv.next miss ab1
        have hkl : (known ++ later).length ≤ 7776 := card lv2.nd fun y hy => by
          obtain ⟨n, _, r⟩ := (lv2.kn y).mp hy
          exact ⟨n, r⟩
        have hll : later.length ≤ 7776 := by rw [List.length_append] at hkl; omega
        have ll : ls1.length = later.length := Paired.length pls1
        refine ⟨.ref la, rfl, .ref la, rfl, la, ls1, rfl, .inl (sq_of hls1), rfl, _, rfl, ?_⟩
        by_cases h0 : later = []
        · subst h0
          have hl0 : ls1.length = 0 := by rw [ll]; rfl
          rw [hl0, decide_eq_true (show V.int ((0 : Nat) : Int) = V.int 0 from rfl)]
          exact iteT (q none H' lv2.dead e01)
        · have hl0 : ls1.length ≠ 0 := by
            rw [ll]
            intro z
            exact h0 (List.eq_nil_of_length_eq_zero z)
          rw [decide_eq_false (by intro z; injection z with z; omega)]
          exact iteF ⟨la, xs1, ls1, known ++ later, later, _, _, _, _, _, _, _, rfl, e01, dn1, keys1, hls1, pls1, lv2, hll⟩
    · obtain ⟨fr, xs, fs, known, front, z3, z4, z8, z9, z10, z11, z12, rfl, e5, dn, keys, hfs, pfs, lv, hfl⟩ := pp
      have f5 := tw.s2.flat
      exact q none H5 (hgiven.ans (by omega) lv.no) e5
end
end FB

/-! ## KD12 -/
set_option Elab.async false
set_option linter.all false
set_option maxRecDepth 100000
set_option maxHeartbeats 8000000
namespace FB
open PySem PySem.Spec PyProof.Rows L2 Evl
section
variable {P : Program} {w : World} {K : PySem.W.Frag} {mg : Str → Option Value} {base : Heap}
/-! ### _law_dice -/
theorem ok_L_dice {f : Addr} {fd : FuncData} (F : Fun K "_law_dice" "_law_dice" s_L_dice f fd) (B : Bl mg) : FnOk P w K mg base CX0 1 f fd ["_law_script"] (sp_L_dice K) := by
  refine F.ok sc_L_dice (fun vs H Q E h => ?_) (fun cdv A outer s H vs Q E hr h => ?_)
  · obtain ⟨i, _, rfl, _⟩ := h; rfl
  · obtain ⟨a, ns, rfl, ha, hl, q⟩ := h
    refine ⟨_, pss_one (ps_ret (pe_lst (pa_cons (pe_lc (own := [("_law_cell", 1)]) (g := gName 1) (tt := tYes) rfl sc_L_dice.nd (pi_list (pe_slice sl_list (pv 0) po_none (po_some pe_int))) (blkOk_by (own := [("_law_cell", 1)]) (N := n_L_dice) (sc := defScope s_L_dice) (by decide +kernel)) (fun _ _ _ _ _ => pg_name (i := 1) sc_L_dice.nd rfl (Or.inl rfl)) (fun _ _ _ _ _ => pts_nil)
      (fun _ _ _ _ _ => pe_callB call_abs (by rfl) B.abs boot_abs' (pa_cons (pe_callTy call_int1 (by rfl) B.int boot_int' (pa_cons (pv 1) pa_nil)) pa_nil)))
      (pa_cons pe_int (pa_cons pe_int (pa_cons pe_int (pa_cons pe_int pa_nil))))))), ?_⟩
    refine ⟨.ref a, rfl, _, rfl, a, _, rfl, ha, fun c hc => ?_⟩
    have ec : cutV (ns.map V.int) none (some 63) = ns.map V.int := by
      unfold cutV
      rw [HT.sIx_none, show HT.sIx (ns.map V.int).length (ns.map V.int).length (some 63) = min 63 (ns.map V.int).length from HT.sIx_nat _ _ 63]
      simp only [List.drop_zero, Nat.sub_zero, List.length_map]
      exact List.take_of_length_le (by simp; omega)
    rw [ec]
    refine ⟨c, rfl, ⟨_, sq_of upd_same⟩, fun D hD => lc_mapL (as := ns) (fun n => some (if n < 0 then -n else n)) (fun n v _ => v = V.int n) (fun c => mono_eq) (sq_of upd_same) (by simp) (by omega) hD (fun _ => rfl) (fun i x n hx hn H2 e2 => .inr ⟨_, rfl, evb_yes, fun H3 e3 Q' q' => ?_⟩) fun H2 ys e2 hl2 p2 => ?_⟩
    · rw [List.getElem?_map, hn] at hx
      cases hx
      exact ⟨.int n, rfl, .inl ⟨n, rfl, n, rfl, q' _ _ (Ex.refl _) rfl⟩⟩
    · rw [fm_some] at p2
      have ey : ys = (ns.map fun n => if n < 0 then -n else n).map V.int := by
        generalize (ns.map fun n => if n < 0 then -n else n) = ms at p2
        clear hl2
        induction p2 with
        | nil => rfl
        | cons a b ih => rw [a, ih]; rfl
      rw [ey] at hl2
      refine ⟨by show 5 ≤ sizeLine; decide, fun d hd => ?_⟩
      have e01 := (Ex.new (o := .lst (ns.map V.int)) hc).trans e2
      refine q d _ (e01.trans (Ex.new hd)) (fresh_back e01 hd) ⟨D, _, 0, 0, 1, 0, upd_same, (Ex.new hd) _ _ hl2, fun n hn => ?_, by decide, by decide, by decide, by decide, by decide, by simpa using hl⟩
      obtain ⟨m, _, rfl⟩ := List.mem_map.mp hn
      split <;> omega
/-! ### _law_draw -/
theorem dkeep {d : Addr} {H H1 : Hp} {o : HO} (h : ∀ a o, a ≠ d → H a = some o → H1 a = some o) : ∀ a o', a ≠ d → H a = some o' → upd H1 d o a = some o' := fun a o' ha h' => by rw [upd_ne ha]; exact h a o' ha h'
theorem ok_L_draw {f : Addr} {fd : FuncData} (F : Fun K "_law_draw" "_law_draw" s_L_draw f fd) (B : Bl mg) : FnOk P w K mg base CX0 1 f fd ["_law_dice_here", "_law_sides"] sp_L_draw := by
  refine F.ok sc_L_draw (fun vs H Q E h => ?_) (fun cdv A outer s H vs Q E hr h => ?_)
  · obtain ⟨_, _, rfl, _⟩ := h; rfl
  · obtain ⟨d, n, rfl, ⟨c, ns, i, wd, x, y, hd, hc, hns, hi, hw, hx, hx2, hy, h63⟩, hn, hn2, q⟩ := h
    refine ⟨_, pss_cut (ps_if (PW.pt (pw_and (pt_cmpR op_eq (pe_ix ix_list (pv 0) pe_int (fun _ _ => rfl)) pe_int (nomark _)) (pw_and1 (pt_cmpR op_lt (pe_ix ix_list (pv 0) pe_int (fun _ _ => rfl)) (pe_callB call_lenS (by rfl) B.len boot_len' (pa_cons (pe_ix ix_list (pv 0) pe_int (fun _ _ => rfl)) pa_nil)) (nomark _)))))
        (pss_cons (ps_set (i := 2) sc_L_draw.nd rfl (.inl rfl) (pe_ix ix_list (pe_ix ix_list (pv 0) pe_int (fun _ _ => rfl)) (pe_ix ix_list (pv 0) pe_int (fun _ _ => rfl)) (fun _ _ => rfl)))
        (pss_cons (ps_asg (pe_op op_add (pe_ix ix_list (pv 0) pe_int (fun _ _ => rfl)) pe_int) (pg_sub (pv 0) pe_int set_list))
        (pss_one (ps_if (pt_cmpR op_ge (pv 2) (pe_op op_pow pe_int pe_int) (nomark _))
          (pss_one (ps_asg (pv 2) (pg_sub (pv 0) pe_int set_list)))
          (pss_one (ps_asg (pe_op op_mod (pe_callTy call_int1 (by rfl) B.int boot_int' (pa_cons (pe_op op_add (pe_op op_add (pe_op op_mul (pe_ix ix_list (pv 0) pe_int (fun _ _ => rfl)) pe_int) (pe_op op_mul (pv 2) pe_int)) (pe_ix ix_list (pv 0) pe_int (fun _ _ => rfl))) pa_nil)) pe_int) (pg_sub (pv 0) pe_int set_list))))))) pss_nil)
      (pss_cons (ps_if (pt_cmpR op_gt (pe_ix ix_list (pv 0) pe_int (fun _ _ => rfl)) pe_int (nomark _))
        (pss_cons (ps_set (i := 3) sc_L_draw.nd rfl (.inl rfl) (pe_op op_mod (pe_callTy call_int1 (by rfl) B.int boot_int' (pa_cons (pe_ix ix_list (pv 0) pe_int (fun _ _ => rfl)) pa_nil)) (pv 1)))
        (pss_cons (ps_asg (pe_op op_fdiv (pe_callTy call_int1 (by rfl) B.int boot_int' (pa_cons (pe_ix ix_list (pv 0) pe_int (fun _ _ => rfl)) pa_nil)) (pv 1)) (pg_sub (pv 0) pe_int set_list))
        (pss_one (ps_ret (pv 3))))) pss_nil)
      (pss_cons (ps_asg (pe_op op_add (pe_ix ix_list (pv 0) pe_int (fun _ _ => rfl)) pe_int) (pg_sub (pv 0) pe_int set_list))
      (pss_cons (ps_asg (pe_op op_mod (pe_callTy call_int1 (by rfl) B.int boot_int' (pa_cons (pe_op op_add (pe_op op_add (pe_op op_mul (pe_ix ix_list (pv 0) pe_int (fun _ _ => rfl)) pe_int) (pe_op op_mul (pe_ix ix_list (pv 0) pe_int (fun _ _ => rfl)) pe_int)) pe_int) pa_nil)) pe_int) (pg_sub (pv 0) pe_int set_list))
      (pss_cons (ps_set (i := 4) sc_L_draw.nd rfl (.inl rfl) (pe_op op_mod (pe_callTy call_int1 (by rfl) B.int boot_int' (pa_cons (pe_op op_mul (pe_ix ix_list (pv 0) pe_int (fun _ _ => rfl)) (pe_op op_add (pe_op op_fdiv (pe_ix ix_list (pv 0) pe_int (fun _ _ => rfl)) pe_int) pe_int)) pa_nil)) pe_int))
      (pss_cons (ps_set (i := 4) sc_L_draw.nd rfl (.inl rfl) (pe_op op_mod (pe_callTy call_int1 (by rfl) B.int boot_int' (pa_cons (pe_op op_mul (pv 4) (pe_op op_add (pe_op op_fdiv (pv 4) pe_int) pe_int)) pa_nil)) pe_int))
      (pss_one (ps_ret (pe_op op_mod (pe_callTy call_int1 (by rfl) B.int boot_int' (pa_cons (pe_op op_fdiv (pv 4) pe_int) pa_nil)) (pv 1))))))))), ?_⟩
    have cd : c ≠ d := fun z => by rw [z, hd] at hc; exact absurd (Option.some.inj hc) (by
      intro q
      have := HO.lst.inj q
      have h2 : (ns.map V.int)[0]? = some (.ref d) := by rw [← this, ← z]; rfl
      rw [List.getElem?_map] at h2
      cases ns with
      | nil => cases h2
      | cons a l => cases h2)
    refine ⟨fun σ H1 => ∃ i' w' x' z2, σ = [some (.ref d), some (.int n), z2, none, none] ∧ (∀ a o, a ≠ d → H a = some o → H1 a = some o) ∧ H1 d = some (.lst [.ref c, .int i', .int w', .int x', .int y]) ∧ 0 ≤ i' ∧ 0 ≤ w' ∧ 0 ≤ x' ∧ x' < 2 ^ 31, ?_, ?_⟩
    · refine ⟨.ref d, rfl, d, _, 2, _, rfl, rfl, sq_of hd, rfl, ?_⟩
      refine ⟨rfl, decide (V.int wd = V.int 0), rfl, ?_⟩
      have keep : ∀ a o, a ≠ d → H a = some o → H a = some o := fun _ _ _ h => h
      by_cases hw0 : wd = 0
      · subst hw0
        rw [decide_eq_true rfl]
        refine iteT ⟨.ref d, rfl, d, _, 1, _, rfl, rfl, sq_of hd, rfl, .ref d, rfl, d, _, 0, _, rfl, rfl, sq_of hd, rfl, c, _, rfl, .inl (sq_of hc), i, _, rfl, rfl, decide (i < ((ns.map V.int).length : Int)), rfl, ?_⟩
        rw [List.length_map]
        by_cases hi2 : i < (ns.length : Int)
        · rw [decide_eq_true hi2]
          have hk : i.toNat < ns.length := by omega
          have hat : atI (ns.map V.int) i = some (.int ns[i.toNat]) := by
            have z := atI_of (xs := ns.map V.int) (j := i.toNat) (v := .int ns[i.toNat]) (by rw [List.getElem?_map, List.getElem?_eq_getElem (by simpa using hk)]; rfl)
            rwa [Int.toNat_of_nonneg hi] at z
          have hcell := hns _ (List.getElem_mem hk)
          generalize ns[i.toNat] = cell at hat hcell
          refine iteT ⟨.ref d, rfl, d, _, 0, _, rfl, rfl, sq_of hd, rfl, .ref d, rfl, d, _, 1, _, rfl, rfl, sq_of hd, rfl, c, _, i, _, rfl, rfl, sq_of hc, hat, ?_⟩
          refine ⟨.ref d, rfl, d, _, 1, _, rfl, rfl, sq_of hd, rfl, i, 1, rfl, rfl, .ref d, rfl, d, _, 1, 1, rfl, rfl, hd, rfl, ?_⟩
          refine ⟨.int cell, rfl, 10, 18, rfl, rfl, ⟨by decide, by decide, by decide⟩, cell, _, rfl, rfl, _, rfl, ?_⟩
          have k1 := dkeep (o := .lst [.ref c, .int (i + 1), .int 0, .int x, .int y]) keep
          refine ite2 (fun _ => ?_) fun _ => ?_
          · refine ⟨.int cell, rfl, .ref d, rfl, d, _, 2, 2, rfl, rfl, upd_same, rfl, ?_⟩
            exact ⟨i + 1, cell, x, _, rfl, dkeep k1, upd_same, by omega, hcell, hx, hx2⟩
          · refine ⟨.ref d, rfl, d, _, 3, _, rfl, rfl, sq_of upd_same, rfl, x, 69621, rfl, rfl, .inr ⟨by decide, by decide⟩, .int cell, rfl, cell, 40692, rfl, rfl, .inr ⟨by decide, by decide⟩, _, _, rfl, rfl, .ref d, rfl, d, _, 1, _, rfl, rfl, sq_of upd_same, rfl, _, _, rfl, rfl, ?_⟩
            refine .inl ⟨_, rfl, _, 2147483647, rfl, rfl, (show (0 : Int) < 2147483647 by decide), .ref d, rfl, d, _, 3, 3, rfl, rfl, upd_same, rfl, ?_⟩
            exact ⟨i + 1, 0, _, _, rfl, dkeep k1, upd_same, by omega, by omega, Int.emod_nonneg _ (by decide), Int.lt_trans (Int.emod_lt_of_pos _ (by decide)) (by decide)⟩
        · rw [decide_eq_false hi2]
          exact iteF ⟨i, 0, x, _, rfl, keep, hd, hi, hw, hx, hx2⟩
      · rw [decide_eq_false fun z => hw0 (V.int.inj z)]
        exact iteF ⟨i, wd, x, _, rfl, keep, hd, hi, hw, hx, hx2⟩
    · rintro σ H1 ⟨i', w', x', z2, rfl, keep, hd1, hi', hw', hx', hx2'⟩
      have hc1 := keep c _ cd hc
      refine ⟨.ref d, rfl, d, _, 2, _, rfl, rfl, sq_of hd1, rfl, w', 0, rfl, rfl, decide (0 < w'), rfl, ?_⟩
      refine ite2 (fun hb => ?_) fun hb => ?_
      · have hw2 : 0 < w' := of_decide_eq_true hb
        refine ⟨.ref d, rfl, d, _, 2, _, rfl, rfl, sq_of hd1, rfl, .inl ⟨_, rfl, .int n, rfl, w', n, rfl, rfl, hn, ?_⟩⟩
        refine ⟨.ref d, rfl, d, _, 2, _, rfl, rfl, sq_of hd1, rfl, .inl ⟨_, rfl, .int n, rfl, w', n, rfl, rfl, ⟨hn, hn2⟩, .ref d, rfl, d, _, 2, 2, rfl, rfl, hd1, rfl, ?_⟩⟩
        refine ⟨.int (w' % n), rfl, q _ _ (Int.emod_nonneg _ (by omega)) (Int.emod_lt_of_pos _ hn) ⟨dkeep keep, c, ⟨_, hd⟩, ns, i', w' / n, x', y, upd_same, dkeep keep c _ cd hc, hns, hi', Int.ediv_nonneg hw' (by omega), hx', hx2', hy, h63⟩⟩
      · refine ⟨.ref d, rfl, d, _, 4, _, rfl, rfl, sq_of hd1, rfl, y, 1, rfl, rfl, .ref d, rfl, d, _, 4, 4, rfl, rfl, hd1, rfl, ?_⟩
        refine ⟨.ref d, rfl, d, _, 3, _, rfl, rfl, sq_of upd_same, rfl, x', 48271, rfl, rfl, .inr ⟨by decide, by decide⟩, .ref d, rfl, d, _, 4, _, rfl, rfl, sq_of upd_same, rfl, y + 1, 7919, rfl, rfl, .inr ⟨by decide, by decide⟩, _, _, rfl, rfl, _, 1, rfl, rfl, ?_⟩
        refine .inl ⟨_, rfl, _, 2147483647, rfl, rfl, (show (0 : Int) < 2147483647 by decide), .ref d, rfl, d, _, 3, 3, rfl, rfl, upd_same, rfl, ?_⟩
        have hm1 := Int.emod_nonneg (x' * 48271 + (y + 1) * 7919 + 1) (show (2147483647 : Int) ≠ 0 by decide)
        have hm2 := Int.emod_lt_of_pos (x' * 48271 + (y + 1) * 7919 + 1) (show (0 : Int) < 2147483647 by decide)
        dsimp only
        generalize (x' * 48271 + (y + 1) * 7919 + 1) % 2147483647 = m at hm1 hm2
        rw [upd_upd]
        refine ⟨.ref d, rfl, d, _, 3, _, rfl, rfl, sq_of upd_same, rfl, .ref d, rfl, d, _, 3, _, rfl, rfl, sq_of upd_same, rfl, m, 1009, rfl, rfl, ⟨by decide, by decide⟩, _, 69623, rfl, rfl, m, _, rfl, rfl, .inl ⟨by omega, by omega⟩, ?_⟩
        refine .inl ⟨_, rfl, _, 2147483399, rfl, rfl, (show (0 : Int) < 2147483399 by decide), ?_⟩
        have hn1 := Int.emod_nonneg (m * (m / 1009 + 69623)) (show (2147483399 : Int) ≠ 0 by decide)
        have hn3 := Int.emod_lt_of_pos (m * (m / 1009 + 69623)) (show (0 : Int) < 2147483399 by decide)
        dsimp only
        generalize m * (m / 1009 + 69623) % 2147483399 = m2 at hn1 hn3
        refine ⟨.int m2, rfl, .int m2, rfl, m2, 2003, rfl, rfl, ⟨by decide, by decide⟩, _, 40693, rfl, rfl, m2, _, rfl, rfl, .inl ⟨by omega, by omega⟩, ?_⟩
        refine .inl ⟨_, rfl, _, 2147483563, rfl, rfl, (show (0 : Int) < 2147483563 by decide), ?_⟩
        refine ⟨.int _, rfl, _, 16, rfl, rfl, ⟨by decide, by decide⟩, .inl ⟨_, rfl, .int n, rfl, _, n, rfl, rfl, hn, ?_⟩⟩
        exact q _ _ (Int.emod_nonneg _ (by omega)) (Int.emod_lt_of_pos _ hn) ⟨dkeep keep, c, ⟨_, hd⟩, ns, i', w', m, y + 1, upd_same, dkeep keep c _ cd hc, hns, hi', hw', hm1, by omega, by omega, h63⟩
end
end FB

/-! ## KD13 -/
set_option Elab.async false
set_option linter.all false
set_option maxRecDepth 100000
set_option maxHeartbeats 8000000
namespace FB
open PySem PySem.Spec PyProof.Rows L2 Evl
/-! ### texts -/
def abc : List Nat := ("abcdefghijklmnopqrstuvwxyz" : Str).cps.toList
def sgn : List Nat := ("abcdefghijklmn" : Str).cps.toList
theorem abc_eq : abc = [97, 98, 99, 100, 101, 102, 103, 104, 105, 106, 107, 108, 109, 110, 111, 112, 113, 114, 115, 116, 117, 118, 119, 120, 121, 122] := by decide +kernel
theorem sgn_eq : sgn = [97, 98, 99, 100, 101, 102, 103, 104, 105, 106, 107, 108, 109, 110] := by decide +kernel
theorem join_cps : ∀ ys : List Nat, (Str.join ("" : Str) (ys.map fun c => (⟨#[c]⟩ : Str))).cps.toList = ys
  | [] => rfl
  | [c] => rfl
  | c :: e :: r => by
    have ih := join_cps (e :: r)
    show ((#[c] ++ #[]) ++ (Str.join ("" : Str) ((e :: r).map fun c => (⟨#[c]⟩ : Str))).cps).toList = c :: e :: r
    rw [Array.toList_append, ih]
    rfl
theorem cut7 (z : Str) : (cutS z none (some 7)).cps.toList = z.cps.toList.take 7 := by
  unfold cutS
  rw [HT.sIx_none, show HT.sIx z.length z.length (some 7) = min 7 z.length from HT.sIx_nat _ _ 7]
  simp only [List.drop_zero, Nat.sub_zero]
  show (List.take (min 7 z.length) z.cps.toList) = _
  rw [show z.length = z.cps.toList.length from (Array.length_toList).symm]
  exact List.take_eq_take_iff.mpr (by omega)
def lastC (z : Str) : Option Nat := z.cps.toList.getLast?
theorem app1 (z : Str) (c : Nat) : (cutS z none (some 7) ++ (⟨#[c]⟩ : Str)).cps.toList = z.cps.toList.take 7 ++ [c] := by
  show ((cutS z none (some 7)).cps ++ #[c]).toList = _
  rw [Array.toList_append, cut7]
theorem NameOk.sgn {z : Str} {c : Nat} (n : NameOk z) (h : c ∈ abc) : NameOk (cutS z none (some 7) ++ (⟨#[c]⟩ : Str)) := by
  obtain ⟨_, _, n3⟩ := n
  have e := app1 z c
  have el : (cutS z none (some 7) ++ (⟨#[c]⟩ : Str)).length = (z.cps.toList.take 7).length + 1 := by
    show ((cutS z none (some 7) ++ (⟨#[c]⟩ : Str)).cps).size = _
    rw [← Array.length_toList, e]; simp
  rw [List.length_take] at el
  refine ⟨by omega, by omega, fun x hx => ?_⟩
  rw [e] at hx
  rcases List.mem_append.mp hx with h1 | h1
  · exact n3 x (List.mem_of_mem_take h1)
  · cases List.mem_singleton.mp h1
    exact h
theorem lastC_sgn (z : Str) (c : Nat) : lastC (cutS z none (some 7) ++ (⟨#[c]⟩ : Str)) = some c := by
  unfold lastC
  rw [app1]
  simp
/-- thirteen unlike last signs are too many -/
theorem signs_out {xs : List Str} (h5 : xs.length ≤ 5) (h : ∀ j : Nat, j < 13 → ∃ x ∈ xs, lastC x = sgn[j]?) : False := by
  have := KM.php (sgn.take 13) (xs.filterMap lastC) (by rw [sgn_eq]; decide) fun c hc => by
    obtain ⟨j, hj, e⟩ := List.mem_iff_getElem.mp hc
    rw [List.length_take] at hj
    obtain ⟨x, hx, hl⟩ := h j (by omega)
    rw [List.mem_filterMap]
    refine ⟨x, hx, ?_⟩
    rw [hl, ← e, List.getElem_take, List.getElem?_eq_getElem]
  have h13 : (sgn.take 13).length = 13 := by rw [sgn_eq]; rfl
  have := List.length_filterMap_le lastC xs
  omega
theorem ones_sum : ∀ ys : List Nat, ((ys.map fun c => (⟨#[c]⟩ : Str)).map (·.length)).sum = ys.length
  | [] => rfl
  | c :: ys => by
    have ih := ones_sum ys
    simp only [List.map_cons, List.sum_cons, List.length_cons, ih]
    show 1 + ys.length = ys.length + 1
    omega
theorem join_ok {ys : List Nat} (h1 : 1 ≤ ys.length) (h8 : ys.length ≤ 8) (h : ∀ c ∈ ys, c ∈ abc) : NameOk (Txt.join ("" : Str) (ys.map fun c => (⟨#[c]⟩ : Str))) := by
  rw [TL.join_eq]
  have e := join_cps ys
  have el : (Str.join ("" : Str) (ys.map fun c => (⟨#[c]⟩ : Str))).length = ys.length := by
    show (Str.join ("" : Str) (ys.map fun c => (⟨#[c]⟩ : Str))).cps.size = _
    rw [← Array.length_toList, e]
  refine ⟨by omega, by omega, fun c hc => ?_⟩
  rw [e] at hc
  exact h c hc
theorem abc_at {j : Int} (h0 : 0 ≤ j) (h1 : j < 26) : ∃ c, atI abc j = some c ∧ c ∈ abc := by
  have hl : abc.length = 26 := by rw [abc_eq]; rfl
  have hj : j.toNat < abc.length := by omega
  refine ⟨abc[j.toNat], ?_, List.getElem_mem hj⟩
  have z := atI_of (xs := abc) (j := j.toNat) (v := abc[j.toNat]) (List.getElem?_eq_getElem hj)
  rwa [Int.toNat_of_nonneg h0] at z
theorem tyes {σ : L2.St} {H : Hp} {A B : Hp → Prop} (h : A H) : tYes σ H (fun b H3 => if b = true then A H3 else B H3) := by
  show if true = true then A H else B H
  exact iteT h
/-- over a text -/
theorem for_txt {x : Str} {g : TG} {tb : TS} {D : Ends} {σ : L2.St} {H : Hp} (Pv : Nat → L2.St → Hp → Prop) (h0 : Pv 0 σ H)
    (hs : ∀ i c σ H, x.cps[i]? = some c → Pv i σ H → g (.str ⟨#[c]⟩) σ H fun σ2 H2 => tb { D with nx := Pv (i + 1), ct := Pv (i + 1), bk := D.nx } σ2 H2) (hd : ∀ σ H, Pv x.cps.size σ H → D.nx σ H) :
    ∃ W : Nat → Nat → L2.St → Hp → Prop, (∃ m, W 0 m σ H) ∧ ∀ i m σ H, W i m σ H →
      ((Its x).stop i H ∧ D.nx σ H) ∨ ((Its x).go i H ∧ ∃ N : L2.St → Hp → Prop, (∀ σ' H', N σ' H' → ∃ m', m' < m ∧ W (i + 1) m' σ' H') ∧ ∀ y H', (Its x).yld i H y H' → g y σ H' fun σ2 H2 => tb { D with nx := N, ct := N, bk := D.nx } σ2 H2) := by
  refine ⟨fun i m σ H => m = x.cps.size - i ∧ i ≤ x.cps.size ∧ Pv i σ H, ⟨x.cps.size, rfl, Nat.zero_le _, h0⟩, ?_⟩
  rintro i m σ H ⟨rfl, hi, p⟩
  by_cases hlt : i < x.cps.size
  · refine .inr ⟨hlt, Pv (i + 1), fun σ' H' p' => ⟨x.cps.size - (i + 1), by omega, rfl, hlt, p'⟩, fun v H' y => ?_⟩
    obtain ⟨rfl, c, hc, rfl⟩ := y
    exact hs i c σ _ hc p
  · have e : i = x.cps.size := by omega
    subst e
    exact .inl ⟨Nat.le_refl _, hd _ _ p⟩
section
variable {P : Program} {w : World} {K : PySem.W.Frag} {mg : Str → Option Value} {base : Heap}
/-! ### _law_names -/
theorem ok_L_names {f : Addr} {fd : FuncData} (F : Fun K "_law_names" "_law_names" s_L_names f fd) (B : Bl mg) (cD : Cl P w K mg base 1 "_law_draw" sp_L_draw) : FnOk P w K mg base CX0 2 f fd ["_law_dice_here", "_law_size"] sp_L_names := by
  refine F.ok sc_L_names (fun vs H Q E h => ?_) (fun cdv A outer s H vs Q E hr h => ?_)
  · obtain ⟨_, _, rfl, _⟩ := h; rfl
  · obtain ⟨d, n, rfl, D, hn, q⟩ := h
    refine ⟨_, pss_cons (ps_set (i := 2) sc_L_names.nd rfl (.inl rfl) (pe_lst pa_nil))
      (pss_cons (ps_for PassesOwn.never rfl (pi_range1 (by rfl) B.range (pa_cons (pv 1) pa_nil)) (pg_name (i := 3) sc_L_names.nd rfl (.inl rfl))
        (pss_cons (ps_set (i := 4) sc_L_names.nd rfl (.inl rfl) (pe_join pe_str
          (pe_lc (own := [("_law_j", 6)]) (g := gName 6) (tt := tYes) rfl sc_L_names.nd (pi_range1 (by rfl) B.range (pa_cons (pe_op op_add pe_int (pe_cl cD hr (pa_cons (pv 0) (pa_cons pe_int pa_nil)))) pa_nil)) (blkOk_by (own := [("_law_j", 6)]) (N := n_L_names) (sc := defScope s_L_names) (by decide +kernel)) (fun _ _ _ _ _ => pg_name (i := 6) sc_L_names.nd rfl (Or.inl rfl)) (fun _ _ _ _ _ => pts_nil)
            (fun _ _ _ _ _ => pe_ix ix_str pe_str (pe_cl cD hr (pa_cons (pv 0) (pa_cons pe_int pa_nil))) (fun _ _ => rfl)))))
        (pss_cons (ps_for PassesOwn.never rfl (pi_str pe_str) (pg_name (i := 5) sc_L_names.nd rfl (.inl rfl))
          (pss_one (ps_if (pt_cmpR op_in_seq (pv 4) (pv 2) rfl) (pss_one (ps_set (i := 4) sc_L_names.nd rfl (.inl rfl) (pe_op op_add_str (pe_slice sl_str (pv 4) po_none (po_some pe_int)) (pv 5)))) pss_nil)))
        (pss_one (ps_expr (pe_bm PySem.F.plainAttrs_list PySem.F.slot_list_append PySem.F.type_list_append mt_append (pv 2) (pa_cons (pv 4) pa_nil)))))))
      (pss_one (ps_ret (pv 2)))), ?_⟩
    refine ⟨by show 0 ≤ sizeLine; decide, fun l hl => ?_⟩
    have ld : l ≠ d := fun z => by obtain ⟨L, z2⟩ := D.lst; rw [← z, hl] at z2; cases z2
    refine ⟨.int n, rfl, n, rfl, by omega, by omega, ?_⟩
    refine for_range (lo := 0) (n := n) (fun k σ H1 => DEx d H H1 ∧ (∃ z3 z4 z5, σ = [some (.ref d), some (.int n), some (.ref l), z3, z4, z5, none]) ∧ ∃ xs : List Str, H1 l = some (.lst (xs.map V.str)) ∧ xs.length = k ∧ xs.Nodup ∧ ∀ x ∈ xs, NameOk x)
      ⟨DEx.of D (Ex.new hl), ⟨_, _, _, rfl⟩, [], upd_same, rfl, List.nodup_nil, fun _ h => nomatch h⟩ (fun k σ H1 hk p => ?_) fun σ H1 p => ?_
    · obtain ⟨e1, ⟨z3, z4, z5, rfl⟩, xs, hl1, hk1, nd, ok⟩ := p
      refine ⟨⟨_, rfl⟩, .ref d, rfl, d, 8, rfl, e1.dice, by decide, by decide, fun m H2 h0 h8 e2 => ⟨1, m, rfl, rfl, 1 + m, rfl, by omega, by omega, fun Dl hDl => ?_⟩⟩
      have hl2 := e2.1 l _ ld hl1
      have hDd : Dl ≠ d := fun z => by obtain ⟨L, z2⟩ := e2.dice.lst; rw [← z, hDl] at z2; cases z2
      refine lc_range (lo := 0) (n := (1 + m).toNat) (fun i H3 => DEx d H2 H3 ∧ ∃ cs : List Nat, H3 Dl = some (.lst ((cs.map fun c => (⟨#[c]⟩ : Str)).map V.str)) ∧ cs.length = i ∧ ∀ c ∈ cs, c ∈ abc) ⟨DEx.of e2.dice (Ex.new hDl), [], upd_same, rfl, fun _ h => nomatch h⟩ (fun i H3 hi p => ⟨rfl, ?_⟩) fun H3 p => ?_
      · refine tyes ?_
        obtain ⟨e3, cs, hD3, hcl, hcs⟩ := p
        refine ⟨.ref d, rfl, d, 26, rfl, e3.dice, by decide, by decide, fun j H4 j0 j1 e4 => ?_⟩
        obtain ⟨c, hc, hca⟩ := abc_at j0 j1
        refine ⟨_, j, c, rfl, rfl, by decide +kernel, hc, _, e4.1 Dl _ hDd hD3, sz_lt (by simp; omega), DEx.mut e2.dice (e3.trans e4) hDl, cs ++ [c], ?_, by simp [hcl], fun x hx => ?_⟩
        · rw [upd_same]; simp
        · rcases List.mem_append.mp hx with z | z
          · exact hcs x z
          · cases List.mem_singleton.mp z
            exact hca
      obtain ⟨e3, cs, hD3, hcl, hcs⟩ := p
      refine ⟨_, Dl, _, rfl, rfl, .inl (sq_of hD3), by rw [ones_sum]; show cs.length + _ * 0 ≤ _; omega, ?_⟩
      have hok := join_ok (by omega) (by omega) hcs
      generalize Txt.join _ (cs.map fun c => (⟨#[c]⟩ : Str)) = wd0 at hok
      have hl3 := e3.1 l _ ld hl2
      have e13 := e1.trans (e2.trans e3)
      refine ⟨_, rfl, for_txt (x := "abcdefghijklmn") (fun i σ H' => H' = H3 ∧ (∃ wd z5', σ = [some (.ref d), some (.int n), some (.ref l), some (.int (0 + (k : Nat))), some (.str wd), z5', none] ∧ NameOk wd ∧ (wd ∉ xs ∨ ((i = 0 ∨ lastC wd = sgn[i - 1]?) ∧ ∀ j : Nat, j + 1 < i → ∃ x ∈ xs, lastC x = sgn[j]?))))
        ⟨rfl, wd0, z5, rfl, hok, .inr ⟨.inl rfl, fun j hj => absurd hj (by omega)⟩⟩ (fun i c σ H' hc p => ?_) fun σ H' p => ?_⟩
      · obtain ⟨rfl, wd, z5', rfl, hok1, hin⟩ := p
        have hsc : sgn[i]? = some c := by
          show (("abcdefghijklmn" : Str).cps.toList)[i]? = some c
          rw [Array.getElem?_toList]; exact hc
        have hca : c ∈ abc := by
          have hm := List.mem_of_getElem? hsc
          rw [sgn_eq] at hm
          rw [abc_eq]
          simp only [List.mem_cons, List.not_mem_nil, or_false] at hm ⊢
          omega
        refine ⟨.str wd, rfl, .ref l, rfl, l, _, rfl, .inl (sq_of hl3), rfl, flat_strs' _, decide (wd ∈ xs), ?_, ?_⟩
        · show V.bl (inV (.str wd) _) = _
          rw [inV_str]
        · by_cases hw : wd ∈ xs
          · rw [decide_eq_true hw]
            refine iteT ⟨.str wd, rfl, 7, rfl, wd, rfl, Nat.le_trans hok1.2.1 (by decide), .str ⟨#[c]⟩, rfl, _, _, rfl, rfl, ?_, rfl, _, _, rfl, hok1.sgn hca, .inr ⟨.inr ?_, fun j hj => ?_⟩⟩
            · have := cutS_length wd none (some 7)
              have h1 : (⟨#[c]⟩ : Str).length = 1 := rfl
              have := hok1.2.1
              rw [h1]; show _ ≤ sizeLine; exact Nat.le_trans (show _ ≤ 9 by omega) (by decide)
            · rw [lastC_sgn, Nat.add_sub_cancel, hsc]
            · rcases hin with z | ⟨z1, z2⟩
              · exact absurd hw z
              · by_cases hj2 : j + 1 < i
                · exact z2 j hj2
                · rcases z1 with z1 | z1
                  · omega
                  · refine ⟨wd, hw, ?_⟩
                    rw [z1, show i - 1 = j by omega]
          · rw [decide_eq_false hw]
            exact iteF ⟨rfl, wd, _, rfl, hok1, .inl hw⟩
      · obtain ⟨rfl, wd, z5', rfl, hok1, hin⟩ := p
        have hnot : wd ∉ xs := by
          rcases hin with z | ⟨_, z2⟩
          · exact z
          · have h14 : ("abcdefghijklmn" : Str).cps.size = 14 := by decide +kernel
            exact (signs_out (by omega) fun j hj => z2 j (by omega)).elim
        refine ⟨.ref l, rfl, .inl ⟨rfl, _, sq_of hl3⟩, .str wd, rfl, l, _, .str wd, rfl, rfl, hl3, sz_lt (by simp; omega), ?_⟩
        refine ⟨DEx.mut D e13 hl, ⟨_, _, _, rfl⟩, xs ++ [wd], by rw [upd_same]; simp, by simp [hk1], ?_, fun x hx => ?_⟩
        · rw [List.nodup_append]
          exact ⟨nd, by simp, fun a ha b hb => by cases List.mem_singleton.mp hb; exact fun z => hnot (z ▸ ha)⟩
        · rcases List.mem_append.mp hx with z | z
          · exact ok x z
          · cases List.mem_singleton.mp z
            exact hok1
    · obtain ⟨e1, ⟨z3, z4, z5, rfl⟩, xs, hl1, hk1, nd, ok⟩ := p
      exact ⟨.ref l, rfl, q l xs H1 e1 hl ld hl1 hk1 nd ok⟩
end
end FB

/-! ## KD14 -/
set_option Elab.async false
set_option linter.all false
set_option maxRecDepth 100000
set_option maxHeartbeats 8000000
namespace FB
open PySem PySem.Spec PyProof.Rows L2 Evl
abbrev nats (ns : List Nat) : List V := ns.map fun k : Nat => V.int (k : Int)
section
variable {P : Program} {w : World} {K : PySem.W.Frag} {mg : Str → Option Value} {base : Heap}
/-! ### _law_belts -/
theorem ok_L_belts {f : Addr} {fd : FuncData} (F : Fun K "_law_belts" "_law_belts" s_L_belts f fd) (B : Bl mg) (cD : Cl P w K mg base 1 "_law_draw" sp_L_draw) : FnOk P w K mg base CX0 2 f fd ["_law_dice_here", "_law_size"] sp_L_belts := by
  refine F.ok sc_L_belts (fun vs H Q E h => ?_) (fun cdv A outer s H vs Q E hr h => ?_)
  · obtain ⟨_, _, rfl, _⟩ := h; rfl
  · obtain ⟨d, n, rfl, D, hn1, hn, q⟩ := h
    refine ⟨_, pss_cons (ps_set (i := 2) sc_L_belts.nd rfl (.inl rfl) (pe_lst pa_nil))
      (pss_cons (ps_set (i := 3) sc_L_belts.nd rfl (.inl rfl) (pv 1))
      (pss_cons (ps_for PassesOwn.never rfl (pi_range1 (by rfl) B.range (pa_cons pe_int pa_nil)) (pg_name (i := 4) sc_L_belts.nd rfl (.inl rfl))
        (pss_one (ps_if (pt_cmpR op_gt (pv 3) pe_int (nomark _))
          (pss_cons (ps_set (i := 5) sc_L_belts.nd rfl (.inl rfl) (pe_op op_add pe_int (pe_cl cD hr (pa_cons (pv 0) (pa_cons (pv 3) pa_nil)))))
          (pss_cons (ps_expr (pe_bm PySem.F.plainAttrs_list PySem.F.slot_list_append PySem.F.type_list_append mt_append (pv 2) (pa_cons (pv 5) pa_nil)))
          (pss_one (ps_set (i := 3) sc_L_belts.nd rfl (.inl rfl) (pe_op op_sub (pv 3) (pv 5)))))) pss_nil)))
      (pss_cut (ps_if (pt_cmpR op_gt (pv 3) pe_int (nomark _)) (pss_one (ps_expr (pe_bm PySem.F.plainAttrs_list PySem.F.slot_list_append PySem.F.type_list_append mt_append (pv 2) (pa_cons (pv 3) pa_nil)))) pss_nil)
      (pss_cut (ps_if (pt_cmpR op_eq (pe_cl cD hr (pa_cons (pv 0) (pa_cons pe_int pa_nil))) pe_int (nomark _)) (pss_one (ps_set (i := 2) sc_L_belts.nd rfl (.inl rfl) (pe_lst (pa_cons (pv 1) pa_nil)))) pss_nil)
      (pss_one (ps_ret (pe_callTy call_tupS (by rfl) B.tuple boot_tuple' (pa_cons (pv 2) pa_nil)))))))), ?_⟩
    refine ⟨by show 0 ≤ sizeLine; decide, fun l hl => ?_⟩
    have ld : l ≠ d := fun z => by obtain ⟨L, z2⟩ := D.lst; rw [← z, hl] at z2; cases z2
    refine ⟨.int n, rfl, 5, rfl, by decide, by decide, ?_⟩
    refine for_range (lo := 0) (n := 5) (fun k σ H1 => DEx d H H1 ∧ ∃ (ns : List Nat) (lf : Nat), (∃ z4 z5, σ = [some (.ref d), some (.int n), some (.ref l), some (.int (lf : Int)), z4, z5]) ∧ H1 l = some (.lst (nats ns)) ∧ KM.Pos ns ∧ ns.sum + lf = n ∧ ns.length ≤ k)
      ⟨DEx.of D (Ex.new hl), [], n, ⟨_, _, rfl⟩, upd_same, (fun _ h => nomatch h), by simp, Nat.le_refl _⟩ (fun k σ H1 hk p => ?_) fun σ H1 p => ?_
    · obtain ⟨e1, ns, lf, ⟨z4, z5, rfl⟩, hl1, hp, hs, hln⟩ := p
      refine ⟨.int lf, rfl, lf, 0, rfl, rfl, _, rfl, ite2 (fun hb => ?_) fun hb => ⟨e1, ns, lf, ⟨_, _, rfl⟩, hl1, hp, hs, by omega⟩⟩
      have h0 : (0 : Int) < lf := of_decide_eq_true hb
      refine ⟨.ref d, rfl, .int lf, rfl, d, lf, rfl, e1.dice, h0, by omega, fun m H2 m0 m1 e2 => ⟨1, m, rfl, rfl, ?_⟩⟩
      have hl2 := e2.1 l _ ld hl1
      refine ⟨.ref l, rfl, .inl ⟨rfl, _, sq_of hl2⟩, .int (1 + m), rfl, l, _, _, rfl, rfl, hl2, sz_lt (by simp; omega), ?_⟩
      refine ⟨.int lf, rfl, .int (1 + m), rfl, lf, 1 + m, rfl, rfl, ?_⟩
      refine ⟨DEx.mut D (e1.trans e2) hl, ns ++ [m.toNat + 1], lf - (m.toNat + 1), ⟨some (.int (0 + (k : Nat))), some (.int (1 + m)), ?_⟩, ?_, fun x hx => ?_, ?_, by simp; omega⟩
      · rw [show ((lf - (m.toNat + 1) : Nat) : Int) = (lf : Int) - (1 + m) by omega]; rfl
      · rw [upd_same]
        simp only [nats, List.map_append, List.map_cons, List.map_nil]
        rw [show ((m.toNat + 1 : Nat) : Int) = 1 + m by omega]
      · rcases List.mem_append.mp hx with z | z
        · exact hp x z
        · cases List.mem_singleton.mp z; omega
      · rw [List.sum_append]; simp; omega
    · obtain ⟨e1, ns, lf, ⟨z4, z5, rfl⟩, hl1, hp, hs, hln⟩ := p
      refine ⟨fun σ H2 => DEx d H H2 ∧ ∃ (ns : List Nat) (z3 z4 z5 : Option V), σ = [some (.ref d), some (.int n), some (.ref l), z3, z4, z5] ∧ H2 l = some (.lst (nats ns)) ∧ KM.Pos ns ∧ ns.sum = n, ?_, ?_⟩
      · refine ⟨.int lf, rfl, lf, 0, rfl, rfl, _, rfl, ite2 (fun hb => ?_) fun hb => ⟨e1, ns, _, _, _, rfl, hl1, hp, ?_⟩⟩
        · have h0 : (0 : Int) < lf := of_decide_eq_true hb
          refine ⟨.ref l, rfl, .inl ⟨rfl, _, sq_of hl1⟩, .int lf, rfl, l, _, _, rfl, rfl, hl1, sz_lt (by simp; omega), ?_⟩
          refine ⟨DEx.mut D e1 hl, ns ++ [lf], _, _, _, rfl, by rw [upd_same]; simp [nats], fun x hx => ?_, by rw [List.sum_append]; simpa using hs⟩
          rcases List.mem_append.mp hx with z | z
          · exact hp x z
          · cases List.mem_singleton.mp z; omega
        · have h0 : ¬ (0 : Int) < lf := fun z => hb (decide_eq_true z)
          omega
      rintro σ H2 ⟨e2, ns2, z3, z4, z5, rfl, hl2, hp2, hs2⟩
      refine ⟨fun σ H3 => DEx d H H3 ∧ ∃ (l' : Addr) (ns : List Nat) (z3 z4 z5 : Option V), σ = [some (.ref d), some (.int n), some (.ref l'), z3, z4, z5] ∧ H3 l' = some (.lst (nats ns)) ∧ KM.Pos ns ∧ ns.sum = n, ?_, ?_⟩
      · refine ⟨.ref d, rfl, d, 4, rfl, e2.dice, by decide, by decide, fun m H3 m0 m1 e3 => ⟨rfl, _, rfl, ite2 (fun hb => ?_) fun hb => ⟨e2.trans e3, l, ns2, _, _, _, rfl, e3.1 l _ ld hl2, hp2, hs2⟩⟩⟩
        refine ⟨.int n, rfl, by show 1 ≤ sizeLine; decide, fun l' hl' => ⟨(e2.trans e3).new hl', l', [n], _, _, _, rfl, upd_same, fun x hx => ?_, by simp⟩⟩
        cases List.mem_singleton.mp hx; omega
      · rintro σ H3 ⟨e3, l', ns3, z3, z4, z5, rfl, hl3, hp3, hs3⟩
        exact ⟨.ref l', rfl, l', _, rfl, .inl ⟨sq_of hl3, fun t ht => q t ns3 _ (e3.new ht) upd_same hp3 hs3⟩⟩
/-! ### _law_lengths -/
theorem ok_L_lengths {f : Addr} {fd : FuncData} (F : Fun K "_law_lengths" "_law_lengths" s_L_lengths f fd) (B : Bl mg) (cB : Cl P w K mg base 2 "_law_belts" sp_L_belts) : FnOk P w K mg base CX0 3 f fd ["_law_dice_here", "_law_size"] sp_L_belts := by
  refine F.ok sc_L_lengths (fun vs H Q E h => ?_) (fun cdv A outer s H vs Q E hr h => ?_)
  · obtain ⟨_, _, rfl, _⟩ := h; rfl
  · obtain ⟨d, n, rfl, D, hn1, hn, q⟩ := h
    have hu := hr.units
    refine ⟨_, pss_cons (ps_set (i := 2) sc_L_lengths.nd rfl (.inl rfl) (pe_cl cB hr (pa_cons (pv 0) (pa_cons (pv 1) pa_nil))))
      (pss_cons (ps_if (pt_cmpR op_gt (pe_callB (cr_maxT rfl hu) (by rfl) B.max boot_max' (pa_cons (pv 2) pa_nil)) pe_int (nomark _))
        (pss_one (ps_set (i := 2) sc_L_lengths.nd rfl (.inl rfl) (pe_op op_catA (pe_tup (pa_cons pe_int pa_nil)) (pe_cl cB hr (pa_cons (pv 0) (pa_cons (pe_op op_sub (pv 1) pe_int) pa_nil)))))) pss_nil)
      (pss_one (ps_ret (pv 2)))), ?_⟩
    refine ⟨.ref d, rfl, .int n, rfl, d, n, rfl, D, hn1, hn, fun p ns H1 e1 hp1 hpos hsum => ?_⟩
    have enat : nats ns = (ns.map fun k : Nat => (k : Int)).map V.int := by simp [nats]
    refine ⟨.ref p, rfl, p, ns.map fun k : Nat => (k : Int), rfl, st_of (by rw [← enat]; exact hp1), ?_, fun m hm => ⟨m, 8, rfl, rfl, _, rfl, ?_⟩⟩
    · cases ns with
      | nil => simp at hsum; omega
      | cons a l => simp
    · obtain ⟨k, hk, rfl⟩ := List.mem_map.mp hm
      have := le_sum hk
      rw [decide_eq_false (show ¬ (8 : Int) < (k : Int) by omega)]
      exact iteF ⟨.ref p, rfl, q p ns H1 e1 hp1 hpos hsum⟩
end
end FB

/-! ## KD15 -/
set_option Elab.async false
set_option linter.all false
set_option maxRecDepth 100000
set_option maxHeartbeats 8000000
namespace FB
open PySem PySem.Spec PyProof.Rows L2 Evl
/-! ### drawn out of a list, one by one -/
theorem get_cut {α : Type} {zs : List α} {k : Nat} {y : α} (h : zs[k]? = some y) : zs = zs.take k ++ y :: zs.drop (k + 1) := by
  obtain ⟨hk, rfl⟩ := List.getElem?_eq_some_iff.mp h
  rw [← List.drop_eq_getElem_cons hk, List.take_append_drop]
theorem pop_perm {α : Type} {zs : List α} {k : Nat} {y : α} (h : zs[k]? = some y) : (y :: zs.eraseIdx k).Perm zs := by
  rw [List.eraseIdx_eq_take_drop_succ]
  have e := get_cut h
  exact (List.perm_middle.symm).trans (.of_eq e.symm)
theorem erase_map {α β : Type} (f : α → β) (zs : List α) (k : Nat) : (zs.map f).eraseIdx k = (zs.eraseIdx k).map f := by
  rw [List.eraseIdx_eq_take_drop_succ, List.eraseIdx_eq_take_drop_succ, List.map_append, List.map_take, List.map_drop]
def tPop (K : PySem.W.Frag) (i : Nat) : TE := tBM K "list" rPopAt (tVar i) (tCons (tCall sp_L_draw [] E0 (tCons (tVar 0) (tCons (tCB (rLenS K) (tCons (tVar i) tNil)) tNil))) tNil)
theorem DEx.back {d D : Addr} {H H' : Hp} (e : DEx d H H') (h : H' D = none) : H D = none := by
  cases hc : H D with
  | none => rfl
  | some o =>
    by_cases z : D = d
    · obtain ⟨L, h2⟩ := e.dice.lst
      rw [← z, h] at h2; cases h2
    · rw [e.1 D o z hc] at h; cases h
theorem lc_pops {K : PySem.W.Frag} {d l D : Addr} {Hs H1 : Hp} {σ : L2.St} {vs : List Nat} {k i m : Nat} {ws : List (Option Str)} {Qd : Hp → Prop}
    (Ds : Dice Hs d) (es : DEx d Hs H1) (hsl : Hs l = none) (hl : H1 l = some (.lst (ws.map it))) (hm : m ≤ ws.length) (h5 : ws.length ≤ 100) (hD : H1 D = none)
    (v0 : ∀ x : V, ((wipe σ vs).set k (some x))[0]? = some (some (.ref d))) (vi : ∀ x : V, ((wipe σ vs).set k (some x))[i]? = some (some (.ref l)))
    (hw : ∀ x, wipe ((wipe σ vs).set k (some x)) vs = wipe σ vs)
    (done : ∀ H (ys zs : List (Option Str)), (∀ a o, a ≠ d → a ≠ l → H1 a = some o → H a = some o) → DEx d Hs H → H l = some (.lst (zs.map it)) → H D = some (.lst (ys.map it)) → ys.length = m → (ys ++ zs).Perm ws → Qd H) :
    ∃ W : Nat → Nat → Hp → Prop, (∃ m, W 0 m (upd H1 D (.lst []))) ∧ ∀ i' m' H, W i' m' H →
      ((Itr 0 m).stop i' H ∧ Qd H) ∨ ((Itr 0 m).go i' H ∧ ∃ Nx : Hp → Prop, (∀ H', Nx H' → ∃ n', n' < m' ∧ W (i' + 1) n' H') ∧ ∀ x H', (Itr 0 m).yld i' H x H' → gName k x (wipe σ vs) H' fun σ2 H2 => wipe σ2 vs = wipe σ vs ∧ tYes σ2 H2 fun b H3 =>
        if b = true then tPop K i σ2 H3 fun y H4 => ∃ acc, H4 D = some (.lst acc) ∧ acc.length < sizeLine ∧ Nx (upd H4 D (.lst (acc ++ [y]))) else Nx H3) := by
  have hDs := es.back hD
  have ld : l ≠ d := fun z => by obtain ⟨L, z2⟩ := Ds.lst; rw [← z, hsl] at z2; cases z2
  have Dd : D ≠ d := fun z => by obtain ⟨L, z2⟩ := Ds.lst; rw [← z, hDs] at z2; cases z2
  have Dl : D ≠ l := fun z => by rw [z, hl] at hD; cases hD
  refine lc_range (lo := 0) (n := m) (fun j H => (∀ a o, a ≠ d → a ≠ l → H1 a = some o → H a = some o) ∧ DEx d Hs H ∧ ∃ ys zs : List (Option Str), H l = some (.lst (zs.map it)) ∧ H D = some (.lst (ys.map it)) ∧ ys.length = j ∧ (ys ++ zs).Perm ws)
    ⟨fun a o _ _ h => Ex.new hD a o h, es.new hD, [], ws, by rw [upd_ne (Ne.symm Dl)]; exact hl, upd_same, rfl, .refl _⟩ (fun j H hj p => ?_) fun H p => ?_
  · obtain ⟨kp, e, ys, zs, hl1, hD1, hy, pm⟩ := p
    refine ⟨hw _, tyes ?_⟩
    have hlen := pm.length_eq
    rw [List.length_append] at hlen
    refine ⟨_, vi _, .inl ⟨rfl, _, sq_of hl1⟩, _, v0 _, _, vi _, l, _, rfl, .inl (sq_of hl1), d, _, rfl, e.dice, ?_, ?_, fun r H4 r0 r1 e4 => ?_⟩
    · rw [List.length_map]; omega
    · rw [List.length_map]; omega
    · rw [List.length_map] at r1
      have hl4 := e4.1 l _ ld hl1
      have hk : r.toNat < zs.length := by omega
      have hg : zs[r.toNat]? = some zs[r.toNat] := List.getElem?_eq_getElem hk
      refine ⟨l, _, r, r.toNat, it zs[r.toNat], rfl, rfl, hl4, by omega, by omega, PySem.seqIndex_of (by omega) (by rw [List.length_map]; omega), by rw [List.getElem?_map, hg]; rfl, ?_⟩
      have hl5 : upd H4 l (.lst ((zs.map it).eraseIdx r.toNat)) D = some (.lst (ys.map it)) := by rw [upd_ne Dl]; exact e4.1 D _ Dd hD1
      have e5 := DEx.mut (o := .lst ((zs.map it).eraseIdx r.toNat)) Ds (e.trans e4) hsl
      refine ⟨_, hl5, sz_lt (by rw [List.length_map]; omega), fun a o h1 h2 h => ?_, DEx.mut Ds e5 hDs, ys ++ [zs[r.toNat]], zs.eraseIdx r.toNat, ?_, ?_, by simp [hy], ?_⟩
      · rw [upd_ne (fun z => by rw [z, hD] at h; cases h), upd_ne h2]
        exact e4.1 a o h1 (kp a o h1 h2 h)
      · rw [upd_ne (Ne.symm Dl), upd_same, erase_map]
      · rw [upd_same, List.map_append]; rfl
      · rw [List.append_assoc]
        exact (List.Perm.append_left ys (pop_perm hg)).trans pm
  · obtain ⟨kp, e, ys, zs, hl1, hD1, hy, pm⟩ := p
    exact done H ys zs kp e hl1 hD1 hy pm
/-! ### new lists, whichever object -/
theorem rep_one (n : Nat) (x : V) : (List.replicate n [x]).flatten = List.replicate n x := by
  induction n with
  | zero => rfl
  | succ n ih => rw [List.replicate_succ, List.replicate_succ, List.flatten_cons, ih]; rfl
theorem cat_new {H : Hp} {l b : Addr} {xs zs : List V} {Q : VK} (h1 : H l = some (.lst xs)) (h2 : H b = some (.lst zs)) (hz : xs.length + zs.length ≤ 100000)
    (k : ∀ p H', H p = none → Ex H H' → H' p = some (.lst (xs ++ zs)) → Q (.ref p) H') : rCat (.ref l) (.ref b) H Q :=
  ⟨l, b, xs, zs, rfl, rfl, h1, h2, sz_of hz, fun p hp => k p _ hp (Ex.new hp) upd_same⟩
theorem rep_new {H : Hp} {b : Addr} {x : V} {i : Int} {n : Nat} {Q : VK} (hb : H b = some (.lst [x])) (hi : i = (n : Int)) (hn : n ≤ 100) (k : ∀ p H', Ex H H' → H' p = some (.lst (List.replicate n x)) → Q (.ref p) H') : rRep (.ref b) (.int i) H Q := by
  subst hi
  refine ⟨b, n, [x], rfl, rfl, hb, by omega, by omega, sz_of (by simp; omega), fun p hp => k p _ (Ex.new hp) ?_⟩
  rw [upd_same]
  show some (HO.lst (List.replicate n [x]).flatten) = _
  rw [rep_one]
theorem list_new {K : PySem.W.Frag} {H : Hp} {a : Addr} {xs : List V} {Q : VK} (ha : H a = some (.lst xs)) (k : ∀ p H', Ex H H' → H' p = some (.lst xs) → Q (.ref p) H') : rListS K [.ref a] H Q :=
  ⟨a, xs, rfl, .inl (sq_of ha), fun p hp => k p _ (Ex.new hp) upd_same⟩
/-! ### rows of a word -/
theorem splitL_flat : ∀ (w : List (Option Str)) (ns : List Nat), ns.sum = w.length → (splitL w ns).flatten = w
  | w, [], h => by
    cases w with
    | nil => rfl
    | cons a l => simp at h
  | w, n :: ns, h => by
    rw [List.sum_cons] at h
    show w.take n ++ (splitL (w.drop n) ns).flatten = w
    rw [splitL_flat (w.drop n) ns (by rw [List.length_drop]; omega), List.take_append_drop]
theorem splitL_shp : ∀ (w : List (Option Str)) (ns : List Nat), ns.sum ≤ w.length → shp (splitL w ns) = ns
  | w, [], h => rfl
  | w, n :: ns, h => by
    rw [List.sum_cons] at h
    show (w.take n).length :: shp (splitL (w.drop n) ns) = n :: ns
    rw [splitL_shp (w.drop n) ns (by rw [List.length_drop]; omega), List.length_take, Nat.min_eq_left (by omega)]
theorem splitL_sm {w : List (Option Str)} {ns : List Nat} (h : ns.sum = w.length) (hp : KM.Pos ns) (h1 : 1 ≤ ns.sum) (h5 : ns.sum ≤ 5) : Sm (splitL w ns) := by
  have e := splitL_shp w ns (by omega)
  refine ⟨?_, by rw [e]; exact hp, by rw [e]; exact h5⟩
  rw [splitL_len]
  cases ns with
  | nil => simp at h1
  | cons a l => simp
theorem somes (xs : List Str) : (xs.map some).filterMap id = xs := by
  rw [List.filterMap_map]
  exact List.filterMap_some
theorem nones (n : Nat) : (List.replicate n (none : Option Str)).filterMap id = [] := by
  induction n with
  | zero => rfl
  | succ n ih => rw [List.replicate_succ]; exact ih
theorem its_some (xs : List Str) : (xs.map some).map it = xs.map V.str := by rw [List.map_map]; rfl
theorem its_none (n : Nat) : (List.replicate n (none : Option Str)).map it = List.replicate n V.non := by rw [List.map_replicate]; rfl
theorem items_split {w : List (Option Str)} {ns : List Nat} (h : ns.sum = w.length) : items (splitL w ns) = w.filterMap id := by
  unfold items
  rw [splitL_flat w ns h]
theorem two_of {xs : List Str} {m k n : Nat} {ys gs cs zs : List (Option Str)} {ns : List Nat} (nd : xs.Nodup) (ok : ∀ x ∈ xs, NameOk x) (hx : xs.length = n) (hm : m ≤ n) (hk : k ≤ m) (hy : ys.Perm ((xs.take m).map some ++ List.replicate (n - m) none))
    (hc : (cs ++ zs).Perm ((ys.filterMap id).map some)) (hcl : cs.length = k) (hg : gs.Perm (cs ++ List.replicate (n - k) none)) (hs : ns.sum = n) (hp : KM.Pos ns) (h1 : 1 ≤ n) (h5 : n ≤ 5) : Two (splitL ys ns) (splitL gs ns) ∧ (shp (splitL ys ns)).sum = n := by
  have ly : ns.sum = ys.length := by rw [hy.length_eq]; simp; omega
  have lg : ns.sum = gs.length := by rw [hg.length_eq]; simp; omega
  have iy : (ys.filterMap id).Perm (xs.take m) := by
    have := hy.filterMap id
    rwa [List.filterMap_append, somes, nones, List.append_nil] at this
  have ig : (gs.filterMap id).Perm (cs.filterMap id) := by
    have := hg.filterMap id
    rwa [List.filterMap_append, nones, List.append_nil] at this
  have ic : (cs.filterMap id ++ zs.filterMap id).Perm (ys.filterMap id) := by
    have := hc.filterMap id
    rwa [List.filterMap_append, somes] at this
  have e1 := items_split ly
  have e2 := items_split lg
  have dy : (ys.filterMap id).Nodup := iy.nodup_iff.mpr (nd.sublist (List.take_sublist _ _))
  have dc : (cs.filterMap id).Nodup := (List.nodup_append.mp (ic.nodup_iff.mpr dy)).1
  have sub : ∀ x ∈ gs.filterMap id, x ∈ ys.filterMap id := fun x h => ic.mem_iff.mp (List.mem_append.mpr (.inl (ig.mem_iff.mp h)))
  have ny : ∀ x ∈ ys.filterMap id, NameOk x := fun x h => ok x (List.mem_of_mem_take (iy.mem_iff.mp h))
  have sy := splitL_shp ys ns (by omega)
  refine ⟨⟨splitL_sm ly hp (by omega) (by omega), by rw [sy, splitL_shp gs ns (by omega)], ?_, ?_, ?_, ?_, ?_⟩, by rw [sy, hs]⟩
  · unfold Nm; rw [e1]; exact ny
  · unfold Nm; rw [e2]; exact fun x h => ny x (sub x h)
  · rw [e1]; exact dy
  · rw [e2]; exact ig.nodup_iff.mpr dc
  · rw [e1, e2]; exact sub
section
variable {P : Program} {w : World} {K : PySem.W.Frag} {mg : Str → Option Value} {base : Heap}
/-! ### _law_two_holdings -/
theorem ok_L_two {f : Addr} {fd : FuncData} (F : Fun K "_law_two_holdings" "_law_two_holdings" s_L_two_holdings f fd) (B : Bl mg) (cD : Cl P w K mg base 1 "_law_draw" sp_L_draw) (cL : Cl P w K mg base 3 "_law_lengths" sp_L_belts) (cS : Cl P w K mg base 1 "_law_split" (sp_L_split K)) :
    FnOk P w K mg base CX0 4 f fd ["_law_dice_here", "_law_size", "_law_names_here"] sp_L_two_holdings := by
  refine F.ok sc_L_two_holdings (fun vs H Q E h => ?_) (fun cdv A outer s H vs Q E hr h => ?_)
  · obtain ⟨_, _, _, _, rfl, _⟩ := h; rfl
  · obtain ⟨d, n, l, xs, rfl, D, ld, hl, hxn, hn1, hn, nd, ok, q⟩ := h
    refine ⟨_, pss_cons (ps_set (i := 3) sc_L_two_holdings.nd rfl (.inl rfl) (pe_cl cL hr (pa_cons (pv 0) (pa_cons (pv 1) pa_nil))))
      (pss_cons (ps_set (i := 4) sc_L_two_holdings.nd rfl (.inl rfl) (pe_cl cD hr (pa_cons (pv 0) (pa_cons (pe_op op_add (pv 1) pe_int) pa_nil))))
      (pss_cons (ps_set (i := 5) sc_L_two_holdings.nd rfl (.inr rfl) (pe_op op_cat (pe_callTy call_listS (by rfl) B.list boot_list' (pa_cons (pe_slice sl_list (pv 2) po_none (po_some (pv 4))) pa_nil)) (pe_op op_rep (pe_lst (pa_cons pe_non pa_nil)) (pe_op op_sub (pv 1) (pv 4)))))
      (pss_cons (ps_setLc (i := 6) (own := [("_law_k", 11)]) (g := gName 11) (tt := tYes) (te := tPop K 5) rfl sc_L_two_holdings.nd rfl rfl (by rfl) (pi_range1 (by rfl) B.range (pa_cons (pv 1) pa_nil)) (blkOk_by (own := [("_law_k", 11)]) (N := n_L_two_holdings) (sc := defScope s_L_two_holdings) (by decide +kernel)) (fun _ _ _ _ _ => pg_name (i := 11) sc_L_two_holdings.nd rfl (Or.inl rfl)) (fun _ _ _ _ _ => pts_nil)
        (fun _ _ _ _ _ => pe_bm (r := rPopAt) PySem.F.plainAttrs_list PySem.F.slot_list_pop PySem.F.type_list_pop mt_popAt (pv 5) (pa_cons (pe_cl cD hr (pa_cons (pv 0) (pa_cons (pe_callB (r := rLenS K) call_lenS (by rfl) B.len boot_len' (pa_cons (pv 5) pa_nil)) pa_nil))) pa_nil)))
      (pss_cons (ps_set (i := 7) sc_L_two_holdings.nd rfl (.inl rfl) (pe_callB (call_min2 rfl) (by rfl) B.min boot_min' (pa_cons (pv 4) (pa_cons (pe_cl cD hr (pa_cons (pv 0) (pa_cons (pv 1) pa_nil))) pa_nil))))
      (pss_cut (ps_if (pt_cmpR op_gt (pe_cl cD hr (pa_cons (pv 0) (pa_cons pe_int pa_nil))) pe_int (nomark _)) (pss_one (ps_set (i := 7) sc_L_two_holdings.nd rfl (.inl rfl) (pe_callB (call_min2 rfl) (by rfl) B.min boot_min' (pa_cons (pv 4) (pa_cons (pe_op op_sub (pv 1) pe_int) pa_nil))))) pss_nil)
      (pss_cons (ps_set (i := 8) sc_L_two_holdings.nd rfl (.inr rfl) (pe_lc (own := [("_law_item", 12)]) (g := gName 12) rfl sc_L_two_holdings.nd (pi_list (pv 6)) (blkOk_by (own := [("_law_item", 12)]) (N := n_L_two_holdings) (sc := defScope s_L_two_holdings) (by decide +kernel)) (fun _ _ _ _ _ => pg_name (i := 12) sc_L_two_holdings.nd rfl (Or.inl rfl)) (fun _ _ _ _ _ => pts_one (pt_cmp (pc_notN (pv 12))))
        (fun _ _ _ _ _ => pv 12)))
      (pss_cons (ps_setLc (i := 9) (own := [("_law_k", 11)]) (g := gName 11) (tt := tYes) (te := tPop K 8) rfl sc_L_two_holdings.nd rfl rfl (by rfl) (pi_range1 (by rfl) B.range (pa_cons (pv 7) pa_nil)) (blkOk_by (own := [("_law_k", 11)]) (N := n_L_two_holdings) (sc := defScope s_L_two_holdings) (by decide +kernel)) (fun _ _ _ _ _ => pg_name (i := 11) sc_L_two_holdings.nd rfl (Or.inl rfl)) (fun _ _ _ _ _ => pts_nil)
        (fun _ _ _ _ _ => pe_bm (r := rPopAt) PySem.F.plainAttrs_list PySem.F.slot_list_pop PySem.F.type_list_pop mt_popAt (pv 8) (pa_cons (pe_cl cD hr (pa_cons (pv 0) (pa_cons (pe_callB (r := rLenS K) call_lenS (by rfl) B.len boot_len' (pa_cons (pv 8) pa_nil)) pa_nil))) pa_nil)))
      (pss_cons (ps_set (i := 5) sc_L_two_holdings.nd rfl (.inr rfl) (pe_op op_cat (pv 9) (pe_op op_rep (pe_lst (pa_cons pe_non pa_nil)) (pe_op op_sub (pv 1) (pv 7)))))
      (pss_cons (ps_setLc (i := 10) (own := [("_law_k", 11)]) (g := gName 11) (tt := tYes) (te := tPop K 5) rfl sc_L_two_holdings.nd rfl rfl (by rfl) (pi_range1 (by rfl) B.range (pa_cons (pv 1) pa_nil)) (blkOk_by (own := [("_law_k", 11)]) (N := n_L_two_holdings) (sc := defScope s_L_two_holdings) (by decide +kernel)) (fun _ _ _ _ _ => pg_name (i := 11) sc_L_two_holdings.nd rfl (Or.inl rfl)) (fun _ _ _ _ _ => pts_nil)
        (fun _ _ _ _ _ => pe_bm (r := rPopAt) PySem.F.plainAttrs_list PySem.F.slot_list_pop PySem.F.type_list_pop mt_popAt (pv 5) (pa_cons (pe_cl cD hr (pa_cons (pv 0) (pa_cons (pe_callB (r := rLenS K) call_lenS (by rfl) B.len boot_len' (pa_cons (pv 5) pa_nil)) pa_nil))) pa_nil)))
      (pss_one (ps_ret (pe_tup (pa_cons (pe_cl cS hr (pa_cons (pv 6) (pa_cons (pv 3) pa_nil))) (pa_cons (pe_cl cS hr (pa_cons (pv 10) (pa_cons (pv 3) pa_nil))) pa_nil)))))))))))))), ?_⟩
    refine ⟨.ref d, rfl, .int n, rfl, d, n, rfl, D, hn1, hn, fun p ns H1 e1 hp1 hpos hsum => ?_⟩
    have dn : ∀ {a : Addr}, H a = none → a ≠ d := fun {a} h z => by obtain ⟨L, z2⟩ := D.lst; rw [← z, h] at z2; cases z2
    have pd : p ≠ d := fun z => by obtain ⟨L, z2⟩ := e1.dice.lst; rw [← z, hp1] at z2; cases z2
    refine ⟨.ref d, rfl, .int n, rfl, n, 1, rfl, rfl, d, _, rfl, e1.dice, by omega, by omega, fun r H2 r0 r1 e2 => ?_⟩
    obtain ⟨m, rfl⟩ : ∃ m : Nat, r = (m : Int) := ⟨r.toNat, by omega⟩
    have hm : m ≤ n := by omega
    have hl2 := e2.1 l _ ld (e1.1 l _ ld hl)
    -- word
    have e12 := e1.trans e2
    refine ⟨.ref l, rfl, .int m, rfl, m, rfl, l, _, rfl, sq_of hl2, fun c1 hc1 => ?_⟩
    have e13 := e12.new (o := .lst (cutV (xs.map V.str) none (some m))) hc1
    have p13 := Ex.new (o := .lst (cutV (xs.map V.str) none (some m))) hc1 p _ (e2.1 p _ pd hp1)
    refine ⟨c1, _, rfl, .inl (sq_of upd_same), fun c2 hc2 => ?_⟩
    have x3 := Ex.new (o := .lst (cutV (xs.map V.str) none (some m))) hc2
    have hc2' := upd_same (H := upd H2 c1 (.lst (cutV (xs.map V.str) none (some m)))) (a := c2) (o := .lst (cutV (xs.map V.str) none (some m)))
    generalize upd (upd H2 c1 (.lst (cutV (xs.map V.str) none (some m)))) c2 (.lst (cutV (xs.map V.str) none (some m))) = H3 at x3 hc2' ⊢
    refine ⟨by show 1 ≤ sizeLine; decide, fun c3 hc3 => ⟨.int n, rfl, .int m, rfl, n, m, rfl, rfl, rep_new (n := n - m) upd_same (by omega) (by omega) fun c4 H4 x4 hc4 =>
      cat_new (x4 _ _ (Ex.new hc3 _ _ hc2')) hc4 ?_ fun wd H5 hwd x5 hw5 => ?_⟩⟩
    · rw [cut_to]; simp; omega
    rw [cut_to] at hw5
    have x35 := (Ex.new (o := .lst [V.non]) hc3).trans (x4.trans x5)
    have e5 := e13.ex (x3.trans x35)
    have p5 := (x3.trans x35) p _ p13
    have hwd0 := (e13.ex (x3.trans ((Ex.new (o := .lst [V.non]) hc3).trans x4))).back hwd
    have ew : (xs.map V.str).take m ++ List.replicate (n - m) V.non = ((xs.take m).map some ++ List.replicate (n - m) none).map it := by rw [List.map_append, its_some, its_none, List.map_take]
    rw [ew] at hw5
    have wp : p ≠ wd := fun z => by rw [← z, ((Ex.new hc3).trans x4) _ _ (x3 _ _ p13)] at hwd; cases hwd
    clear x35 x5 x4 x3 hc4 hc3 hc2' hc2 hc1 e13 p13 hwd
    -- begin
    refine ⟨.int n, rfl, n, rfl, by omega, by omega, fun Db hDb => lc_pops (m := n) D e5 hwd0 hw5 (by simp; omega) (by simp; omega) hDb (fun _ => rfl) (fun _ => rfl) (fun _ => rfl) fun H6 ys zs kp6 e6 hw6 hb6 hyl pm => ?_⟩
    have p6 := kp6 p _ pd wp p5
    have hzs : zs = [] := by
      have h1 := pm.length_eq
      simp only [List.length_append, List.length_map, List.length_take, List.length_replicate] at h1
      exact List.eq_nil_of_length_eq_zero (by omega)
    subst hzs
    rw [List.append_nil] at pm
    have hDb0 := e5.back hDb
    have bw : Db ≠ wd := fun z => by rw [z, hw5] at hDb; cases hDb
    clear hw6 kp6 hDb
    -- kept
    refine ⟨.int m, rfl, .ref d, rfl, .int n, rfl, d, n, rfl, e6.dice, by omega, by omega, fun j H7 j0 j1 e7 => ⟨m, j, rfl, ?_⟩⟩
    refine ⟨fun σ H8 => DEx d H6 H8 ∧ ∃ k : Nat, k ≤ m ∧ σ = [some (.ref d), some (.int n), some (.ref l), some (.ref p), some (.int m), some (.ref wd), some (.ref Db), some (.int k), none, none, none, none, none], ?_, ?_⟩
    · refine ⟨.ref d, rfl, d, 3, rfl, e7.dice, by decide, by decide, fun j2 H8 _ _ e8 => ⟨j2, 0, rfl, rfl, _, rfl, ite2 (fun _ => ?_) fun _ => ?_⟩⟩
      · obtain ⟨k, hk, ek⟩ : ∃ k : Nat, k ≤ m ∧ (if (n : Int) - 1 < (m : Int) then (n : Int) - 1 else (m : Int)) = (k : Int) := by
          split
          · exact ⟨n - 1, by omega, by omega⟩
          · exact ⟨m, Nat.le_refl _, rfl⟩
        refine ⟨.int m, rfl, .int n, rfl, n, 1, rfl, rfl, m, _, rfl, e7.trans e8, k, hk, ?_⟩
        rw [← ek]; rfl
      · obtain ⟨k, hk, ek⟩ : ∃ k : Nat, k ≤ m ∧ (if j < (m : Int) then j else (m : Int)) = (k : Int) := by
          split
          · exact ⟨j.toNat, by omega, by omega⟩
          · exact ⟨m, Nat.le_refl _, rfl⟩
        refine ⟨e7.trans e8, k, hk, ?_⟩
        rw [← ek]; rfl
    clear e7 H7
    rintro σ H8 ⟨e8, k, hk, rfl⟩
    have p8 := e8.1 p _ pd p6
    have hb8 := e8.1 Db _ (dn hDb0) hb6
    have e08 := e6.trans e8
    -- left
    refine ⟨.ref Db, rfl, Db, rfl, ⟨_, sq_of hb8⟩, fun Dl hDl => lc_mapL (as := ys) (fun x => x.map V.str) (fun c v _ => v = c) (fun c => mono_eq) (sq_of hb8) (by simp) (by omega) hDl (fun _ => rfl) (fun j x y hx hy H9 e9 => ?_) fun H9 ls e9 hl9 p9 => ?_⟩
    · rw [get_it hy] at hx
      cases hx
      cases y with
      | none => exact .inl ⟨rfl, fun Q' q' => ⟨.non, rfl, false, rfl, q' _ (Ex.refl _)⟩⟩
      | some y => exact .inr ⟨_, rfl, fun Q' q' => ⟨.str y, rfl, true, rfl, q' _ (Ex.refl _)⟩, fun H3 e3 Q' q' => ⟨.str y, rfl, q' _ _ (Ex.refl _) rfl⟩⟩
    rw [strs_of] at p9
    rw [paired_eqs (H := H9) p9, ← its_some] at hl9
    have hDl0 := e08.back hDl
    have lp : p ≠ Dl := fun z => by rw [← z, p8] at hDl; cases hDl
    have lb : Db ≠ Dl := fun z => by rw [← z, hb8] at hDl; cases hDl
    have e09 := e08.ex e9
    have iy : (ys.filterMap id).Perm (xs.take m) := by
      have := pm.filterMap id
      rwa [List.filterMap_append, somes, nones, List.append_nil] at this
    have liy : (ys.filterMap id).length = m := by rw [iy.length_eq]; simp; omega
    -- chosen
    refine ⟨.int k, rfl, k, rfl, by omega, by omega, fun Dc hDc => lc_pops (m := k) D e09 hDl0 hl9 (by rw [List.length_map]; omega) (by rw [List.length_map]; omega) hDc (fun _ => rfl) (fun _ => rfl) (fun _ => rfl) fun H10 cs zs kp10 e10 _ hc10 hcl pmc => ?_⟩
    have p10 := kp10 p _ pd lp (e9 _ _ p8)
    have hb10 := kp10 Db _ (dn hDb0) lb (e9 _ _ hb8)
    -- word again
    refine ⟨.ref Dc, rfl, by show 1 ≤ sizeLine; decide, fun c3 hc3 => ⟨.int n, rfl, .int k, rfl, n, k, rfl, rfl, rep_new (n := n - k) upd_same (by omega) (by omega) fun c4 H11 x11 hc4 =>
      cat_new (x11 _ _ (Ex.new hc3 _ _ hc10)) hc4 (by simp; omega) fun w2 H12 hw2 x12 hw12 => ?_⟩⟩
    have x1012 := (Ex.new (o := .lst [V.non]) hc3).trans (x11.trans x12)
    have e12' := e10.ex x1012
    have hw20 := (e10.ex ((Ex.new (o := .lst [V.non]) hc3).trans x11)).back hw2
    have ew2 : cs.map it ++ List.replicate (n - k) V.non = (cs ++ List.replicate (n - k) none).map it := by rw [List.map_append, its_none]
    rw [ew2] at hw12
    have p12 := x1012 _ _ p10
    have hb12 := x1012 _ _ hb10
    have wp2 : p ≠ w2 := fun z => by rw [← z, x11 _ _ (Ex.new hc3 _ _ p10)] at hw2; cases hw2
    have wb2 : Db ≠ w2 := fun z => by rw [← z, x11 _ _ (Ex.new hc3 _ _ hb10)] at hw2; cases hw2
    -- goal
    refine ⟨.int n, rfl, n, rfl, by omega, by omega, fun Dg hDg => lc_pops (m := n) D e12' hw20 hw12 (by simp; omega) (by simp; omega) hDg (fun _ => rfl) (fun _ => rfl) (fun _ => rfl) fun H13 gs zs3 kp13 e13 _ hg13 hgl pmg => ?_⟩
    have hzs : zs3 = [] := by
      have h1 := pmg.length_eq
      simp only [List.length_append, List.length_replicate] at h1
      exact List.eq_nil_of_length_eq_zero (by omega)
    subst hzs
    rw [List.append_nil] at pmg
    have p13 := kp13 p _ pd wp2 p12
    have hb13 := kp13 Db _ (dn hDb0) wb2 hb12
    obtain ⟨tw, hsh⟩ := two_of nd ok hxn hm hk pm pmc hcl pmg hsum hpos hn1 hn
    have hpl : ns.length ≤ 5 := by
      have := congrArg List.length (splitL_shp ys ns (by omega))
      have h2 := tw.s1.len
      simp only [shp, List.length_map] at this
      omega
    refine ⟨.ref Db, rfl, .ref p, rfl, Db, p, ys, ns, rfl, hb13, .inr (st_of p13), by omega, by omega, by omega, fun v H14 x14 iv => ?_⟩
    refine ⟨.ref Dg, rfl, .ref p, rfl, Dg, p, gs, ns, rfl, x14 _ _ hg13, .inr (st_of (x14 _ _ p13)), by omega, by omega, by omega, fun u H15 x15 iu => ?_⟩
    refine ⟨by show 2 ≤ sizeLine; decide, fun t ht => q t v u _ _ _ (e13.ex (x14.trans (x15.trans (Ex.new ht)))) upd_same (iv.tle (Tle.of (x15.trans (Ex.new ht)))) (iu.tle (Tle.new ht)) tw hsh⟩
end
end FB

/-! ## KD16 -/
set_option Elab.async false
set_option linter.all false
set_option maxRecDepth 100000
set_option maxHeartbeats 8000000
namespace FB
open PySem PySem.Spec PyProof.Rows L2 Evl
/-! ### rows laid anew -/
def Lk (q r : List (Option Str)) : Prop := q.length = r.length ∧ q.Perm r
theorem lk_shp {qs h : Hd} (p : Paired Lk qs h) : shp h = shp qs := by
  induction p with
  | nil => rfl
  | cons a b ih =>
    simp only [shp, List.map_cons] at *
    rw [ih, a.1]
theorem lk_flat {qs h : Hd} (p : Paired Lk qs h) : qs.flatten.Perm h.flatten := by
  induction p with
  | nil => exact .refl _
  | cons a b ih =>
    rw [List.flatten_cons, List.flatten_cons]
    exact a.2.append ih
theorem lens_of (h : Hd) : (h.filterMap fun r : List (Option Str) => some (V.int (r.length : Int))) = nats (shp h) := by
  rw [fm_some]
  simp [nats, shp]
section
variable {P : Program} {w : World} {K : PySem.W.Frag} {mg : Str → Option Value} {base : Heap}
/-! ### _law_full_goal -/
theorem ok_L_full {f : Addr} {fd : FuncData} (F : Fun K "_law_full_goal" "_law_full_goal" s_L_full_goal f fd) (B : Bl mg) (cD : Cl P w K mg base 1 "_law_draw" sp_L_draw) (cS : Cl P w K mg base 1 "_law_split" (sp_L_split K)) :
    FnOk P w K mg base CX0 2 f fd ["_law_dice_here", "_law_begin"] sp_L_full_goal := by
  refine F.ok sc_L_full_goal (fun vs H Q E h => ?_) (fun cdv A outer s H vs Q E hr h => ?_)
  · obtain ⟨_, _, _, rfl, _⟩ := h; rfl
  · obtain ⟨d, v, h, rfl, D, ih, sm, nn, q⟩ := h
    obtain ⟨a, vs, rfl, ha, hlen, rows⟩ := ih.open_
    have h5 := sm.len
    refine ⟨_, pss_cons (ps_if (pt_cmpR op_eq (pe_cl cD hr (pa_cons (pv 0) (pa_cons pe_int pa_nil))) pe_int (nomark _))
        (pss_cons (ps_set (i := 2) sc_L_full_goal.nd rfl (.inl rfl) (pe_lst pa_nil))
        (pss_cons (ps_for PassesOwn.never rfl (pi_tup (pv 1)) (pg_name (i := 3) sc_L_full_goal.nd rfl (.inl rfl))
          (pss_cons (ps_set (i := 4) sc_L_full_goal.nd rfl (.inl rfl) (pe_cl cD hr (pa_cons (pv 0) (pa_cons (pe_callB call_lenS (by rfl) B.len boot_len' (pa_cons (pv 3) pa_nil)) pa_nil))))
          (pss_one (ps_expr (pe_bm PySem.F.plainAttrs_list PySem.F.slot_list_append PySem.F.type_list_append mt_append (pv 2) (pa_cons (pe_op op_catA (pe_slice sl_tupA (pv 3) (po_some (pv 4)) po_none) (pe_slice sl_tupA (pv 3) po_none (po_some (pv 4)))) pa_nil))))))
        (pss_one (ps_ret (pe_callTy call_tupS (by rfl) B.tuple boot_tuple' (pa_cons (pv 2) pa_nil)))))) pss_nil)
      (pss_cons (ps_set (i := 5) sc_L_full_goal.nd rfl (.inr rfl) (pe_lst pa_nil))
      (pss_cons (ps_for PassesOwn.never rfl (pi_tup (pv 1)) (pg_name (i := 3) sc_L_full_goal.nd rfl (.inl rfl))
        (pss_one (ps_expr (pe_bm PySem.F.plainAttrs_list PySem.F.slot_list_extend PySem.F.type_list_extend mt_extT (pv 5) (pa_cons (pv 3) pa_nil)))))
      (pss_one (ps_ret (pe_cl cS hr (pa_cons
        (pe_lc (own := [("_law_k", 6)]) (g := gName 6) (tt := tYes) (te := tPop K 5) rfl sc_L_full_goal.nd (pi_range1 (by rfl) B.range (pa_cons (pe_callB call_lenS (by rfl) B.len boot_len' (pa_cons (pv 5) pa_nil)) pa_nil)) (blkOk_by (own := [("_law_k", 6)]) (N := n_L_full_goal) (sc := defScope s_L_full_goal) (by decide +kernel)) (fun _ _ _ _ _ => pg_name (i := 6) sc_L_full_goal.nd rfl (Or.inl rfl)) (fun _ _ _ _ _ => pts_nil)
          (fun _ _ _ _ _ => pe_bm (r := rPopAt) PySem.F.plainAttrs_list PySem.F.slot_list_pop PySem.F.type_list_pop mt_popAt (pv 5) (pa_cons (pe_cl cD hr (pa_cons (pv 0) (pa_cons (pe_callB (r := rLenS K) call_lenS (by rfl) B.len boot_len' (pa_cons (pv 5) pa_nil)) pa_nil))) pa_nil)))
        (pa_cons (pe_lc (own := [("_law_row", 3)]) (g := gName 3) (tt := tYes) rfl sc_L_full_goal.nd (pi_tup (pv 1)) (blkOk_by (own := [("_law_row", 3)]) (N := n_L_full_goal) (sc := defScope s_L_full_goal) (by decide +kernel)) (fun _ _ _ _ _ => pg_name (i := 3) sc_L_full_goal.nd rfl (Or.inl rfl)) (fun _ _ _ _ _ => pts_nil)
          (fun _ _ _ _ _ => pe_callB (r := rLenS K) call_lenS (by rfl) B.len boot_len' (pa_cons (pv 3) pa_nil))) pa_nil))))))), ?_⟩
    have ad : a ≠ d := fun z => by obtain ⟨L, z2⟩ := D.lst; rw [← z, ha] at z2; cases z2
    have dn : ∀ {a : Addr}, H a = none → a ≠ d := fun {a} h z => by obtain ⟨L, z2⟩ := D.lst; rw [← z, h] at z2; cases z2
    refine ⟨.ref d, rfl, d, 2, rfl, D, by decide, by decide, fun j H1 _ _ e1 => ⟨rfl, _, rfl, ite2 (fun _ => ?_) fun _ => ?_⟩⟩
    · refine ⟨Nat.zero_le _, fun l hl => ?_⟩
      have hl0 := e1.back hl
      refine ⟨.ref a, rfl, a, rfl, ⟨_, st_of (Ex.new hl _ _ (e1.1 _ _ ad ha))⟩, for_tup (xs := vs) (fun i σ H' => DEx d H H' ∧ (∃ z3 z4, σ = [some (.ref d), some (.ref a), some (.ref l), z3, z4, none, none]) ∧ ∃ (qs : Hd) (ys : List V), H' l = some (.lst ys) ∧ Paired (IsRow H') ys qs ∧ Paired Lk qs (h.take i))
        ⟨e1.new hl, ⟨_, _, rfl⟩, [], [], upd_same, .nil, .nil⟩ (fun i σ H' _ p => st_of (p.1.1 _ _ ad ha)) (fun i x σ H' hx p => ?_) fun σ H' p => ?_⟩
      · obtain ⟨e, ⟨z3, z4, rfl⟩, qs, ys, hys, py, pq⟩ := p
        have hi : i < h.length := by rw [← hlen]; exact (List.getElem?_eq_some_iff.mp hx).1
        obtain ⟨r, hr1⟩ : ∃ r, h[i]? = some r := ⟨_, List.getElem?_eq_getElem hi⟩
        obtain ⟨c, hc1, hc2⟩ := rows i r hr1
        rw [hx] at hc1
        cases hc1
        obtain ⟨rp, r5⟩ := sm.row hr1
        have cd : c ≠ d := fun z => by obtain ⟨L, z2⟩ := D.lst; rw [← z, hc2] at z2; cases z2
        refine ⟨.ref d, rfl, .ref c, rfl, c, _, rfl, .inr (st_of (e.1 _ _ cd hc2)), d, _, rfl, e.dice, by rw [List.length_map]; omega, by rw [List.length_map]; omega, fun k H2 k0 k1 e2 => ?_⟩
        obtain ⟨k, rfl⟩ : ∃ m : Nat, k = (m : Int) := ⟨k.toNat, by omega⟩
        have ee := e.trans e2
        have hl2 := e2.1 l _ (dn hl0) hys
        refine ⟨.ref l, rfl, .inl ⟨rfl, _, sq_of hl2⟩, .ref c, rfl, .int (k : Int), rfl, k, rfl, ?_⟩
        unfold tNoPart
        refine sl_ev (ee.1 _ _ cd hc2) fun p1 H3 e3 hp1 => ?_
        refine ⟨.ref c, rfl, .int (k : Int), rfl, k, rfl, sl_ev ((ee.ex e3).1 _ _ cd hc2) fun p2 H4 e4 hp2 => ?_⟩
        rw [cut_from] at hp1
        rw [cut_to] at hp2
        refine cat_ev (e4 _ _ hp1) hp2 (by simp; omega) fun p3 H5 e5 hp3 => ?_
        have e35 := e3.trans (e4.trans e5)
        have erow : (r.map it).drop k ++ (r.map it).take k = (r.drop k ++ r.take k).map it := by simp
        rw [erow] at hp3
        have hl5 := e35 _ _ hl2
        have lq : ys.length = qs.length := Paired.length py
        have lq2 : qs.length ≤ 5 := by
          have := Paired.length pq
          rw [List.length_take] at this; omega
        refine ⟨l, ys, _, rfl, rfl, hl5, sz_lt (by omega), DEx.mut D (ee.ex e35) hl0, ⟨_, _, rfl⟩, qs ++ [r.drop k ++ r.take k], _, upd_same, ?_, ?_⟩
        · have tt := Tle.put (o := .lst (ys ++ [.ref p3])) hl5 fun _ z => by cases z
          have t1 := (DEx.tle e.dice e2).trans ((Tle.of e35).trans tt)
          exact paired_app (paired_map py fun y c q => q.tle t1) (.cons ⟨p3, rfl, tt _ _ hp3⟩ .nil)
        · rw [List.take_add_one, hr1]
          refine paired_app pq (.cons ⟨?_, ?_⟩ .nil)
          · simp; omega
          · exact List.perm_append_comm.trans (.of_eq (List.take_append_drop k r))
      · obtain ⟨e, ⟨z3, z4, rfl⟩, qs, ys, hys, py, pq⟩ := p
        rw [hlen, List.take_length] at pq
        refine ⟨.ref l, rfl, l, ys, rfl, .inl ⟨sq_of hys, fun t ht => q (.ref t) qs _ (e.new ht) ⟨t, ys, rfl, upd_same, paired_map py fun y c q => q.tle (Tle.new ht)⟩ (lk_shp pq) (lk_flat pq)⟩⟩
    · refine ⟨Nat.zero_le _, fun l hl => ?_⟩
      have hl0 := e1.back hl
      have hf := sm.flat
      refine ⟨.ref a, rfl, a, rfl, ⟨_, st_of (Ex.new hl _ _ (e1.1 _ _ ad ha))⟩, for_tup (xs := vs) (fun i σ H' => DEx d H H' ∧ (∃ z3, σ = [some (.ref d), some (.ref a), none, z3, none, some (.ref l), none]) ∧ H' l = some (.lst ((h.take i).flatten.map it)))
        ⟨e1.new hl, ⟨_, rfl⟩, upd_same⟩ (fun i σ H' _ p => st_of (p.1.1 _ _ ad ha)) (fun i x σ H' hx p => ?_) fun σ H' p => ?_⟩
      · obtain ⟨e, ⟨z3, rfl⟩, hl1⟩ := p
        have hi : i < h.length := by rw [← hlen]; exact (List.getElem?_eq_some_iff.mp hx).1
        obtain ⟨r, hr1⟩ : ∃ r, h[i]? = some r := ⟨_, List.getElem?_eq_getElem hi⟩
        obtain ⟨c, hc1, hc2⟩ := rows i r hr1
        rw [hx] at hc1
        cases hc1
        obtain ⟨rp, r5⟩ := sm.row hr1
        have cd : c ≠ d := fun z => by obtain ⟨L, z2⟩ := D.lst; rw [← z, hc2] at z2; cases z2
        have et : (h.take (i + 1)).flatten = (h.take i).flatten ++ r := by rw [List.take_add_one, hr1]; simp
        have hz : ((h.take i).flatten).length ≤ 5 := by
          refine Nat.le_trans ?_ hf
          have : h.flatten = (h.take i).flatten ++ (h.drop i).flatten := by rw [← List.flatten_append, List.take_append_drop]
          rw [this, List.length_append]; omega
        refine ⟨.ref l, rfl, .inl ⟨rfl, _, sq_of hl1⟩, .ref c, rfl, l, c, _, _, rfl, rfl, hl1, st_of (e.1 _ _ cd hc2), sz_of (by rw [List.length_map, List.length_map]; omega), DEx.mut D e hl0, ⟨_, rfl⟩, ?_⟩
        rw [upd_same, et, List.map_append]
      · obtain ⟨e, ⟨z3, rfl⟩, hl1⟩ := p
        rw [hlen, List.take_length] at hl1
        refine ⟨.ref l, rfl, l, _, rfl, .inl (sq_of hl1), _, rfl, by omega, by rw [List.length_map]; omega, fun Dp hDp => lc_pops (m := (h.flatten.map it).length) D e hl0 hl1 (by rw [List.length_map]; omega) (by omega) hDp (fun _ => rfl) (fun _ => rfl) (fun _ => rfl) fun H2 ys zs kp e2 _ hd2 hyl pm => ?_⟩
        rw [List.length_map] at hyl
        have hzs : zs = [] := by
          have h1 := pm.length_eq
          rw [List.length_append] at h1
          exact List.eq_nil_of_length_eq_zero (by omega)
        subst hzs
        rw [List.append_nil] at pm
        have ha2 := e2.1 _ _ ad ha
        refine ⟨.ref a, rfl, a, rfl, ⟨_, st_of ha2⟩, fun Dn hDn => lc_mapT (as := h) (fun r => some (V.int (r.length : Int))) (fun c v _ => v = c) (fun c => mono_eq) (st_of ha2) hlen (by omega) hDn (fun _ => rfl) (fun i x r hx hr1 H3 e3 => .inr ⟨_, rfl, evb_yes, fun H4 e4 Q' q' => ?_⟩) fun H3 ls e3 hl3 p3 => ?_⟩
        · obtain ⟨c, hc1, hc2⟩ := rows i r hr1
          rw [hx] at hc1
          cases hc1
          have cd : c ≠ d := fun z => by obtain ⟨L, z2⟩ := D.lst; rw [← z, hc2] at z2; cases z2
          refine ⟨.ref c, rfl, c, _, rfl, .inr (st_of ((e2.ex (e3.trans e4)).1 _ _ cd hc2)), q' _ _ (Ex.refl _) ?_⟩
          rw [List.length_map]
        · rw [lens_of] at p3
          rw [paired_eqs (H := H3) p3] at hl3
          have hs : (shp h).sum = h.flatten.length := by rw [List.length_flatten]; rfl
          have hs5 := sm.sum
          have hsl : (shp h).length ≤ 5 := by simp only [shp, List.length_map]; exact h5
          refine ⟨Dp, Dn, ys, shp h, rfl, e3 _ _ hd2, .inl (sq_of hl3), by omega, by omega, by omega, fun u H4 e4 iu => q u _ _ (e2.ex (e3.trans e4)) iu (splitL_shp ys (shp h) (by omega)).symm ?_⟩
          rw [splitL_flat ys (shp h) (by omega)]
          exact pm
end
end FB

/-! ## KD17 -/
set_option Elab.async false
set_option linter.all false
set_option maxRecDepth 100000
set_option maxHeartbeats 8000000
namespace FB
open PySem PySem.Spec PyProof.Rows L2 Evl
/-! ### when there is no way -/
theorem len_id : ∀ l : List (Option Str), (l.filterMap id).length = l.length ↔ none ∉ l
  | [] => by simp
  | none :: l => by
    have h := List.length_filterMap_le id l
    have e : ((none :: l).filterMap id).length = (l.filterMap id).length := rfl
    rw [e, List.length_cons]
    constructor
    · intro z; omega
    · intro z; exact absurd List.mem_cons_self z
  | some x :: l => by
    have ih := len_id l
    have e : ((some x :: l).filterMap id).length = (l.filterMap id).length + 1 := rfl
    rw [e, List.length_cons, Nat.succ_inj, ih]
    simp
theorem Two.same {h g : Hd} (t : Two h g) (hn : none ∉ g.flatten) : filt (items g) h = h := by
  have l1 : (items g).length = g.flatten.length := (len_id g.flatten).mpr hn
  have l2 : h.flatten.length = g.flatten.length := by
    rw [List.length_flatten, List.length_flatten]; exact congrArg List.sum t.sh
  have back : ∀ x ∈ items h, x ∈ items g := fun x hx => Classical.byContradiction fun hno => by
    have := KM.php (x :: items g) (items h) (List.nodup_cons.mpr ⟨hno, t.d2⟩) fun y hy => by
      rcases List.mem_cons.mp hy with z | z
      · exact z ▸ hx
      · exact t.sub y z
    have h3 : (items h).length ≤ h.flatten.length := List.length_filterMap_le id _
    rw [List.length_cons] at this
    omega
  have key : ∀ r ∈ h, r.map (keepIf (items g)) = r := fun r hr => by
    have : ∀ x ∈ r, keepIf (items g) x = x := fun x hx => by
      cases x with
      | none => rfl
      | some y => exact if_pos (back y (mem_items.mpr (List.mem_flatten.mpr ⟨r, hr, hx⟩)))
    rw [List.map_congr_left this]
    exact List.map_id r
  unfold filt
  rw [List.map_congr_left key]
  exact List.map_id h
theorem none_law {h g : Hd} {n : Nat} {r : Option Nat} (t : Two h g) (hn : (shp h).sum = n) (a : KM.Ans (KM.Fits g) (filt (items g) h) r) : r = none ↔ ((items g).length = n ∧ ¬ KM.Alike h g) := by
  have l2 : g.flatten.length = n := by
    rw [List.length_flatten, ← hn, t.sh]; rfl
  have li := len_id g.flatten
  have k := t.given.none_iff a
  by_cases hf : none ∈ g.flatten
  · constructor
    · intro z; exact absurd (.inl hf) (k.mp z)
    · rintro ⟨z, _⟩
      exact absurd hf (li.mp (by show (items g).length = _; omega))
  · rw [t.same hf] at k
    rw [k]
    have l1 : (items g).length = g.flatten.length := li.mpr hf
    constructor
    · intro z; exact ⟨by omega, fun q => z (.inr q)⟩
    · rintro ⟨_, z⟩ q
      rcases q with q | q
      · exact hf q
      · exact z q
/-! ### all names laid anew -/
theorem two_full {xs : List Str} {ns : List Nat} {g : Hd} (nd : xs.Nodup) (ok : ∀ x ∈ xs, NameOk x) (hs : ns.sum = xs.length) (hp : KM.Pos ns) (h1 : 1 ≤ xs.length) (h5 : xs.length ≤ 5) (sh : shp (splitL (xs.map some) ns) = shp g)
    (pm : g.flatten.Perm (splitL (xs.map some) ns).flatten) : Two (splitL (xs.map some) ns) g := by
  have hs' : ns.sum = (xs.map some).length := by rw [List.length_map]; exact hs
  have e1 := items_split hs'
  rw [somes] at e1
  have e2 : (items g).Perm xs := by
    have := pm.filterMap id
    rw [splitL_flat _ _ hs', somes] at this
    exact this
  refine ⟨splitL_sm hs' hp (by omega) (by omega), sh, ?_, ?_, ?_, ?_, ?_⟩
  · unfold Nm; rw [e1]; exact ok
  · exact fun x h => ok x (e2.mem_iff.mp h)
  · rw [e1]; exact nd
  · exact e2.nodup_iff.mpr nd
  · rw [e1]; exact fun x h => e2.mem_iff.mp h
theorem isi_opt {K : PySem.W.Frag} {H : Hp} (r : Option Nat) : ∃ t, TyX K H (optI r) t ∧ PySem.W.kitOne K t (.type "bool") = some false := by
  cases r with
  | none => exact ⟨_, .base .non, kit_ty kit_nb⟩
  | some n => exact ⟨_, .base (.int n), kit_ty kit_ib⟩
theorem opt_non {r : Option Nat} : decide (optI r = V.non) = decide (r = none) := by cases r <;> rfl
theorem came_non {r : Option Nat} {z : V} {H : Hp} (c : Came r z H) : decide (z = V.non) = decide (r = none) := by
  cases r with
  | none => rw [show z = V.non from c]; rfl
  | some n =>
    obtain ⟨p, cs, rfl, _⟩ := c
    rfl
theorem opt_scal (r : Option Nat) : scal (optI r) (optI r) = true := by cases r <;> rfl
section
variable {P : Program} {w : World} {K : PySem.W.Frag} {mg : Str → Option Value} {base : Heap}
/-! ### the law -/
theorem ok_law {f : Addr} {fd : FuncData} (F : Fun K "law" "law" s_law f fd) (B : Bl mg) (c1 : Cl P w K mg base 1 "_law_dice" (sp_L_dice K)) (cD : Cl P w K mg base 1 "_law_draw" sp_L_draw) (cN : Cl P w K mg base 2 "_law_names" sp_L_names)
    (cT : Cl P w K mg base 4 "_law_two_holdings" sp_L_two_holdings) (cS : Cl P w K mg base 1 "_law_split" (sp_L_split K)) (cG : Cl P w K mg base 2 "_law_full_goal" sp_L_full_goal) (cU : Cl P w K mg base 2 "_law_steps_to" sp_L_steps_to)
    (cA : Cl P w K mg base 1 "_law_alike" sp_L_alike) (cI : Cl P w K mg base 1 "_law_items" sp_L_items) (cL : Cl P w K mg base 6 "least_carries" sp_least) (cH : Cl P w K mg base 6 "shortest" sp_fewest) :
    FnOk P w K mg base CX0 7 f fd ["_law_script"] (sp_law K) := by
  refine F.ok sc_law (fun vs H Q E h => ?_) (fun cdv A outer s H vs Q E hr h => ?_)
  · obtain ⟨_, _, rfl, _⟩ := h; rfl
  · obtain ⟨a, sc, rfl, ha, h63, q⟩ := h
    refine ⟨_, pss_cons (ps_set (i := 1) sc_law.nd rfl (.inl rfl) (pe_cl c1 hr (pa_cons (pv 0) pa_nil)))
      (pss_cons (ps_set (i := 2) sc_law.nd rfl (.inl rfl) (pe_op op_add pe_int (pe_cl cD hr (pa_cons (pv 1) (pa_cons pe_int pa_nil)))))
      (pss_cut (ps_if (pt_cmpR op_eq (pe_cl cD hr (pa_cons (pv 1) (pa_cons pe_int pa_nil))) pe_int (nomark _)) (pss_one (ps_set (i := 2) sc_law.nd rfl (.inl rfl) pe_int)) pss_nil)
      (pss_cons (ps_set (i := 3) sc_law.nd rfl (.inl rfl) (pe_cl cN hr (pa_cons (pv 1) (pa_cons (pv 2) pa_nil))))
      (pss_cons (ps_asg (pe_cl cT hr (pa_cons (pv 1) (pa_cons (pv 2) (pa_cons (pv 3) pa_nil)))) (pg_tup rfl (pgs_cons (pg_name (i := 4) sc_law.nd rfl (.inr rfl)) (pgs_cons (pg_name (i := 5) sc_law.nd rfl (.inr rfl)) pgs_nil))))
      (pss_cut (ps_if (pt_cmpR op_eq (pe_cl cD hr (pa_cons (pv 1) (pa_cons pe_int pa_nil))) pe_int (nomark _))
        (pss_cons (ps_set (i := 4) sc_law.nd rfl (.inr rfl) (pe_cl cS hr (pa_cons (pv 3) (pa_cons
          (pe_lc (own := [("_law_row", 10)]) (g := gName 10) (tt := tYes) rfl sc_law.nd (pi_tup (pv 4)) (blkOk_by (own := [("_law_row", 10)]) (N := n_law) (sc := defScope s_law) (by decide +kernel)) (fun _ _ _ _ _ => pg_name (i := 10) sc_law.nd rfl (Or.inl rfl)) (fun _ _ _ _ _ => pts_nil)
            (fun _ _ _ _ _ => pe_callB (r := rLenS K) call_lenS (by rfl) B.len boot_len' (pa_cons (pv 10) pa_nil))) pa_nil))))
        (pss_one (ps_set (i := 5) sc_law.nd rfl (.inr rfl) (pe_cl cG hr (pa_cons (pv 1) (pa_cons (pv 4) pa_nil)))))) pss_nil)
      (pss_cons (ps_set (i := 6) sc_law.nd rfl (.inl rfl) (pe_cl cU hr (pa_cons (pv 4) (pa_cons (pv 5) pa_nil))))
      (pss_cons (ps_set (i := 7) sc_law.nd rfl (.inl rfl) (pe_cl cL hr (pa_cons (pv 4) (pa_cons (pv 5) pa_nil))))
      (pss_cons (ps_if (PW.pt (pw_or (pt_cmpR op_ne (pv 7) (pv 6) (nomark _)) (pw_or1 (pt_val (pe_callB call_isi (by rfl) B.isi boot_isi' (pa_cons (pv 7) (pa_cons (pe_bltn (v := .ty "bool") (by rfl) B.bool boot_bool' rfl) pa_nil))))))) (pss_one (ps_ret pe_bl)) pss_nil)
      (pss_cons (ps_setLc (i := 8) (own := [("_law_k", 9)]) (g := gName 9) rfl sc_law.nd rfl rfl (by rfl) (pi_range1 (by rfl) B.range (pa_cons (pe_callB call_lenS (by rfl) B.len boot_len' (pa_cons (pv 4) pa_nil)) pa_nil)) (blkOk_by (own := [("_law_k", 9)]) (N := n_law) (sc := defScope s_law) (by decide +kernel)) (fun _ _ _ _ _ => pg_name (i := 9) sc_law.nd rfl (Or.inl rfl))
          (fun _ _ _ _ _ => pts_one (pt_not (pt_val (pe_cl cA hr (pa_cons (pe_ix (r := rIxT K) ix_tup (pv 4) (pv 9) (fun _ _ => rfl)) (pa_cons (pe_ix (r := rIxT K) ix_tup (pv 5) (pv 9) (fun _ _ => rfl)) pa_nil))))))
          (fun _ _ _ _ _ => pv 9))
      (pss_cons (ps_if (pt_cmpR op_ne (pe_cmp (pc_isN (pv 6)) rfl) (pe_and (pe_cmpR op_eq (pe_callB call_lenS (by rfl) B.len boot_len' (pa_cons (pe_cl cI hr (pa_cons (pv 5) pa_nil)) pa_nil)) (pv 2) (nomark _)) (pe_one (pe_cmpR op_gt (pe_callB call_lenS (by rfl) B.len boot_len' (pa_cons (pv 8) pa_nil)) pe_int (nomark _)))) (nomark _)) (pss_one (ps_ret pe_bl)) pss_nil)
      (pss_one (ps_ret (pe_cmpR op_eq (pe_cmp (pc_isN (pe_cl cH hr (pa_cons (pv 4) (pa_cons (pv 5) pa_nil)))) rfl) (pe_cmp (pc_isN (pv 6)) rfl) (nomark _)))))))))))))), ?_⟩
    -- dice, size
    refine ⟨.ref a, rfl, a, sc, rfl, ha, h63, fun d H1 x1 hd0 D1 => ?_⟩
    refine ⟨.ref d, rfl, d, 4, rfl, D1, by decide, by decide, fun j H2 j0 j1 e2 => ⟨1, j, rfl, rfl, ?_⟩⟩
    refine ⟨fun σ H3 => Dice H3 d ∧ ∃ n : Nat, 1 ≤ n ∧ n ≤ 5 ∧ σ = [some (.ref a), some (.ref d), some (.int n), none, none, none, none, none, none, none, none], ?_, ?_⟩
    · refine ⟨.ref d, rfl, d, 40, rfl, e2.dice, by decide, by decide, fun j3 H3 _ _ e3 => ⟨rfl, _, rfl, ite2 (fun _ => ⟨e3.dice, 5, by decide, by decide, rfl⟩) fun _ => ⟨e3.dice, (1 + j).toNat, by omega, by omega, ?_⟩⟩⟩
      rw [show (((1 + j).toNat : Nat) : Int) = 1 + j by omega]
      rfl
    clear e2 H2 D1 hd0 x1 H1 j0 j1 j
    rintro σ H3 ⟨D3, n, hn1, hn5, rfl⟩
    -- names, holdings
    refine ⟨.ref d, rfl, .int n, rfl, d, n, rfl, D3, hn5, fun l xs H4 e4 hl0 ld hl4 hxn nd ok => ?_⟩
    refine ⟨.ref d, rfl, .int n, rfl, .ref l, rfl, d, n, l, xs, rfl, e4.dice, ld, hl4, hxn, hn1, hn5, nd, ok, fun p v u h g H5 e5 hp5 ih ig tw hsum => ?_⟩
    refine ⟨p, [v, u], rfl, .inl (.inl hp5), rfl, v, [u], rfl, u, [], rfl, rfl, ?_⟩
    have hl5 := e5.1 l _ ld hl4
    refine ⟨fun σ H6 => ∃ (v u : V) (h g : Hd), IsH H6 v h ∧ IsH H6 u g ∧ Two h g ∧ (shp h).sum = n ∧ σ = [some (.ref a), some (.ref d), some (.int n), some (.ref l), some v, some u, none, none, none, none, none], ?_, ?_⟩
    · refine ⟨.ref d, rfl, d, 2, rfl, e5.dice, by decide, by decide, fun j H6 _ _ e6 => ⟨rfl, _, rfl, ite2 (fun _ => ?_) fun _ => ?_⟩⟩
      · have t6 := DEx.tle e5.dice e6
        have hl6 := e6.1 l _ ld hl5
        rw [← its_some] at hl6
        obtain ⟨ba, vs, rfl, hb, hlen, rows⟩ := (ih.tle t6).open_
        have h5 := tw.s1.len
        refine ⟨.ref l, rfl, .ref ba, rfl, ba, rfl, ⟨_, st_of hb⟩, fun Dn hDn => lc_mapT (as := h) (fun r => some (V.int (r.length : Int))) (fun c v _ => v = c) (fun c => mono_eq) (st_of hb) hlen (by omega) hDn (fun _ => rfl) (fun i x r hx hr1 H7 e7 => .inr ⟨_, rfl, evb_yes, fun H8 e8 Q' q' => ?_⟩) fun H7 ls e7 hl7 p7 => ?_⟩
        · obtain ⟨c, hc1, hc2⟩ := rows i r hr1
          rw [hx] at hc1
          cases hc1
          refine ⟨.ref c, rfl, c, _, rfl, .inr (st_of ((e7.trans e8) _ _ hc2)), q' _ _ (Ex.refl _) ?_⟩
          rw [List.length_map]
        · rw [lens_of] at p7
          rw [paired_eqs (H := H7) p7] at hl7
          have hsl : (shp h).length ≤ 5 := by simp only [shp, List.length_map]; exact h5
          have hsx : (shp h).sum = (xs.map some).length := by rw [List.length_map]; omega
          refine ⟨l, Dn, xs.map some, shp h, rfl, e7 _ _ hl6, .inl (sq_of hl7), by rw [List.length_map]; omega, by omega, by omega, fun v' H8 e8 iv => ?_⟩
          have sm' : Sm (splitL (xs.map some) (shp h)) := splitL_sm hsx tw.s1.pos (by omega) (by omega)
          have D8 : Dice H8 d := e6.dice.ex (e7.trans e8)
          refine ⟨.ref d, rfl, v', rfl, d, v', _, rfl, D8, iv, sm', ?_, fun u' g' H9 e9 iu hsh hpm => ?_⟩
          · rw [splitL_flat _ _ hsx]
            intro z
            obtain ⟨y, _, hy⟩ := List.mem_map.mp z
            cases hy
          · have tw' := two_full nd ok (by omega) tw.s1.pos (by omega) (by omega) hsh hpm
            refine ⟨v', u', _, g', iv.tle (DEx.tle D8 e9), iu, tw', ?_, rfl⟩
            rw [splitL_shp _ _ (by omega)]
            exact hsum
      · exact ⟨v, u, h, g, ih.tle (DEx.tle e5.dice e6), ig.tle (DEx.tle e5.dice e6), tw, hsum, rfl⟩
    clear hl5 hsum tw ig ih hp5 e5 H5 g h u v p hl4 hl0 e4 H4
    rintro σ H6 ⟨v, u, h, g, ih, ig, tw, hsum, rfl⟩
    -- due, told
    refine ⟨v, rfl, u, rfl, v, u, h, g, rfl, ih, ig, tw, fun r H7 an e7 => ?_⟩
    refine ⟨v, rfl, u, rfl, v, u, h, g, rfl, ih.tle (Tle.of e7), ig.tle (Tle.of e7), tw, fun r2 H8 an2 e8 => ?_⟩
    cases KM.Ans.uniq an an2
    have hno := none_law tw hsum an
    have e68 := e7.trans e8
    refine ⟨optI r, rfl, optI r, rfl, opt_scal r, _, rfl, ?_⟩
    rw [decide_eq_true rfl]
    obtain ⟨ty, hty, hkit⟩ := isi_opt (K := K) (H := H8) r
    refine iteF ⟨optI r, rfl, optI r, .ty "bool", ty, _, false, rfl, .ty "bool", hty, hkit, false, rfl, iteF ?_⟩
    -- apart
    obtain ⟨a1, vs1, rfl, h1, l1, rows1⟩ := (ih.tle (Tle.of e68)).open_
    obtain ⟨a2, vs2, rfl, h2, l2, rows2⟩ := (ig.tle (Tle.of e68)).open_
    have h5 := tw.s1.len
    have hgl := shp_len tw.sh
    refine ⟨.ref a1, rfl, a1, _, rfl, .inr (st_of h1), _, rfl, by omega, by omega, fun D hD => ?_⟩
    have en : ((vs1.length : Int)).toNat = h.length := by omega
    rw [en]
    classical
    refine lc_mapR (n := h.length) (as := List.range h.length) (fun k => if ∀ b q, h[k]? = some b → g[k]? = some q → KM.Rot b q then none else some (V.int (k : Int))) (fun c v _ => v = c) (fun c => mono_eq) (by simp) (by simp; omega) hD (fun _ => rfl) (fun i k hi hk H9 e9 => ?_) fun H9 ys e9 hl9 p9 => ?_
    · have hki : k = i := by
        rw [List.getElem?_range hi] at hk
        exact (Option.some.inj hk).symm
      subst hki
      have ek : (0 : Int) + (k : Nat) = (k : Int) := by omega
      rw [ek]
      obtain ⟨b, hb⟩ : ∃ b, h[k]? = some b := ⟨_, List.getElem?_eq_getElem hi⟩
      obtain ⟨o, ho⟩ : ∃ o, g[k]? = some o := ⟨_, List.getElem?_eq_getElem (by omega)⟩
      obtain ⟨ca, hc1, hc2⟩ := rows1 k b hb
      obtain ⟨co, ho1, ho2⟩ := rows2 k o ho
      obtain ⟨bp, b5⟩ := tw.s1.row hb
      have hbo := shp_row tw.sh hb ho
      have nm : ∀ x, some x ∈ b ∨ some x ∈ o → NameOk x := fun x hx => by
        rcases hx with z | z
        · exact tw.n1 x (mem_items.mpr (List.mem_flatten.mpr ⟨b, List.mem_of_getElem? hb, z⟩))
        · exact tw.n2 x (mem_items.mpr (List.mem_flatten.mpr ⟨o, List.mem_of_getElem? ho, z⟩))
      have iff : (∀ b q, h[k]? = some b → g[k]? = some q → KM.Rot b q) ↔ KM.Rot b o := by
        constructor
        · intro z; exact z b o hb ho
        · intro z b' q' h1 h2
          rw [hb] at h1
          rw [ho] at h2
          cases h1
          cases h2
          exact z
      have test : ∀ c : Bool, (c = true ↔ ¬ KM.Rot b o) → EvB (tNot (tB (tCall sp_L_alike [] E0 (tCons (tOp (rIxT K) (tVar 4) (tVar 9)) (tCons (tOp (rIxT K) (tVar 5) (tVar 9)) tNil)))))
          [some (.ref a), some (.ref d), some (.int n), some (.ref l), some (.ref a1), some (.ref a2), some (optI r), some (optI r), none, some (.int (k : Int)), none] H9 c := by
        intro c hcc Q' q'
        refine ⟨.ref a1, rfl, .int k, rfl, a1, vs1, k, .ref ca, rfl, rfl, st_of (e9 _ _ h1), atI_of hc1, .ref a2, rfl, .int k, rfl, a2, vs2, k, .ref co, rfl, rfl, st_of (e9 _ _ h2), atI_of ho1, ?_⟩
        refine ⟨.ref ca, .ref co, b, o, rfl, ⟨ca, rfl, e9 _ _ hc2⟩, ⟨co, rfl, e9 _ _ ho2⟩, hbo, bp, by omega, nm, fun t H10 e10 ht => ⟨t, rfl, ?_⟩⟩
        have : (!t) = c := by
          cases t <;> cases c <;> simp_all
        show Q' (!t) H10
        rw [this]
        exact q' H10 e10
      by_cases hc : KM.Rot b o
      · exact .inl ⟨if_pos (iff.mpr hc), test false (by simp [hc])⟩
      · exact .inr ⟨_, if_neg (fun z => hc (iff.mp z)), test true (by simp [hc]), fun H10 e10 Q' q' => ⟨_, rfl, q' _ _ (Ex.refl _) rfl⟩⟩
    have hal : 0 < ys.length ↔ ¬ KM.Alike h g := by
      have ey := paired_eqs (H := H9) p9
      constructor
      · intro hpos hA
        obtain ⟨z, hz⟩ := List.exists_mem_of_length_pos hpos
        rw [ey] at hz
        obtain ⟨k, hk, hf⟩ := List.mem_filterMap.mp hz
        rw [if_pos (fun b q h1 h2 => hA k b q h1 h2)] at hf
        cases hf
      · intro hA
        apply Classical.byContradiction
        intro h0
        have hnil : ys = [] := List.eq_nil_of_length_eq_zero (by omega)
        refine hA fun k b q hb hq => Classical.byContradiction fun hR => ?_
        have hk : k < h.length := (List.getElem?_eq_some_iff.mp hb).1
        have : V.int (k : Int) ∈ ys := by
          rw [ey]
          exact List.mem_filterMap.mpr ⟨k, List.mem_range.mpr hk, if_neg fun z => hR (z b q hb hq)⟩
        rw [hnil] at this
        cases this
    -- None, exactly if
    have e69 := e68.trans e9
    refine ⟨optI r, rfl, .ref a2, rfl, .ref a2, g, rfl, ig.tle (Tle.of e69), tw.s2, fun li H10 e10 hli0 hli => ?_⟩
    have t10 := e69.trans e10
    refine ⟨li, _, rfl, .inl (sq_of hli), .int n, rfl, rfl, _, rfl, ?_⟩
    rw [List.length_map]
    by_cases hfull : (items g).length = n
    · rw [decide_eq_true (show V.int ((items g).length : Int) = V.int (n : Int) by rw [hfull])]
      refine iteT ⟨.ref D, rfl, D, ys, rfl, .inl (sq_of (e10 _ _ hl9)), _, 0, rfl, rfl, rfl, _, rfl, ?_⟩
      have eb : decide (optI r = V.non) = decide ((0 : Int) < (ys.length : Int)) := by
        rw [opt_non]
        refine decide_eq_decide.mpr ?_
        rw [hno, ← hal]
        constructor
        · rintro ⟨_, z⟩; omega
        · intro z; exact ⟨hfull, by omega⟩
      rw [eb, decide_eq_true rfl]
      refine iteF ⟨.ref a1, rfl, .ref a2, rfl, .ref a1, .ref a2, h, g, rfl, ih.tle (Tle.of t10), ig.tle (Tle.of t10), tw, fun r3 z H11 an3 e11 cz => ⟨optI r, rfl, rfl, ?_⟩⟩
      cases KM.Ans.uniq an an3
      rw [came_non cz, opt_non, decide_eq_true rfl]
      exact q _
    · rw [decide_eq_false (show ¬ V.int ((items g).length : Int) = V.int (n : Int) by intro z; have := V.int.inj z; omega)]
      refine iteF ⟨rfl, _, rfl, ?_⟩
      have eb : decide (optI r = V.non) = false := by
        rw [opt_non]
        exact decide_eq_false fun z => hfull (hno.mp z).1
      rw [eb, decide_eq_true rfl]
      refine iteF ⟨.ref a1, rfl, .ref a2, rfl, .ref a1, .ref a2, h, g, rfl, ih.tle (Tle.of t10), ig.tle (Tle.of t10), tw, fun r3 z H11 an3 e11 cz => ⟨optI r, rfl, rfl, ?_⟩⟩
      cases KM.Ans.uniq an an3
      rw [came_non cz, opt_non, decide_eq_true rfl]
      exact q _
end
end FB

/-! ## KEnd -/
set_option Elab.async false
set_option linter.all false
set_option maxRecDepth 100000
set_option maxHeartbeats 8000000
namespace FB
open PySem PySem.Spec PyProof.Rows L2 Evl
/-! ### what the top has written -/
structure FF (K : PySem.W.Frag) (mg : Str → Option Value) (x : Str) (st : Stmt) : Prop where
  ex : ∃ (f : Addr) (fd : FuncData), Fun K x x st f fd ∧ mg x = some (.ref f)
theorem ff_mk {K : PySem.W.Frag} {h : Heap} {mg : Str → Option Value} (X : K.In h) (G : h.Ns mainGlobals mg) {x : Str} {st : Stmt} {f : Addr} {oc : Value} {od an : Option Addr} {sl : Array (Option Value)} {kV dc pm cd ct : Value}
    (a : PySem.W.nsIn K mainGlobals x = some (some (.ref f))) (l : K.lookup f = some ⟨oc, od, .func (PySem.W.fnOf x x (defArgs st) (defBody st) (defScope st) .none kV dc pm an cd ct), sl⟩) (c : PySem.W.codeIn K cd x = true) (k : PySem.W.keepIn K (.ref f) = true) : FF K mg x st :=
  ⟨f, _, fun_mk (st := st) l c k, PySem.W.mg_of X G a⟩
theorem cl_mk {P : Program} {w : World} {K : PySem.W.Frag} {mg : Str → Option Value} {base : Heap} {k : Nat} {x : Str} {st : Stmt} {sp : Sp} (ps : List Str) (G : FF K mg x st) (ok : ∀ f fd, Fun K x x st f fd → FnOk P w K mg base CX0 k f fd ps sp)
    (b : ∀ f fd, Fun K x x st f fd → Binds K fd ps []) : Cl P w K mg base k x sp := by
  obtain ⟨f, fd, F, hm⟩ := G.ex
  exact ⟨f, fd, ps, ok f fd F, hm, F.kp, b f fd F⟩
theorem law_ok {P : Program} {w : World} {K : PySem.W.Frag} {mg : Str → Option Value} {base : Heap} {f : Addr} {fd : FuncData} (F : Fun K "law" "law" s_law f fd) (B : Bl mg)
    (f_is_integer : FF K mg "is_integer" s_is_integer)
    (f_is_item : FF K mg "is_item" s_is_item)
    (f_is_name : FF K mg "is_name" s_is_name)
    (f_are_lengths : FF K mg "are_lengths" s_are_lengths)
    (f_is_holding : FF K mg "is_holding" s_is_holding)
    (f_items_of : FF K mg "items_of" s_items_of)
    (f_are_names_once : FF K mg "are_names_once" s_are_names_once)
    (f_check_holdings : FF K mg "check_holdings" s_check_holdings)
    (f_check_small : FF K mg "check_small" s_check_small)
    (f_put_in : FF K mg "put_in" s_put_in)
    (f_fits : FF K mg "fits" s_fits)
    (f_carried_on : FF K mg "carried_on" s_carried_on)
    (f_way_back : FF K mg "way_back" s_way_back)
    (f_fewest : FF K mg "fewest" s_fewest)
    (f_shortest : FF K mg "shortest" s_shortest)
    (f_least_carries : FF K mg "least_carries" s_least_carries)
    (f_L_dice : FF K mg "_law_dice" s_L_dice)
    (f_L_draw : FF K mg "_law_draw" s_L_draw)
    (f_L_names : FF K mg "_law_names" s_L_names)
    (f_L_alike : FF K mg "_law_alike" s_L_alike)
    (f_L_belts : FF K mg "_law_belts" s_L_belts)
    (f_L_put : FF K mg "_law_put" s_L_put)
    (f_L_lengths : FF K mg "_law_lengths" s_L_lengths)
    (f_L_split : FF K mg "_law_split" s_L_split)
    (f_L_items : FF K mg "_law_items" s_L_items)
    (f_L_fits : FF K mg "_law_fits" s_L_fits)
    (f_L_two_holdings : FF K mg "_law_two_holdings" s_L_two_holdings)
    (f_L_steps_to : FF K mg "_law_steps_to" s_L_steps_to)
    (f_L_full_goal : FF K mg "_law_full_goal" s_L_full_goal)
    : FnOk P w K mg base CX0 7 f fd ["_law_script"] (sp_law K) := by
  have c_is_integer : Cl P w K mg base 1 "is_integer" sp_is_integer := cl_mk ["thing"] f_is_integer (fun f fd F => ok_is_integer F B) fun f fd F => F.binds (ps := ["thing"]) fun _ _ _ _ _ _ us hl => match us, hl with | [_], _ => rfl
  have c_is_item : Cl P w K mg base 2 "is_item" sp_is_item := cl_mk ["thing"] f_is_item (fun f fd F => ok_is_item F B c_is_integer) fun f fd F => F.binds (ps := ["thing"]) fun _ _ _ _ _ _ us hl => match us, hl with | [_], _ => rfl
  have c_is_name : Cl P w K mg base 1 "is_name" sp_is_name := cl_mk ["thing"] f_is_name (fun f fd F => ok_is_name F B) fun f fd F => F.binds (ps := ["thing"]) fun _ _ _ _ _ _ us hl => match us, hl with | [_], _ => rfl
  have c_are_lengths : Cl P w K mg base 2 "are_lengths" sp_are_lengths := cl_mk ["thing"] f_are_lengths (fun f fd F => ok_are_lengths F B c_is_integer) fun f fd F => F.binds (ps := ["thing"]) fun _ _ _ _ _ _ us hl => match us, hl with | [_], _ => rfl
  have c_is_holding : Cl P w K mg base 3 "is_holding" sp_is_holding := cl_mk ["thing"] f_is_holding (fun f fd F => ok_is_holding F B c_is_item c_are_lengths) fun f fd F => F.binds (ps := ["thing"]) fun _ _ _ _ _ _ us hl => match us, hl with | [_], _ => rfl
  have c_items_of : Cl P w K mg base 1 "items_of" sp_items_of := cl_mk ["holding"] f_items_of (fun f fd F => ok_items_of F) fun f fd F => F.binds (ps := ["holding"]) fun _ _ _ _ _ _ us hl => match us, hl with | [_], _ => rfl
  have c_are_names_once : Cl P w K mg base 2 "are_names_once" sp_are_names_once := cl_mk ["holding"] f_are_names_once (fun f fd F => ok_are_names_once F B c_items_of c_is_name) fun f fd F => F.binds (ps := ["holding"]) fun _ _ _ _ _ _ us hl => match us, hl with | [_], _ => rfl
  have c_check_holdings : Cl P w K mg base 4 "check_holdings" sp_check := cl_mk ["begin", "goal"] f_check_holdings (fun f fd F => ok_check_holdings F B c_is_holding c_are_names_once c_items_of) fun f fd F => F.binds (ps := ["begin", "goal"]) fun _ _ _ _ _ _ us hl => match us, hl with | [_, _], _ => rfl
  have c_check_small : Cl P w K mg base 5 "check_small" sp_check := cl_mk ["begin", "goal"] f_check_small (fun f fd F => ok_check_small F B c_check_holdings) fun f fd F => F.binds (ps := ["begin", "goal"]) fun _ _ _ _ _ _ us hl => match us, hl with | [_, _], _ => rfl
  have c_put_in : Cl P w K mg base 1 "put_in" sp_put_in := cl_mk ["holding", "belt", "thing"] f_put_in (fun f fd F => ok_put_in F) fun f fd F => F.binds (ps := ["holding", "belt", "thing"]) fun _ _ _ _ _ _ us hl => match us, hl with | [_, _, _], _ => rfl
  have c_fits : Cl P w K mg base 1 "fits" sp_fits := cl_mk ["holding", "goal"] f_fits (fun f fd F => ok_fits F B) fun f fd F => F.binds (ps := ["holding", "goal"]) fun _ _ _ _ _ _ us hl => match us, hl with | [_, _], _ => rfl
  have c_carried_on : Cl P w K mg base 2 "carried_on" sp_carried_on := cl_mk ["holding"] f_carried_on (fun f fd F => ok_carried_on F B c_put_in) fun f fd F => F.binds (ps := ["holding"]) fun _ _ _ _ _ _ us hl => match us, hl with | [_], _ => rfl
  have c_way_back : Cl P w K mg base 1 "way_back" (sp_way_back P w) := cl_mk ["came", "holding"] f_way_back (fun f fd F => ok_way_back F B) fun f fd F => F.binds (ps := ["came", "holding"]) fun _ _ _ _ _ _ us hl => match us, hl with | [_, _], _ => rfl
  have c_fewest : Cl P w K mg base 3 "fewest" sp_fewest := cl_mk ["begin", "goal"] f_fewest (fun f fd F => ok_fewest F B c_items_of c_fits c_way_back c_carried_on) fun f fd F => F.binds (ps := ["begin", "goal"]) fun _ _ _ _ _ _ us hl => match us, hl with | [_, _], _ => rfl
  have c_shortest : Cl P w K mg base 6 "shortest" sp_fewest := cl_mk ["begin", "goal"] f_shortest (fun f fd F => ok_shortest F c_check_small c_fewest) fun f fd F => F.binds (ps := ["begin", "goal"]) fun _ _ _ _ _ _ us hl => match us, hl with | [_, _], _ => rfl
  have c_least_carries : Cl P w K mg base 6 "least_carries" sp_least := cl_mk ["begin", "goal"] f_least_carries (fun f fd F => ok_least F B c_check_small c_fewest) fun f fd F => F.binds (ps := ["begin", "goal"]) fun _ _ _ _ _ _ us hl => match us, hl with | [_, _], _ => rfl
  have c_L_dice : Cl P w K mg base 1 "_law_dice" (sp_L_dice K) := cl_mk ["_law_script"] f_L_dice (fun f fd F => ok_L_dice F B) fun f fd F => F.binds (ps := ["_law_script"]) fun _ _ _ _ _ _ us hl => match us, hl with | [_], _ => rfl
  have c_L_draw : Cl P w K mg base 1 "_law_draw" sp_L_draw := cl_mk ["_law_dice_here", "_law_sides"] f_L_draw (fun f fd F => ok_L_draw F B) fun f fd F => F.binds (ps := ["_law_dice_here", "_law_sides"]) fun _ _ _ _ _ _ us hl => match us, hl with | [_, _], _ => rfl
  have c_L_names : Cl P w K mg base 2 "_law_names" sp_L_names := cl_mk ["_law_dice_here", "_law_size"] f_L_names (fun f fd F => ok_L_names F B c_L_draw) fun f fd F => F.binds (ps := ["_law_dice_here", "_law_size"]) fun _ _ _ _ _ _ us hl => match us, hl with | [_, _], _ => rfl
  have c_L_alike : Cl P w K mg base 1 "_law_alike" sp_L_alike := cl_mk ["_law_one", "_law_other"] f_L_alike (fun f fd F => ok_L_alike F B) fun f fd F => F.binds (ps := ["_law_one", "_law_other"]) fun _ _ _ _ _ _ us hl => match us, hl with | [_, _], _ => rfl
  have c_L_belts : Cl P w K mg base 2 "_law_belts" sp_L_belts := cl_mk ["_law_dice_here", "_law_size"] f_L_belts (fun f fd F => ok_L_belts F B c_L_draw) fun f fd F => F.binds (ps := ["_law_dice_here", "_law_size"]) fun _ _ _ _ _ _ us hl => match us, hl with | [_, _], _ => rfl
  have c_L_put : Cl P w K mg base 1 "_law_put" sp_L_put := cl_mk ["_law_holding", "_law_belt", "_law_thing"] f_L_put (fun f fd F => ok_L_put F B) fun f fd F => F.binds (ps := ["_law_holding", "_law_belt", "_law_thing"]) fun _ _ _ _ _ _ us hl => match us, hl with | [_, _, _], _ => rfl
  have c_L_lengths : Cl P w K mg base 3 "_law_lengths" sp_L_belts := cl_mk ["_law_dice_here", "_law_size"] f_L_lengths (fun f fd F => ok_L_lengths F B c_L_belts) fun f fd F => F.binds (ps := ["_law_dice_here", "_law_size"]) fun _ _ _ _ _ _ us hl => match us, hl with | [_, _], _ => rfl
  have c_L_split : Cl P w K mg base 1 "_law_split" (sp_L_split K) := cl_mk ["_law_word", "_law_lengths_here"] f_L_split (fun f fd F => ok_L_split F B) fun f fd F => F.binds (ps := ["_law_word", "_law_lengths_here"]) fun _ _ _ _ _ _ us hl => match us, hl with | [_, _], _ => rfl
  have c_L_items : Cl P w K mg base 1 "_law_items" sp_L_items := cl_mk ["_law_holding"] f_L_items (fun f fd F => ok_L_items F) fun f fd F => F.binds (ps := ["_law_holding"]) fun _ _ _ _ _ _ us hl => match us, hl with | [_], _ => rfl
  have c_L_fits : Cl P w K mg base 1 "_law_fits" sp_L_fits := cl_mk ["_law_holding", "_law_goal"] f_L_fits (fun f fd F => ok_L_fits F B) fun f fd F => F.binds (ps := ["_law_holding", "_law_goal"]) fun _ _ _ _ _ _ us hl => match us, hl with | [_, _], _ => rfl
  have c_L_two_holdings : Cl P w K mg base 4 "_law_two_holdings" sp_L_two_holdings := cl_mk ["_law_dice_here", "_law_size", "_law_names_here"] f_L_two_holdings (fun f fd F => ok_L_two F B c_L_draw c_L_lengths c_L_split) fun f fd F => F.binds (ps := ["_law_dice_here", "_law_size", "_law_names_here"]) fun _ _ _ _ _ _ us hl => match us, hl with | [_, _, _], _ => rfl
  have c_L_steps_to : Cl P w K mg base 2 "_law_steps_to" sp_L_steps_to := cl_mk ["_law_begin", "_law_goal"] f_L_steps_to (fun f fd F => ok_L_steps_to F B c_L_items c_L_fits c_L_put) fun f fd F => F.binds (ps := ["_law_begin", "_law_goal"]) fun _ _ _ _ _ _ us hl => match us, hl with | [_, _], _ => rfl
  have c_L_full_goal : Cl P w K mg base 2 "_law_full_goal" sp_L_full_goal := cl_mk ["_law_dice_here", "_law_begin"] f_L_full_goal (fun f fd F => ok_L_full F B c_L_draw c_L_split) fun f fd F => F.binds (ps := ["_law_dice_here", "_law_begin"]) fun _ _ _ _ _ _ us hl => match us, hl with | [_, _], _ => rfl
  exact ok_law F B c_L_dice c_L_draw c_L_names c_L_two_holdings c_L_split c_L_full_goal c_L_steps_to c_L_alike c_L_items c_least_carries c_shortest
theorem bl_mk {K : PySem.W.Frag} {h : Heap} {mg : Str → Option Value} (X : K.In h) (G : h.Ns mainGlobals mg) {t1 t2 t3 t4 t5 t6 : Tok}
    (z1 : PySem.W.nsIn K mainGlobals "len" = some none)
    (z2 : PySem.W.nsIn K mainGlobals "range" = some none)
    (z3 : PySem.W.nsIn K mainGlobals "isinstance" = some none)
    (z4 : PySem.W.nsIn K mainGlobals "int" = some none)
    (z5 : PySem.W.nsIn K mainGlobals "str" = some none)
    (z6 : PySem.W.nsIn K mainGlobals "tuple" = some none)
    (z7 : PySem.W.nsIn K mainGlobals "list" = some none)
    (z8 : PySem.W.nsIn K mainGlobals "bool" = some none)
    (z9 : PySem.W.nsIn K mainGlobals "all" = some none)
    (z10 : PySem.W.nsIn K mainGlobals "sum" = some none)
    (z11 : PySem.W.nsIn K mainGlobals "enumerate" = some none)
    (z12 : PySem.W.nsIn K mainGlobals "zip" = some none)
    (z13 : PySem.W.nsIn K mainGlobals "abs" = some none)
    (z14 : PySem.W.nsIn K mainGlobals "max" = some none)
    (z15 : PySem.W.nsIn K mainGlobals "min" = some none)
    (y1 : PySem.W.nsIn K mainGlobals "LETTERS" = some (some (.str "abcdefghijklmnopqrstuvwxyz" t1)))
    (y2 : PySem.W.nsIn K mainGlobals "MOST_LETTERS" = some (some (.int 8 t2)))
    (y3 : PySem.W.nsIn K mainGlobals "MOST_BELTS" = some (some (.int 6 t3)))
    (y4 : PySem.W.nsIn K mainGlobals "MOST_ROOMS_machines" = some (some (.int 8 t4)))
    (y5 : PySem.W.nsIn K mainGlobals "MOST_SIZE" = some (some (.int 12 t5)))
    (y6 : PySem.W.nsIn K mainGlobals "MOST_ROOMS_shortest" = some (some (.int 5 t6)))
    : Bl mg := ⟨PySem.W.mg_none_of X G z1, PySem.W.mg_none_of X G z2, PySem.W.mg_none_of X G z3, PySem.W.mg_none_of X G z4, PySem.W.mg_none_of X G z5, PySem.W.mg_none_of X G z6, PySem.W.mg_none_of X G z7, PySem.W.mg_none_of X G z8, PySem.W.mg_none_of X G z9, PySem.W.mg_none_of X G z10, PySem.W.mg_none_of X G z11, PySem.W.mg_none_of X G z12, PySem.W.mg_none_of X G z13, PySem.W.mg_none_of X G z14, PySem.W.mg_none_of X G z15, ⟨_, PySem.W.mg_of X G y1⟩, ⟨_, PySem.W.mg_of X G y2⟩, ⟨_, PySem.W.mg_of X G y3⟩, ⟨_, PySem.W.mg_of X G y4⟩, ⟨_, PySem.W.mg_of X G y5⟩, ⟨_, PySem.W.mg_of X G y6⟩⟩
theorem top_mk {l : PySem.W.OpenLaw} {w : World} {K : PySem.W.Frag} {h : Heap} {mg : Str → Option Value} {fa f2 : Addr} (X : K.In h) (G : h.Ns mainGlobals mg) (hfa : mg "law" = some (.ref fa))
    {od2 an2 : Option Addr} {sl2 : Array (Option Value)} {oc2 kV2 dc2 pm2 cd2 ct2 : Value}
    (a : PySem.W.nsIn K mainGlobals "law" = some (some (.ref f2))) (l2 : K.lookup f2 = some ⟨oc2, od2, .func (PySem.W.fnOf "law" "law" (defArgs s_law) (defBody s_law) (defScope s_law) .none kV2 dc2 pm2 an2 cd2 ct2), sl2⟩) (c : PySem.W.codeIn K cd2 "law" = true) (k : PySem.W.keepIn K (.ref f2) = true) (B : Bl mg)
    (f_is_integer : FF K mg "is_integer" s_is_integer)
    (f_is_item : FF K mg "is_item" s_is_item)
    (f_is_name : FF K mg "is_name" s_is_name)
    (f_are_lengths : FF K mg "are_lengths" s_are_lengths)
    (f_is_holding : FF K mg "is_holding" s_is_holding)
    (f_items_of : FF K mg "items_of" s_items_of)
    (f_are_names_once : FF K mg "are_names_once" s_are_names_once)
    (f_check_holdings : FF K mg "check_holdings" s_check_holdings)
    (f_check_small : FF K mg "check_small" s_check_small)
    (f_put_in : FF K mg "put_in" s_put_in)
    (f_fits : FF K mg "fits" s_fits)
    (f_carried_on : FF K mg "carried_on" s_carried_on)
    (f_way_back : FF K mg "way_back" s_way_back)
    (f_fewest : FF K mg "fewest" s_fewest)
    (f_shortest : FF K mg "shortest" s_shortest)
    (f_least_carries : FF K mg "least_carries" s_least_carries)
    (f_L_dice : FF K mg "_law_dice" s_L_dice)
    (f_L_draw : FF K mg "_law_draw" s_L_draw)
    (f_L_names : FF K mg "_law_names" s_L_names)
    (f_L_alike : FF K mg "_law_alike" s_L_alike)
    (f_L_belts : FF K mg "_law_belts" s_L_belts)
    (f_L_put : FF K mg "_law_put" s_L_put)
    (f_L_lengths : FF K mg "_law_lengths" s_L_lengths)
    (f_L_split : FF K mg "_law_split" s_L_split)
    (f_L_items : FF K mg "_law_items" s_L_items)
    (f_L_fits : FF K mg "_law_fits" s_L_fits)
    (f_L_two_holdings : FF K mg "_law_two_holdings" s_L_two_holdings)
    (f_L_steps_to : FF K mg "_law_steps_to" s_L_steps_to)
    (f_L_full_goal : FF K mg "_law_full_goal" s_L_full_goal)
    : ∃ fd : FuncData, (∀ (s : Shared) (v : Value), BindsTo s fd ⟨[v], []⟩ [("_law_script", v)]) ∧ ∀ base : Heap, K.In base → base.Ns mainGlobals mg → FnOk l.prog w K mg base CX0 7 fa fd ["_law_script"] (sp_law K) := by
  have e := hfa.symm.trans (PySem.W.mg_of X G a)
  cases e
  exact ⟨PySem.W.fnOf "law" "law" (defArgs s_law) (defBody s_law) (defScope s_law) .none kV2 dc2 pm2 an2 cd2 ct2, fun s v => .of_eq rfl, fun base _ _ => law_ok (fun_mk (st := s_law) l2 c k) B f_is_integer f_is_item f_is_name f_are_lengths f_is_holding f_items_of f_are_names_once f_check_holdings f_check_small f_put_in f_fits f_carried_on f_way_back f_fewest f_shortest f_least_carries f_L_dice f_L_draw f_L_names f_L_alike f_L_belts f_L_put f_L_lengths f_L_split f_L_items f_L_fits f_L_two_holdings f_L_steps_to f_L_full_goal⟩
end FB
open PySem PySem.W PyProof.Rows
set_option maxHeartbeats 0 in
theorem PySem.Challenge.cw_fullbelts_k68_whole_least_carries_holds : PySem.Challenge.rw_fullbelts_k68_whole_least_carries.Holds := by
  w_on; o_law; k_head; (case hw => w_witness2)
  k_fill
  refine L2.walk_of (l := PySem.Challenge.rw_fullbelts_k68_whole_least_carries) (n := 63) (k := 7) (x := "_law_script") (CX := fun _ => L2.CX0) (sp := fun w => FB.sp_law _) rfl (by decide) rfl ⟨rfl, by decide, by decide⟩ (fun w h Y => PySem.W.kIn_of Y) ?F (fun _ _ a ns hl _ hS => ⟨a, ns, rfl, hS, hl, fun _ => rfl⟩) (fun _ _ _ _ _ h => h)
  case F =>
    intro w mg fa h KX G hmg
    refine' FB.top_mk KX G hmg ?a0 ?l0 ?c0 ?k0 (FB.bl_mk KX G ?z1 ?z2 ?z3 ?z4 ?z5 ?z6 ?z7 ?z8 ?z9 ?z10 ?z11 ?z12 ?z13 ?z14 ?z15 ?y1 ?y2 ?y3 ?y4 ?y5 ?y6) (FB.ff_mk KX G ?a1 ?l1 ?c1 ?k1) (FB.ff_mk KX G ?a2 ?l2 ?c2 ?k2) (FB.ff_mk KX G ?a3 ?l3 ?c3 ?k3) (FB.ff_mk KX G ?a4 ?l4 ?c4 ?k4) (FB.ff_mk KX G ?a5 ?l5 ?c5 ?k5) (FB.ff_mk KX G ?a6 ?l6 ?c6 ?k6) (FB.ff_mk KX G ?a7 ?l7 ?c7 ?k7) (FB.ff_mk KX G ?a8 ?l8 ?c8 ?k8) (FB.ff_mk KX G ?a9 ?l9 ?c9 ?k9) (FB.ff_mk KX G ?a10 ?l10 ?c10 ?k10) (FB.ff_mk KX G ?a11 ?l11 ?c11 ?k11) (FB.ff_mk KX G ?a12 ?l12 ?c12 ?k12) (FB.ff_mk KX G ?a13 ?l13 ?c13 ?k13) (FB.ff_mk KX G ?a14 ?l14 ?c14 ?k14) (FB.ff_mk KX G ?a15 ?l15 ?c15 ?k15) (FB.ff_mk KX G ?a16 ?l16 ?c16 ?k16) (FB.ff_mk KX G ?a17 ?l17 ?c17 ?k17) (FB.ff_mk KX G ?a18 ?l18 ?c18 ?k18) (FB.ff_mk KX G ?a19 ?l19 ?c19 ?k19) (FB.ff_mk KX G ?a20 ?l20 ?c20 ?k20) (FB.ff_mk KX G ?a21 ?l21 ?c21 ?k21) (FB.ff_mk KX G ?a22 ?l22 ?c22 ?k22) (FB.ff_mk KX G ?a23 ?l23 ?c23 ?k23) (FB.ff_mk KX G ?a24 ?l24 ?c24 ?k24) (FB.ff_mk KX G ?a25 ?l25 ?c25 ?k25) (FB.ff_mk KX G ?a26 ?l26 ?c26 ?k26) (FB.ff_mk KX G ?a27 ?l27 ?c27 ?k27) (FB.ff_mk KX G ?a28 ?l28 ?c28 ?k28) (FB.ff_mk KX G ?a29 ?l29 ?c29 ?k29)
    (case a0 => k_is)
    (case l0 => k_is)
    (case c0 => k_is)
    (case k0 => k_is)
    (case z1 => k_is)
    (case z2 => k_is)
    (case z3 => k_is)
    (case z4 => k_is)
    (case z5 => k_is)
    (case z6 => k_is)
    (case z7 => k_is)
    (case z8 => k_is)
    (case z9 => k_is)
    (case z10 => k_is)
    (case z11 => k_is)
    (case z12 => k_is)
    (case z13 => k_is)
    (case z14 => k_is)
    (case z15 => k_is)
    (case y1 => k_is)
    (case y2 => k_is)
    (case y3 => k_is)
    (case y4 => k_is)
    (case y5 => k_is)
    (case y6 => k_is)
    (case a1 => k_is)
    (case l1 => k_is)
    (case c1 => k_is)
    (case k1 => k_is)
    (case a2 => k_is)
    (case l2 => k_is)
    (case c2 => k_is)
    (case k2 => k_is)
    (case a3 => k_is)
    (case l3 => k_is)
    (case c3 => k_is)
    (case k3 => k_is)
    (case a4 => k_is)
    (case l4 => k_is)
    (case c4 => k_is)
    (case k4 => k_is)
    (case a5 => k_is)
    (case l5 => k_is)
    (case c5 => k_is)
    (case k5 => k_is)
    (case a6 => k_is)
    (case l6 => k_is)
    (case c6 => k_is)
    (case k6 => k_is)
    (case a7 => k_is)
    (case l7 => k_is)
    (case c7 => k_is)
    (case k7 => k_is)
    (case a8 => k_is)
    (case l8 => k_is)
    (case c8 => k_is)
    (case k8 => k_is)
    (case a9 => k_is)
    (case l9 => k_is)
    (case c9 => k_is)
    (case k9 => k_is)
    (case a10 => k_is)
    (case l10 => k_is)
    (case c10 => k_is)
    (case k10 => k_is)
    (case a11 => k_is)
    (case l11 => k_is)
    (case c11 => k_is)
    (case k11 => k_is)
    (case a12 => k_is)
    (case l12 => k_is)
    (case c12 => k_is)
    (case k12 => k_is)
    (case a13 => k_is)
    (case l13 => k_is)
    (case c13 => k_is)
    (case k13 => k_is)
    (case a14 => k_is)
    (case l14 => k_is)
    (case c14 => k_is)
    (case k14 => k_is)
    (case a15 => k_is)
    (case l15 => k_is)
    (case c15 => k_is)
    (case k15 => k_is)
    (case a16 => k_is)
    (case l16 => k_is)
    (case c16 => k_is)
    (case k16 => k_is)
    (case a17 => k_is)
    (case l17 => k_is)
    (case c17 => k_is)
    (case k17 => k_is)
    (case a18 => k_is)
    (case l18 => k_is)
    (case c18 => k_is)
    (case k18 => k_is)
    (case a19 => k_is)
    (case l19 => k_is)
    (case c19 => k_is)
    (case k19 => k_is)
    (case a20 => k_is)
    (case l20 => k_is)
    (case c20 => k_is)
    (case k20 => k_is)
    (case a21 => k_is)
    (case l21 => k_is)
    (case c21 => k_is)
    (case k21 => k_is)
    (case a22 => k_is)
    (case l22 => k_is)
    (case c22 => k_is)
    (case k22 => k_is)
    (case a23 => k_is)
    (case l23 => k_is)
    (case c23 => k_is)
    (case k23 => k_is)
    (case a24 => k_is)
    (case l24 => k_is)
    (case c24 => k_is)
    (case k24 => k_is)
    (case a25 => k_is)
    (case l25 => k_is)
    (case c25 => k_is)
    (case k25 => k_is)
    (case a26 => k_is)
    (case l26 => k_is)
    (case c26 => k_is)
    (case k26 => k_is)
    (case a27 => k_is)
    (case l27 => k_is)
    (case c27 => k_is)
    (case k27 => k_is)
    (case a28 => k_is)
    (case l28 => k_is)
    (case c28 => k_is)
    (case k28 => k_is)
    (case a29 => k_is)
    (case l29 => k_is)
    (case c29 => k_is)
    (case k29 => k_is)
