import PyProof.Rows.All
import HandS.ForMost
import HandS.Zip
import KE.GoesEnum
import HandS.More
import HandS.SortInts
import HandS.SortKw
import HandS.Style
import HandS.IsInst
import KE.DatumOrd
import HandS.Nested
import KE.KMinKey
import HandS.Walk
import PySem.Challenge.RW_leasttolls_k12_whole_least_tolls
import HandS.Lambda
import HandS.TupAny
import HandS.Wide
import PyProof.P3Eq
import KE.KEqSeq
import HandS.EndTab
set_option linter.all false
namespace LT
abbrev Pr := Option Int

def lesser : Pr → Pr → Pr
  | none, o => o
  | some a, none => some a
  | some a, some b => if a ≤ b then some a else some b
def both : Pr → Pr → Pr
  | some a, some b => some (a + b)
  | _, _ => none

/-- p is the least of the numbers in S, none where there is none -/
def Lst (p : Pr) (S : Int → Prop) : Prop := (p = none → ∀ c, ¬ S c) ∧ ∀ m, p = some m → S m ∧ ∀ c, S c → m ≤ c
theorem Lst.uniq {p q : Pr} {S : Int → Prop} (h : Lst p S) (g : Lst q S) : p = q := by
  cases p with
  | none =>
    cases q with
    | none => rfl
    | some b => exact absurd (g.2 b rfl).1 (h.1 rfl b)
  | some a =>
    cases q with
    | none => exact absurd (h.2 a rfl).1 (g.1 rfl a)
    | some b =>
      have h1 := (h.2 a rfl).2 b (g.2 b rfl).1
      have h2 := (g.2 b rfl).2 a (h.2 a rfl).1
      have : a = b := by omega
      rw [this]
theorem Lst.congr {p : Pr} {S T : Int → Prop} (h : Lst p S) (e : ∀ c, S c ↔ T c) : Lst p T :=
  ⟨fun hn c hc => h.1 hn c ((e c).2 hc), fun m hm => ⟨(e m).1 (h.2 m hm).1, fun c hc => (h.2 m hm).2 c ((e c).2 hc)⟩⟩
theorem Lst.no {S : Int → Prop} (h : ∀ c, ¬ S c) : Lst none S := ⟨fun _ => h, fun m hm => nomatch hm⟩
theorem Lst.one {a : Int} {S : Int → Prop} (h : S a) (h2 : ∀ c, S c → a ≤ c) : Lst (some a) S := by
  constructor
  · intro hn; cases hn
  · intro m hm
    cases hm
    exact ⟨h, h2⟩
theorem Lst.lesser {p q : Pr} {S T : Int → Prop} (h : Lst p S) (g : Lst q T) : Lst (lesser p q) (fun c => S c ∨ T c) := by
  cases p with
  | none =>
    have h0 := h.1 rfl
    show Lst q _
    exact g.congr fun c => ⟨.inr, fun z => z.resolve_left (h0 c)⟩
  | some a =>
    obtain ⟨ha, ha2⟩ := h.2 a rfl
    cases q with
    | none =>
      have g0 := g.1 rfl
      show Lst (some a) _
      exact .one (.inl ha) fun c z => ha2 c (z.resolve_right (g0 c))
    | some b =>
      obtain ⟨hb, hb2⟩ := g.2 b rfl
      show Lst (if a ≤ b then some a else some b) _
      split
      · refine .one (.inl ha) fun c z => ?_
        rcases z with z | z
        · exact ha2 c z
        · have := hb2 c z; omega
      · refine .one (.inr hb) fun c z => ?_
        rcases z with z | z
        · have := ha2 c z; omega
        · exact hb2 c z
theorem Lst.both {p q : Pr} {S T : Int → Prop} (h : Lst p S) (g : Lst q T) : Lst (both p q) (fun c => ∃ a b, S a ∧ T b ∧ c = a + b) := by
  cases p with
  | none =>
    show Lst none _
    exact .no fun c ⟨a, b, ha, _⟩ => h.1 rfl a ha
  | some a =>
    cases q with
    | none =>
      show Lst none _
      exact .no fun c ⟨a, b, _, hb, _⟩ => g.1 rfl b hb
    | some b =>
      show Lst (some (a + b)) _
      obtain ⟨ha, ha2⟩ := h.2 a rfl
      obtain ⟨hb, hb2⟩ := g.2 b rfl
      refine .one ⟨a, b, ha, hb, rfl⟩ fun c ⟨x, y, hx, hy, e⟩ => ?_
      have := ha2 x hx
      have := hb2 y hy
      omega

/-! ### rows and tables -/
def rowStep (found : List Pr) (pl : Pr × List Pr) : List Pr :=
  if pl.1 = none then found else List.zipWith (fun s m => lesser s (both pl.1 m)) found pl.2
def rowBy (row : List Pr) (t : List (List Pr)) : List Pr := (row.zip t).foldl rowStep (row.map fun _ => none)
def product (a b : List (List Pr)) : List (List Pr) := a.map fun r => rowBy r b
def plain (n : Nat) : List (List Pr) := (List.range n).map fun i => (List.range n).map fun j => if i = j then some 0 else none
def ent (t : List (List Pr)) (i j : Nat) : Pr := (t.getD i []).getD j none
/-- n by n -/
structure Sq (n : Nat) (t : List (List Pr)) : Prop where
  len : t.length = n
  row : ∀ r ∈ t, r.length = n
theorem Sq.at {n : Nat} {t : List (List Pr)} (h : Sq n t) {i : Nat} (hi : i < n) : (t.getD i []).length = n := by
  have hi' : i < t.length := by rw [h.len]; exact hi
  rw [List.getD_eq_getElem?_getD, List.getElem?_eq_getElem hi']
  exact h.row _ (List.getElem_mem hi')
theorem rowStep_len {found : List Pr} {pl : Pr × List Pr} (h : pl.2.length = found.length) : (rowStep found pl).length = found.length := by
  unfold rowStep
  split
  · rfl
  · rw [List.length_zipWith, h, Nat.min_self]
theorem rowFold_len : ∀ (l : List (Pr × List Pr)) (found : List Pr), (∀ pl ∈ l, pl.2.length = found.length) → (l.foldl rowStep found).length = found.length
  | [], _, _ => rfl
  | pl :: l, found, h => by
    rw [List.foldl_cons, rowFold_len l (rowStep found pl) (fun q hq => by
      rw [rowStep_len (h pl List.mem_cons_self)]
      exact h q (List.mem_cons_of_mem _ hq)), rowStep_len (h pl List.mem_cons_self)]
theorem rowBy_len {n : Nat} {row : List Pr} {t : List (List Pr)} (hr : row.length = n) (ht : ∀ r ∈ t, r.length = n) : (rowBy row t).length = n := by
  unfold rowBy
  rw [rowFold_len, List.length_map, hr]
  intro pl hpl
  rw [List.length_map, hr]
  exact ht _ (List.of_mem_zip hpl).2
theorem rowStep_at {found : List Pr} {pl : Pr × List Pr} {j : Nat} (h : pl.2.length = found.length) (hj : j < found.length) :
    (rowStep found pl).getD j none = lesser (found.getD j none) (both pl.1 (pl.2.getD j none)) := by
  unfold rowStep
  have e1 : found.getD j none = found[j] := by
    rw [List.getD_eq_getElem?_getD, List.getElem?_eq_getElem hj]; rfl
  have hj2 : j < pl.2.length := by omega
  have e2 : pl.2.getD j none = pl.2[j] := by
    rw [List.getD_eq_getElem?_getD, List.getElem?_eq_getElem hj2]; rfl
  split
  · rename_i hn
    rw [hn]
    show _ = lesser _ none
    cases found.getD j none <;> rfl
  · rw [e1, e2, List.getD_eq_getElem?_getD, List.getElem?_zipWith, List.getElem?_eq_getElem hj, List.getElem?_eq_getElem hj2]
    rfl
theorem rowFold_least {j : Nat} : ∀ (l : List (Pr × List Pr)) (found : List Pr) (F : Int → Prop) (G : Nat → Int → Prop), j < found.length → (∀ pl ∈ l, pl.2.length = found.length) →
    Lst (found.getD j none) F → (∀ i pl, l[i]? = some pl → Lst (both pl.1 (pl.2.getD j none)) (G i)) → Lst ((l.foldl rowStep found).getD j none) (fun c => F c ∨ ∃ i, i < l.length ∧ G i c)
  | [], found, F, G, _, _, h, _ => by
    refine h.congr fun c => ⟨.inl, fun z => ?_⟩
    rcases z with z | ⟨i, hi, _⟩
    · exact z
    · exact absurd hi (Nat.not_lt_zero _)
  | pl :: l, found, F, G, hj, hl, h, hg => by
    have l0 := hl pl List.mem_cons_self
    rw [List.foldl_cons]
    have h1 : Lst ((rowStep found pl).getD j none) (fun c => F c ∨ G 0 c) := by
      rw [rowStep_at l0 hj]
      exact h.lesser (hg 0 pl rfl)
    have := rowFold_least l (rowStep found pl) (fun c => F c ∨ G 0 c) (fun i => G (i + 1)) (by rw [rowStep_len l0]; exact hj) (fun q hq => by
      rw [rowStep_len l0]
      exact hl q (List.mem_cons_of_mem _ hq)) h1 (fun i q hq => hg (i + 1) q hq)
    refine this.congr fun c => ⟨fun z => ?_, fun z => ?_⟩
    · rcases z with (z | z) | ⟨i, hi, z⟩
      · exact .inl z
      · exact .inr ⟨0, Nat.succ_pos _, z⟩
      · exact .inr ⟨i + 1, Nat.succ_lt_succ hi, z⟩
    · rcases z with z | ⟨i, hi, z⟩
      · exact .inl (.inl z)
      · cases i with
        | zero => exact .inl (.inr z)
        | succ i => exact .inr ⟨i, Nat.lt_of_succ_lt_succ hi, z⟩
theorem getD_map {α β : Type} (f : α → β) (l : List α) (i : Nat) (d : β) (h : i < l.length) : (l.map f).getD i d = f l[i] := by
  rw [List.getD_eq_getElem?_getD, List.getElem?_map, List.getElem?_eq_getElem h]; rfl
theorem getD_at {α : Type} (l : List α) (i : Nat) (d : α) (h : i < l.length) : l.getD i d = l[i] := by
  rw [List.getD_eq_getElem?_getD, List.getElem?_eq_getElem h]; rfl
theorem rowBy_least {n : Nat} {row : List Pr} {t : List (List Pr)} {R : Nat → Int → Prop} {T : Nat → Nat → Int → Prop} (hr : row.length = n) (ht : Sq n t) (h1 : ∀ k, k < n → Lst (row.getD k none) (R k)) {j : Nat} (hj : j < n)
    (h2 : ∀ k, k < n → Lst (ent t k j) (T k j)) : Lst ((rowBy row t).getD j none) (fun c => ∃ k, k < n ∧ ∃ a b, R k a ∧ T k j b ∧ c = a + b) := by
  unfold rowBy
  have hz : (row.zip t).length = n := by rw [List.length_zip, hr, ht.len, Nat.min_self]
  have := rowFold_least (j := j) (row.zip t) (row.map fun _ => none) (fun _ => False) (fun k c => ∃ a b, R k a ∧ T k j b ∧ c = a + b) (by rw [List.length_map, hr]; exact hj) (fun pl hpl => by
      rw [List.length_map, hr]
      exact ht.row _ (List.of_mem_zip hpl).2) (by
      rw [getD_map _ _ _ _ (by rw [hr]; exact hj)]
      exact .no fun _ z => z) (fun i pl hi => by
      have hi' : i < (row.zip t).length := (List.getElem?_eq_some_iff.mp hi).1
      have hin : i < n := by rw [hz] at hi'; exact hi'
      have e : pl = (row.getD i none, t.getD i []) := by
        have := (List.getElem?_eq_some_iff.mp hi).2
        rw [List.getElem_zip] at this
        rw [← this, getD_at _ _ _ (by omega), getD_at _ _ _ (by rw [ht.len]; exact hin)]
      rw [e]
      exact (h1 i hin).both (h2 i hin))
  refine this.congr fun c => ⟨fun z => ?_, fun z => .inr ?_⟩
  · rcases z with z | ⟨k, hk, z⟩
    · exact z.elim
    · exact ⟨k, by rw [hz] at hk; exact hk, z⟩
  · obtain ⟨k, hk, z⟩ := z
    exact ⟨k, by rw [hz]; exact hk, z⟩
theorem product_sq {n : Nat} {a b : List (List Pr)} (ha : Sq n a) (hb : Sq n b) : Sq n (product a b) := by
  refine ⟨by unfold product; rw [List.length_map, ha.len], fun r hr => ?_⟩
  obtain ⟨q, hq, e⟩ := List.mem_map.mp hr
  rw [← e]
  exact rowBy_len (ha.row q hq) hb.row
theorem ent_product {n : Nat} {a b : List (List Pr)} (ha : Sq n a) {i j : Nat} (hi : i < n) : ent (product a b) i j = (rowBy (a.getD i []) b).getD j none := by
  unfold ent product
  have hi' : i < a.length := by rw [ha.len]; exact hi
  rw [getD_map _ _ _ _ hi', getD_at _ _ _ hi']
theorem plain_sq (n : Nat) : Sq n (plain n) := by
  refine ⟨by unfold plain; rw [List.length_map, List.length_range], fun r hr => ?_⟩
  obtain ⟨q, hq, e⟩ := List.mem_map.mp hr
  rw [← e, List.length_map, List.length_range]
theorem ent_plain {n i j : Nat} (hi : i < n) (hj : j < n) : ent (plain n) i j = if i = j then some 0 else none := by
  unfold ent plain
  rw [getD_map _ _ _ _ (by rw [List.length_range]; exact hi), getD_map _ _ _ _ (by rw [List.length_range]; exact hj), List.getElem_range, List.getElem_range]
theorem Sq.ext {n : Nat} {a b : List (List Pr)} (ha : Sq n a) (hb : Sq n b) (h : ∀ i j, i < n → j < n → ent a i j = ent b i j) : a = b := by
  refine List.ext_getElem (by rw [ha.len, hb.len]) fun i h1 h2 => ?_
  have hi : i < n := by rw [ha.len] at h1; exact h1
  have la := ha.row _ (List.getElem_mem h1)
  have lb := hb.row _ (List.getElem_mem h2)
  refine List.ext_getElem (by rw [la, lb]) fun j g1 g2 => ?_
  have := h i j hi (by omega)
  unfold ent at this
  rw [getD_at a i _ h1, getD_at b i _ h2, getD_at _ j _ g1, getD_at _ j _ g2] at this
  exact this

/-! ### walks -/
structure Dr where
  st : Nat
  sg : Nat
  gl : Nat
  co : Int
  deriving DecidableEq
/-- a walk by a word from a room to a room takes so much -/
def Wk (ds : List Dr) : List Nat → Nat → Nat → Int → Prop
  | [], i, j, c => i = j ∧ c = 0
  | x :: w, i, j, c => ∃ d, d ∈ ds ∧ d.sg = x ∧ d.st = i ∧ ∃ c', Wk ds w d.gl j c' ∧ c = d.co + c'
theorem Wk.app {ds : List Dr} : ∀ {u v : List Nat} {i j : Nat} {c : Int}, Wk ds (u ++ v) i j c ↔ ∃ k a b, Wk ds u i k a ∧ Wk ds v k j b ∧ c = a + b
  | [], v, i, j, c => by
    constructor
    · intro h
      exact ⟨i, 0, c, ⟨rfl, rfl⟩, h, by omega⟩
    · rintro ⟨k, a, b, ⟨rfl, rfl⟩, h, e⟩
      have : c = b := by omega
      rw [this]; exact h
  | x :: u, v, i, j, c => by
    constructor
    · rintro ⟨d, hd, h1, h2, c', h3, e⟩
      obtain ⟨k, a, b, h4, h5, e2⟩ := Wk.app.mp h3
      exact ⟨k, d.co + a, b, ⟨d, hd, h1, h2, a, h4, rfl⟩, h5, by omega⟩
    · rintro ⟨k, a, b, ⟨d, hd, h1, h2, c', h3, e⟩, h5, e2⟩
      exact ⟨d, hd, h1, h2, c' + b, Wk.app.mpr ⟨k, c', b, h3, h5, rfl⟩, by omega⟩
theorem Wk.one {ds : List Dr} {x i j : Nat} {c : Int} : Wk ds [x] i j c ↔ ∃ d, d ∈ ds ∧ d.sg = x ∧ d.st = i ∧ d.gl = j ∧ c = d.co := by
  constructor
  · rintro ⟨d, hd, h1, h2, c', ⟨h3, rfl⟩, e⟩
    exact ⟨d, hd, h1, h2, h3, by omega⟩
  · rintro ⟨d, hd, h1, h2, h3, e⟩
    exact ⟨d, hd, h1, h2, 0, ⟨h3, rfl⟩, by omega⟩
theorem Wk.snoc {ds : List Dr} {w : List Nat} {x i j : Nat} {c : Int} : Wk ds (w ++ [x]) i j c ↔ ∃ d a, d ∈ ds ∧ d.sg = x ∧ d.gl = j ∧ Wk ds w i d.st a ∧ c = a + d.co := by
  rw [Wk.app]
  constructor
  · rintro ⟨k, a, b, h1, h2, e⟩
    obtain ⟨d, hd, g1, g2, g3, g4⟩ := Wk.one.mp h2
    exact ⟨d, a, hd, g1, g3, g2 ▸ h1, by omega⟩
  · rintro ⟨d, a, hd, g1, g2, h, e⟩
    exact ⟨d.st, a, d.co, h, Wk.one.mpr ⟨d, hd, g1, rfl, g2, rfl⟩, e⟩
theorem Wk.room {ds : List Dr} {n : Nat} (hg : ∀ d ∈ ds, d.gl < n) : ∀ {w : List Nat} {i j : Nat} {c : Int}, i < n → Wk ds w i j c → j < n
  | [], i, j, c, hi, h => h.1 ▸ hi
  | x :: w, i, j, c, hi, ⟨d, hd, _, _, c', h, _⟩ => Wk.room hg (hg d hd) h

/-! ### a letter's table, a word's -/
def ltStep (x : Nat) (t : List (List Pr)) (d : Dr) : List (List Pr) :=
  if d.sg = x then t.set d.st ((t.getD d.st []).set d.gl (lesser (ent t d.st d.gl) (some d.co))) else t
def blank (n : Nat) : List (List Pr) := List.replicate n (List.replicate n none)
def letterTable (n : Nat) (ds : List Dr) (x : Nat) : List (List Pr) := ds.foldl (ltStep x) (blank n)
theorem ltStep_sq {n x : Nat} {t : List (List Pr)} {d : Dr} (h : Sq n t) (hs : d.st < n) : Sq n (ltStep x t d) := by
  unfold ltStep
  split
  · refine ⟨by rw [List.length_set, h.len], fun r hr => ?_⟩
    rcases List.mem_or_eq_of_mem_set hr with z | z
    · exact h.row r z
    · rw [z, List.length_set]; exact h.at hs
  · exact h
theorem getD_set_self {α : Type} (l : List α) (i : Nat) (v d : α) (h : i < l.length) : (l.set i v).getD i d = v := by
  rw [List.getD_eq_getElem?_getD, List.getElem?_set_self h]; rfl
theorem getD_set_ne {α : Type} (l : List α) (i k : Nat) (v d : α) (h : i ≠ k) : (l.set i v).getD k d = l.getD k d := by
  rw [List.getD_eq_getElem?_getD, List.getElem?_set_ne h, ← List.getD_eq_getElem?_getD]
theorem ltStep_at {n x : Nat} {t : List (List Pr)} {d : Dr} (h : Sq n t) (hs : d.st < n) (hg : d.gl < n) {i j : Nat} :
    ent (ltStep x t d) i j = if d.sg = x ∧ d.st = i ∧ d.gl = j then lesser (ent t i j) (some d.co) else ent t i j := by
  unfold ltStep
  by_cases hx : d.sg = x
  · rw [if_pos hx]
    have hs' : d.st < t.length := by rw [h.len]; exact hs
    by_cases hi : d.st = i
    · subst hi
      by_cases hj : d.gl = j
      · subst hj
        rw [if_pos ⟨hx, rfl, rfl⟩]
        show ((t.set _ _).getD d.st []).getD d.gl none = _
        rw [getD_set_self _ _ _ _ hs', getD_set_self _ _ _ _ (by rw [h.at hs]; exact hg)]
      · rw [if_neg fun z => hj z.2.2]
        show ((t.set _ _).getD d.st []).getD j none = _
        rw [getD_set_self _ _ _ _ hs', getD_set_ne _ _ _ _ _ hj]
        rfl
    · rw [if_neg fun z => hi z.2.1]
      show ((t.set _ _).getD i []).getD j none = _
      rw [getD_set_ne _ _ _ _ _ hi]
      rfl
  · rw [if_neg hx, if_neg fun z => hx z.1]
theorem blank_sq (n : Nat) : Sq n (blank n) := ⟨List.length_replicate, fun r hr => by rw [List.eq_of_mem_replicate hr]; exact List.length_replicate⟩
theorem getD_rep {α : Type} (n i : Nat) (v d : α) : (List.replicate n v).getD i d = if i < n then v else d := by
  rw [List.getD_eq_getElem?_getD]
  split
  · rename_i hi
    rw [List.getElem?_eq_getElem (by rw [List.length_replicate]; exact hi), List.getElem_replicate]; rfl
  · rename_i hi
    rw [List.getElem?_eq_none (by rw [List.length_replicate]; omega)]; rfl
theorem ent_blank {n i j : Nat} : ent (blank n) i j = none := by
  unfold ent blank
  rw [getD_rep]
  split
  · rw [getD_rep]; split <;> rfl
  · rfl
theorem ltFold {n x : Nat} : ∀ (ds : List Dr) (t : List (List Pr)) (F : Nat → Nat → Int → Prop), (∀ d ∈ ds, d.st < n ∧ d.gl < n) → Sq n t → (∀ i j, i < n → j < n → Lst (ent t i j) (F i j)) →
    Sq n (ds.foldl (ltStep x) t) ∧ ∀ i j, i < n → j < n → Lst (ent (ds.foldl (ltStep x) t) i j) (fun c => F i j c ∨ ∃ d, d ∈ ds ∧ d.sg = x ∧ d.st = i ∧ d.gl = j ∧ c = d.co)
  | [], t, F, _, h, hF => ⟨h, fun i j hi hj => (hF i j hi hj).congr fun c => ⟨.inl, fun z => z.elim id fun ⟨_, hd, _⟩ => nomatch hd⟩⟩
  | d :: ds, t, F, hd, h, hF => by
    obtain ⟨h1, h2⟩ := hd d List.mem_cons_self
    rw [List.foldl_cons]
    obtain ⟨a, b⟩ := ltFold (n := n) (x := x) ds (ltStep x t d) (fun i j c => F i j c ∨ (d.sg = x ∧ d.st = i ∧ d.gl = j ∧ c = d.co)) (fun q hq => hd q (List.mem_cons_of_mem _ hq)) (ltStep_sq h h1) (fun i j hi hj => by
      rw [ltStep_at h h1 h2]
      split
      · rename_i hc
        refine ((hF i j hi hj).lesser (.one (S := fun c => c = d.co) rfl fun c e => by omega)).congr fun c => ⟨fun z => ?_, fun z => ?_⟩
        · exact z.imp_right fun e => ⟨hc.1, hc.2.1, hc.2.2, e⟩
        · exact z.imp_right fun e => e.2.2.2
      · rename_i hc
        exact (hF i j hi hj).congr fun c => ⟨.inl, fun z => z.elim id fun e => absurd ⟨e.1, e.2.1, e.2.2.1⟩ hc⟩)
    refine ⟨a, fun i j hi hj => (b i j hi hj).congr fun c => ⟨fun z => ?_, fun z => ?_⟩⟩
    · rcases z with (z | z) | ⟨q, hq, z⟩
      · exact .inl z
      · exact .inr ⟨d, List.mem_cons_self, z⟩
      · exact .inr ⟨q, List.mem_cons_of_mem _ hq, z⟩
    · rcases z with z | ⟨q, hq, z⟩
      · exact .inl (.inl z)
      · rcases List.mem_cons.mp hq with e | hq
        · subst e; exact .inl (.inr z)
        · exact .inr ⟨q, hq, z⟩
theorem letterTable_least {n x : Nat} {ds : List Dr} (hd : ∀ d ∈ ds, d.st < n ∧ d.gl < n) : Sq n (letterTable n ds x) ∧ ∀ i j, i < n → j < n → Lst (ent (letterTable n ds x) i j) (Wk ds [x] i j) := by
  obtain ⟨a, b⟩ := ltFold (n := n) (x := x) ds (blank n) (fun _ _ _ => False) hd (blank_sq n) (fun i j _ _ => by rw [ent_blank]; exact .no fun _ z => z)
  refine ⟨a, fun i j hi hj => (b i j hi hj).congr fun c => ?_⟩
  rw [Wk.one]
  exact ⟨fun z => z.elim False.elim id, .inr⟩
def wordTable (n : Nat) (ds : List Dr) (w : List Nat) : List (List Pr) := w.foldl (fun t x => product t (letterTable n ds x)) (plain n)
theorem product_least {n : Nat} {ds : List Dr} {u v : List Nat} {a b : List (List Pr)} (hd : ∀ d ∈ ds, d.st < n ∧ d.gl < n) (ha : Sq n a) (hb : Sq n b) (h1 : ∀ i j, i < n → j < n → Lst (ent a i j) (Wk ds u i j)) (h2 : ∀ i j, i < n → j < n → Lst (ent b i j) (Wk ds v i j)) :
    ∀ i j, i < n → j < n → Lst (ent (product a b) i j) (Wk ds (u ++ v) i j) := fun i j hi hj => by
  rw [ent_product ha hi]
  refine (rowBy_least (R := Wk ds u i) (T := Wk ds v) (ha.at hi) hb (fun k hk => h1 i k hi hk) hj (fun k hk => h2 k j hk hj)).congr fun c => ?_
  rw [Wk.app]
  exact ⟨fun ⟨k, hk, a, b, z⟩ => ⟨k, a, b, z⟩, fun ⟨k, a, b, z⟩ => ⟨k, Wk.room (fun d hq => (hd d hq).2) hi z.1, a, b, z⟩⟩
theorem wordFold {n : Nat} {ds : List Dr} (hd : ∀ d ∈ ds, d.st < n ∧ d.gl < n) : ∀ (w u : List Nat) (t : List (List Pr)), Sq n t → (∀ i j, i < n → j < n → Lst (ent t i j) (Wk ds u i j)) →
    Sq n (w.foldl (fun t x => product t (letterTable n ds x)) t) ∧ ∀ i j, i < n → j < n → Lst (ent (w.foldl (fun t x => product t (letterTable n ds x)) t) i j) (Wk ds (u ++ w) i j)
  | [], u, t, h, h2 => by rw [List.append_nil]; exact ⟨h, h2⟩
  | x :: w, u, t, h, h2 => by
    obtain ⟨l1, l2⟩ := letterTable_least (x := x) hd
    have := wordFold hd w (u ++ [x]) (product t (letterTable n ds x)) (product_sq h l1) (product_least hd h l1 h2 l2)
    rw [List.append_assoc] at this
    exact this
theorem plain_least {n : Nat} {ds : List Dr} : ∀ i j, i < n → j < n → Lst (ent (plain n) i j) (Wk ds [] i j) := fun i j hi hj => by
  rw [ent_plain hi hj]
  split
  · rename_i e
    exact .one ⟨e, rfl⟩ fun c z => Int.le_of_eq z.2.symm
  · rename_i e
    exact .no fun c z => e z.1
theorem wordTable_least {n : Nat} {ds : List Dr} (hd : ∀ d ∈ ds, d.st < n ∧ d.gl < n) (w : List Nat) : Sq n (wordTable n ds w) ∧ ∀ i j, i < n → j < n → Lst (ent (wordTable n ds w) i j) (Wk ds w i j) :=
  wordFold hd w [] (plain n) (plain_sq n) plain_least
end LT
set_option linter.all false
namespace LT
/-! ### prices -/
def leastAt (row : List Pr) (rooms : List Nat) : Pr := rooms.foldl (fun f r => lesser f (row.getD r none)) none
theorem leastFold {row : List Pr} {R : Nat → Int → Prop} : ∀ (rooms : List Nat) (f : Pr) (F : Int → Prop), (∀ r ∈ rooms, Lst (row.getD r none) (R r)) → Lst f F → Lst (rooms.foldl (fun f r => lesser f (row.getD r none)) f) (fun c => F c ∨ ∃ r, r ∈ rooms ∧ R r c)
  | [], f, F, _, h => h.congr fun c => ⟨.inl, fun z => z.elim id fun ⟨_, q, _⟩ => nomatch q⟩
  | r :: rooms, f, F, hr, h => by
    rw [List.foldl_cons]
    refine (leastFold rooms _ (fun c => F c ∨ R r c) (fun q hq => hr q (List.mem_cons_of_mem _ hq)) (h.lesser (hr r List.mem_cons_self))).congr fun c => ⟨fun z => ?_, fun z => ?_⟩
    · rcases z with (z | z) | ⟨q, hq, z⟩
      · exact .inl z
      · exact .inr ⟨r, List.mem_cons_self, z⟩
      · exact .inr ⟨q, List.mem_cons_of_mem _ hq, z⟩
    · rcases z with z | ⟨q, hq, z⟩
      · exact .inl (.inl z)
      · rcases List.mem_cons.mp hq with e | hq
        · subst e; exact .inl (.inr z)
        · exact .inr ⟨q, hq, z⟩
theorem leastAt_least {row : List Pr} {R : Nat → Int → Prop} {rooms : List Nat} (h : ∀ r ∈ rooms, Lst (row.getD r none) (R r)) : Lst (leastAt row rooms) (fun c => ∃ r, r ∈ rooms ∧ R r c) :=
  (leastFold rooms none (fun _ => False) h (.no fun _ z => z)).congr fun c => ⟨fun z => z.elim False.elim id, .inr⟩
def row0 (n : Nat) (bs : List Nat) : List Pr := (List.range n).map fun r => if r ∈ bs then some 0 else none
theorem row0_len (n : Nat) (bs : List Nat) : (row0 n bs).length = n := by unfold row0; rw [List.length_map, List.length_range]
/-- the tolls of the walks from begins to a room -/
def From (ds : List Dr) (bs : List Nat) (w : List Nat) (j : Nat) (c : Int) : Prop := ∃ i, i ∈ bs ∧ Wk ds w i j c
/-- the tolls of the roads -/
def Rd (ds : List Dr) (bs es : List Nat) (w : List Nat) (c : Int) : Prop := ∃ i j, i ∈ bs ∧ j ∈ es ∧ Wk ds w i j c
theorem row0_least {ds : List Dr} {n : Nat} {bs : List Nat} (r : Nat) (hr : r < n) : Lst ((row0 n bs).getD r none) (From ds bs [] r) := by
  unfold row0
  rw [getD_map _ _ _ _ (by rw [List.length_range]; exact hr), List.getElem_range]
  split
  · rename_i h
    exact .one ⟨r, h, rfl, rfl⟩ fun c ⟨i, _, _, e⟩ => Int.le_of_eq e.symm
  · rename_i h
    exact .no fun c ⟨i, hi, e, _⟩ => h (e ▸ hi)
theorem From.snoc {ds : List Dr} {bs w : List Nat} {x j : Nat} {c : Int} : From ds bs (w ++ [x]) j c ↔ ∃ k a b, From ds bs w k a ∧ Wk ds [x] k j b ∧ c = a + b := by
  constructor
  · rintro ⟨i, hi, h⟩
    obtain ⟨k, a, b, h1, h2, e⟩ := Wk.app.mp h
    exact ⟨k, a, b, ⟨i, hi, h1⟩, h2, e⟩
  · rintro ⟨k, a, b, ⟨i, hi, h1⟩, h2, e⟩
    exact ⟨i, hi, Wk.app.mpr ⟨k, a, b, h1, h2, e⟩⟩
theorem From.room {ds : List Dr} {n : Nat} {bs w : List Nat} (hg : ∀ d ∈ ds, d.gl < n) (hb : ∀ i ∈ bs, i < n) {j : Nat} {c : Int} (h : From ds bs w j c) : j < n := by
  obtain ⟨i, hi, h⟩ := h
  exact Wk.room hg (hb i hi) h
def priceRow (n : Nat) (ds : List Dr) (bs : List Nat) (w : List Nat) : List Pr := w.foldl (fun row x => rowBy row (letterTable n ds x)) (row0 n bs)
theorem priceFold {n : Nat} {ds : List Dr} {bs : List Nat} (hd : ∀ d ∈ ds, d.st < n ∧ d.gl < n) (hb : ∀ i ∈ bs, i < n) : ∀ (w u : List Nat) (row : List Pr), row.length = n → (∀ j, j < n → Lst (row.getD j none) (From ds bs u j)) →
    (w.foldl (fun row x => rowBy row (letterTable n ds x)) row).length = n ∧ ∀ j, j < n → Lst ((w.foldl (fun row x => rowBy row (letterTable n ds x)) row).getD j none) (From ds bs (u ++ w) j)
  | [], u, row, h, h2 => by rw [List.append_nil]; exact ⟨h, h2⟩
  | x :: w, u, row, h, h2 => by
    obtain ⟨l1, l2⟩ := letterTable_least (x := x) hd
    have := priceFold hd hb w (u ++ [x]) (rowBy row (letterTable n ds x)) (rowBy_len h l1.row) (fun j hj => (rowBy_least (R := From ds bs u) (T := Wk ds [x]) h l1 h2 hj (fun k hk => l2 k j hk hj)).congr fun c => by
      rw [From.snoc]
      exact ⟨fun ⟨k, _, a, b, z⟩ => ⟨k, a, b, z⟩, fun ⟨k, a, b, z⟩ => ⟨k, From.room (fun d hq => (hd d hq).2) hb z.1, a, b, z⟩⟩)
    rw [List.append_assoc] at this
    exact this
theorem priceRow_least {n : Nat} {ds : List Dr} {bs : List Nat} (hd : ∀ d ∈ ds, d.st < n ∧ d.gl < n) (hb : ∀ i ∈ bs, i < n) (w : List Nat) : (priceRow n ds bs w).length = n ∧ ∀ j, j < n → Lst ((priceRow n ds bs w).getD j none) (From ds bs w j) :=
  priceFold hd hb w [] (row0 n bs) (row0_len n bs) (fun j hj => row0_least j hj)
theorem price_least {n : Nat} {ds : List Dr} {bs es : List Nat} (hd : ∀ d ∈ ds, d.st < n ∧ d.gl < n) (hb : ∀ i ∈ bs, i < n) (he : ∀ i ∈ es, i < n) (w : List Nat) : Lst (leastAt (priceRow n ds bs w) es) (Rd ds bs es w) := by
  obtain ⟨_, h⟩ := priceRow_least hd hb w
  refine (leastAt_least fun r hr => h r (he r hr)).congr fun c => ?_
  exact ⟨fun ⟨j, hj, i, hi, z⟩ => ⟨i, j, hi, hj, z⟩, fun ⟨i, j, hi, hj, z⟩ => ⟨j, hj, i, hi, z⟩⟩
/-! ### the law's own least -/
def tabInts (t : List (List Pr)) (bs es : List Nat) : List Int := bs.flatMap fun i => es.filterMap fun j => ent t i j
theorem mem_tabInts {t : List (List Pr)} {bs es : List Nat} {c : Int} : c ∈ tabInts t bs es ↔ ∃ i j, i ∈ bs ∧ j ∈ es ∧ ent t i j = some c := by
  unfold tabInts
  rw [List.mem_flatMap]
  constructor
  · rintro ⟨i, hi, h⟩
    obtain ⟨j, hj, e⟩ := List.mem_filterMap.mp h
    exact ⟨i, j, hi, hj, e⟩
  · rintro ⟨i, j, hi, hj, e⟩
    exact ⟨i, hi, List.mem_filterMap.mpr ⟨j, hj, e⟩⟩
theorem tab_none {n : Nat} {t : List (List Pr)} {ds : List Dr} {bs es w : List Nat} (hb : ∀ i ∈ bs, i < n) (he : ∀ i ∈ es, i < n) (h : ∀ i j, i < n → j < n → Lst (ent t i j) (Wk ds w i j)) (e : tabInts t bs es = []) : Lst none (Rd ds bs es w) :=
  .no fun c ⟨i, j, hi, hj, z⟩ => by
    have l := h i j (hb i hi) (he j hj)
    cases q : ent t i j with
    | none => rw [q] at l; exact l.1 rfl c z
    | some m =>
      have : m ∈ tabInts t bs es := mem_tabInts.mpr ⟨i, j, hi, hj, q⟩
      rw [e] at this
      cases this
theorem tab_some {n : Nat} {t : List (List Pr)} {ds : List Dr} {bs es w : List Nat} (hb : ∀ i ∈ bs, i < n) (he : ∀ i ∈ es, i < n) (h : ∀ i j, i < n → j < n → Lst (ent t i j) (Wk ds w i j)) {m : Int} (h1 : m ∈ tabInts t bs es) (h2 : ∀ y, y ∈ tabInts t bs es → m ≤ y) : Lst (some m) (Rd ds bs es w) := by
  obtain ⟨i, j, hi, hj, q⟩ := mem_tabInts.mp h1
  have l := h i j (hb i hi) (he j hj)
  rw [q] at l
  refine .one ⟨i, j, hi, hj, (l.2 m rfl).1⟩ fun c ⟨a, b, ha, hb', z⟩ => ?_
  have l' := h a b (hb a ha) (he b hb')
  cases q' : ent t a b with
  | none => rw [q'] at l'; exact (l'.1 rfl c z).elim
  | some y =>
    rw [q'] at l'
    have := h2 y (mem_tabInts.mpr ⟨a, b, ha, hb', q'⟩)
    have := (l'.2 y rfl).2 c z
    omega
/-- the law's own product -/
def lawStep (one other : List (List Pr)) (i j : Nat) (f : Pr) (k : Nat) : Pr :=
  match ent one i k, ent other k j with
  | some a, some b => (match f with
    | none => some (a + b)
    | some l => if a + b < l then some (a + b) else some l)
  | _, _ => f
def lawEnt (one other : List (List Pr)) (n i j : Nat) : Pr := (List.range n).foldl (lawStep one other i j) none
def lawProd (one other : List (List Pr)) (n : Nat) : List (List Pr) := (List.range n).map fun i => (List.range n).map fun j => lawEnt one other n i j
theorem lawStep_least {one other : List (List Pr)} {i j k : Nat} {f : Pr} {F A B : Int → Prop} (h : Lst f F) (ha : Lst (ent one i k) A) (hb : Lst (ent other k j) B) : Lst (lawStep one other i j f k) (fun c => F c ∨ ∃ a b, A a ∧ B b ∧ c = a + b) := by
  have e : lawStep one other i j f k = lesser f (both (ent one i k) (ent other k j)) := by
    unfold lawStep
    cases ent one i k with
    | none => cases f <;> rfl
    | some a =>
      cases ent other k j with
      | none => cases f <;> rfl
      | some b =>
        cases f with
        | none => rfl
        | some l =>
          show (if a + b < l then some (a + b) else some l) = if l ≤ a + b then some l else some (a + b)
          by_cases q : a + b < l
          · rw [if_pos q, if_neg (by omega)]
          · rw [if_neg q, if_pos (by omega)]
  rw [e]
  exact h.lesser (ha.both hb)
theorem lawFold {one other : List (List Pr)} {i j : Nat} {A B : Nat → Int → Prop} : ∀ (l : List Nat) (f : Pr) (F : Int → Prop), (∀ k ∈ l, Lst (ent one i k) (A k) ∧ Lst (ent other k j) (B k)) → Lst f F → Lst (l.foldl (lawStep one other i j) f) (fun c => F c ∨ ∃ k, k ∈ l ∧ ∃ a b, A k a ∧ B k b ∧ c = a + b)
  | [], f, F, _, h => h.congr fun c => ⟨.inl, fun z => z.elim id fun ⟨_, q, _⟩ => nomatch q⟩
  | r :: l, f, F, hr, h => by
    rw [List.foldl_cons]
    obtain ⟨r1, r2⟩ := hr r List.mem_cons_self
    refine (lawFold l _ _ (fun q hq => hr q (List.mem_cons_of_mem _ hq)) (lawStep_least h r1 r2)).congr fun c => ⟨fun z => ?_, fun z => ?_⟩
    · rcases z with (z | z) | ⟨q, hq, z⟩
      · exact .inl z
      · exact .inr ⟨r, List.mem_cons_self, z⟩
      · exact .inr ⟨q, List.mem_cons_of_mem _ hq, z⟩
    · rcases z with z | ⟨q, hq, z⟩
      · exact .inl (.inl z)
      · rcases List.mem_cons.mp hq with e | hq
        · subst e; exact .inl (.inr z)
        · exact .inr ⟨q, hq, z⟩
theorem lawProd_sq (one other : List (List Pr)) (n : Nat) : Sq n (lawProd one other n) := by
  refine ⟨by unfold lawProd; rw [List.length_map, List.length_range], fun r hr => ?_⟩
  obtain ⟨q, hq, e⟩ := List.mem_map.mp hr
  rw [← e, List.length_map, List.length_range]
theorem lawProd_eq {n : Nat} {ds : List Dr} (hd : ∀ d ∈ ds, d.st < n ∧ d.gl < n) (u v : List Nat) : lawProd (wordTable n ds u) (wordTable n ds v) n = wordTable n ds (u ++ v) := by
  obtain ⟨a1, a2⟩ := wordTable_least hd u
  obtain ⟨b1, b2⟩ := wordTable_least hd v
  obtain ⟨c1, c2⟩ := wordTable_least hd (u ++ v)
  refine (lawProd_sq _ _ n).ext c1 fun i j hi hj => ?_
  refine Lst.uniq ?_ (c2 i j hi hj)
  have e : ent (lawProd (wordTable n ds u) (wordTable n ds v) n) i j = lawEnt (wordTable n ds u) (wordTable n ds v) n i j := by
    show ((lawProd (wordTable n ds u) (wordTable n ds v) n).getD i []).getD j none = _
    unfold lawProd
    rw [getD_map _ _ _ _ (by rw [List.length_range]; exact hi), getD_map _ _ _ _ (by rw [List.length_range]; exact hj), List.getElem_range, List.getElem_range]
  rw [e]
  refine (lawFold (A := Wk ds u i) (B := fun k => Wk ds v k j) (List.range n) none (fun _ => False) (fun k hk => ⟨a2 i k hi (List.mem_range.mp hk), b2 k j (List.mem_range.mp hk) hj⟩) (.no fun _ z => z)).congr fun c => ?_
  rw [Wk.app]
  exact ⟨fun z => z.elim False.elim fun ⟨k, _, a, b, z⟩ => ⟨k, a, b, z⟩, fun ⟨k, a, b, z⟩ => .inr ⟨k, List.mem_range.mpr (Wk.room (fun d hq => (hd d hq).2) hi z.1), a, b, z⟩⟩

/-! ### tolls -/
def putI (ks : List Int) (k : Int) : List Int := if k ∈ ks then ks else ks ++ [k]
theorem mem_putI {ks : List Int} {k c : Int} : c ∈ putI ks k ↔ c ∈ ks ∨ c = k := by
  unfold putI
  split
  · rename_i h
    exact ⟨.inl, fun z => z.elim id fun e => e ▸ h⟩
  · rw [List.mem_append, List.mem_singleton]
/-- no toll twice, each from 0 to m -/
structure Gd (m : Int) (ks : List Int) : Prop where
  nd : ks.Nodup
  rg : ∀ k ∈ ks, 0 ≤ k ∧ k ≤ m
theorem Gd.nil (m : Int) : Gd m [] := ⟨.nil, fun _ h => nomatch h⟩
theorem Gd.mono {m m' : Int} {ks : List Int} (h : Gd m ks) (e : m ≤ m') : Gd m' ks := ⟨h.nd, fun k hk => ⟨(h.rg k hk).1, Int.le_trans (h.rg k hk).2 e⟩⟩
theorem Gd.put {m k : Int} {ks : List Int} (h : Gd m ks) (h0 : 0 ≤ k) (h1 : k ≤ m) : Gd m (putI ks k) := by
  refine ⟨?_, fun c hc => ?_⟩
  · unfold putI
    split
    · exact h.nd
    · rename_i hn
      rw [List.nodup_append]
      refine ⟨h.nd, by simp, fun a ha b hb e => ?_⟩
      rw [List.mem_singleton] at hb
      subst hb e
      exact hn ha
  · rcases mem_putI.mp hc with z | z
    · exact h.rg c z
    · subst z; exact ⟨h0, h1⟩
theorem nodup_bound : ∀ (m : Nat) (ks : List Int), ks.Nodup → (∀ k ∈ ks, 0 ≤ k ∧ k < (m : Int)) → ks.length ≤ m
  | 0, ks, _, h => by
    cases ks with
    | nil => exact Nat.le_refl _
    | cons a r =>
      have := h a List.mem_cons_self
      omega
  | m + 1, ks, hn, h => by
    have ih := nodup_bound m (ks.erase (m : Int)) (hn.erase _) (fun k hk => by
      have h1 := (hn.mem_erase_iff).mp hk
      have h2 := h k h1.2
      have h3 := h1.1
      omega)
    have := List.length_erase_add_one_le_or (ks := ks) (a := (m : Int))
    omega
where
  List.length_erase_add_one_le_or {ks : List Int} {a : Int} : ks.length ≤ (ks.erase a).length + 1 := by
    rw [List.length_erase]
    split <;> omega
theorem Gd.len {m : Nat} {ks : List Int} (h : Gd (m : Int) ks) : ks.length ≤ m + 1 :=
  nodup_bound (m + 1) ks h.nd fun k hk => ⟨(h.rg k hk).1, by have := (h.rg k hk).2; omega⟩
def putAt (th : List (List Int)) (g : Nat) (k : Int) : List (List Int) := th.set g (putI (th.getD g []) k)
theorem mem_putAt {th : List (List Int)} {g : Nat} {k : Int} (hg : g < th.length) {j : Nat} {c : Int} : c ∈ (putAt th g k).getD j [] ↔ c ∈ th.getD j [] ∨ (g = j ∧ c = k) := by
  unfold putAt
  by_cases e : g = j
  · subst e
    rw [getD_set_self _ _ _ _ hg, mem_putI]
    exact ⟨fun z => z.imp_right fun e => ⟨rfl, e⟩, fun z => z.imp_right (·.2)⟩
  · rw [getD_set_ne _ _ _ _ _ e]
    exact ⟨.inl, fun z => z.elim id fun q => absurd q.1 e⟩
theorem putAt_len {th : List (List Int)} {g : Nat} {k : Int} : (putAt th g k).length = th.length := by unfold putAt; rw [List.length_set]
/-- every dict is good -/
def Gds (m : Int) (th : List (List Int)) : Prop := ∀ j, Gd m (th.getD j [])
theorem Gds.put {m k : Int} {th : List (List Int)} {g : Nat} (h : Gds m th) (h0 : 0 ≤ k) (h1 : k ≤ m) : Gds m (putAt th g k) := fun j => by
  unfold putAt
  by_cases e : g = j
  · subst e
    by_cases hg : g < th.length
    · rw [getD_set_self _ _ _ _ hg]; exact (h g).put h0 h1
    · rw [List.getD_eq_getElem?_getD, List.getElem?_eq_none (by rw [List.length_set]; omega)]; exact .nil m
  · rw [getD_set_ne _ _ _ _ _ e]; exact h j
theorem Gds.mono {m m' : Int} {th : List (List Int)} (h : Gds m th) (e : m ≤ m') : Gds m' th := fun j => (h j).mono e
theorem Gds.blank (m : Int) (n : Nat) : Gds m (List.replicate n []) := fun j => by
  rw [getD_rep]
  split <;> exact .nil m
def tInner (d : Dr) (th : List (List Int)) (s : Int) : List (List Int) := putAt th d.gl (s + d.co)
def tStep (x : Nat) (here th : List (List Int)) (d : Dr) : List (List Int) := if d.sg = x then (here.getD d.st []).foldl (tInner d) th else th
def tollsOn (n : Nat) (ds : List Dr) (x : Nat) (here : List (List Int)) : List (List Int) := ds.foldl (tStep x here) (List.replicate n [])
theorem tInnerFold {d : Dr} : ∀ (l : List Int) (th : List (List Int)), d.gl < th.length → (l.foldl (tInner d) th).length = th.length ∧ ∀ j c, c ∈ (l.foldl (tInner d) th).getD j [] ↔ c ∈ th.getD j [] ∨ (d.gl = j ∧ ∃ s, s ∈ l ∧ c = s + d.co)
  | [], th, hg => ⟨rfl, fun j c => ⟨.inl, fun z => z.elim id fun ⟨_, _, q, _⟩ => nomatch q⟩⟩
  | s :: l, th, hg => by
    rw [List.foldl_cons]
    have hl : (tInner d th s).length = th.length := putAt_len
    obtain ⟨a, b⟩ := tInnerFold l (tInner d th s) (by rw [hl]; exact hg)
    refine ⟨by rw [a, hl], fun j c => ?_⟩
    rw [b]
    unfold tInner
    rw [mem_putAt hg]
    constructor
    · rintro ((z | z) | ⟨e, q, hq, z⟩)
      · exact .inl z
      · exact .inr ⟨z.1, s, List.mem_cons_self, z.2⟩
      · exact .inr ⟨e, q, List.mem_cons_of_mem _ hq, z⟩
    · rintro (z | ⟨e, q, hq, z⟩)
      · exact .inl (.inl z)
      · rcases List.mem_cons.mp hq with h | h
        · subst h; exact .inl (.inr ⟨e, z⟩)
        · exact .inr ⟨e, q, h, z⟩
theorem tStepFold {x : Nat} {here : List (List Int)} : ∀ (ds : List Dr) (th : List (List Int)), (∀ d ∈ ds, d.gl < th.length) → (ds.foldl (tStep x here) th).length = th.length ∧ ∀ j c, c ∈ (ds.foldl (tStep x here) th).getD j [] ↔ c ∈ th.getD j [] ∨ ∃ d s, d ∈ ds ∧ d.sg = x ∧ d.gl = j ∧ s ∈ here.getD d.st [] ∧ c = s + d.co
  | [], th, hg => ⟨rfl, fun j c => ⟨.inl, fun z => z.elim id fun ⟨_, _, q, _⟩ => nomatch q⟩⟩
  | d :: ds, th, hg => by
    rw [List.foldl_cons]
    have h1 : (tStep x here th d).length = th.length ∧ ∀ j c, c ∈ (tStep x here th d).getD j [] ↔ c ∈ th.getD j [] ∨ (d.sg = x ∧ d.gl = j ∧ ∃ s, s ∈ here.getD d.st [] ∧ c = s + d.co) := by
      unfold tStep
      split
      · rename_i e
        obtain ⟨a, b⟩ := tInnerFold (d := d) (here.getD d.st []) th (hg d List.mem_cons_self)
        refine ⟨a, fun j c => ?_⟩
        rw [b]
        exact ⟨fun z => z.imp_right fun q => ⟨e, q.1, q.2⟩, fun z => z.imp_right fun q => ⟨q.2.1, q.2.2⟩⟩
      · rename_i e
        exact ⟨rfl, fun j c => ⟨.inl, fun z => z.elim id fun q => absurd q.1 e⟩⟩
    obtain ⟨a, b⟩ := tStepFold ds (tStep x here th d) (fun q hq => by rw [h1.1]; exact hg q (List.mem_cons_of_mem _ hq))
    refine ⟨by rw [a, h1.1], fun j c => ?_⟩
    rw [b, h1.2]
    constructor
    · rintro ((z | ⟨e1, e2, s, hs, e⟩) | ⟨q, s, hq, z⟩)
      · exact .inl z
      · exact .inr ⟨d, s, List.mem_cons_self, e1, e2, hs, e⟩
      · exact .inr ⟨q, s, List.mem_cons_of_mem _ hq, z⟩
    · rintro (z | ⟨q, s, hq, z⟩)
      · exact .inl (.inl z)
      · rcases List.mem_cons.mp hq with h | h
        · subst h; exact .inl (.inr ⟨z.1, z.2.1, s, z.2.2.1, z.2.2.2⟩)
        · exact .inr ⟨q, s, h, z⟩
theorem tInner_gds {d : Dr} {m : Int} (h0 : 0 ≤ d.co) (h3 : d.co ≤ 3) : ∀ (l : List Int) (th : List (List Int)), (∀ s ∈ l, 0 ≤ s ∧ s ≤ m) → Gds (m + 3) th → Gds (m + 3) (l.foldl (tInner d) th)
  | [], th, _, h => h
  | s :: l, th, hs, h => by
    rw [List.foldl_cons]
    have := hs s List.mem_cons_self
    exact tInner_gds h0 h3 l _ (fun q hq => hs q (List.mem_cons_of_mem _ hq)) (h.put (by omega) (by omega))
theorem tStep_gds {x : Nat} {here : List (List Int)} {m : Int} (hh : Gds m here) : ∀ (ds : List Dr) (th : List (List Int)), (∀ d ∈ ds, 0 ≤ d.co ∧ d.co ≤ 3) → Gds (m + 3) th → Gds (m + 3) (ds.foldl (tStep x here) th)
  | [], th, _, h => h
  | d :: ds, th, hd, h => by
    rw [List.foldl_cons]
    refine tStep_gds hh ds _ (fun q hq => hd q (List.mem_cons_of_mem _ hq)) ?_
    unfold tStep
    split
    · obtain ⟨a, b⟩ := hd d List.mem_cons_self
      exact tInner_gds a b _ _ (hh d.st).rg h
    · exact h
/-- how the dicts stand behind a word -/
structure TW (n : Nat) (ds : List Dr) (bs w : List Nat) (here : List (List Int)) : Prop where
  len : here.length = n
  gds : Gds (3 * w.length) here
  mem : ∀ j c, c ∈ here.getD j [] ↔ From ds bs w j c
theorem TW.on {n x : Nat} {ds : List Dr} {bs w : List Nat} {here : List (List Int)} (h : TW n ds bs w here) (hd : ∀ d ∈ ds, d.st < n ∧ d.gl < n) (hc : ∀ d ∈ ds, 0 ≤ d.co ∧ d.co ≤ 3) : TW n ds bs (w ++ [x]) (tollsOn n ds x here) := by
  obtain ⟨a, b⟩ := tStepFold (x := x) (here := here) ds (List.replicate n []) (fun d hq => by rw [List.length_replicate]; exact (hd d hq).2)
  refine ⟨by unfold tollsOn; rw [a, List.length_replicate], ?_, fun j c => ?_⟩
  · have := tStep_gds (x := x) h.gds ds (List.replicate n []) hc (.blank _ n)
    have e : (3 * ((w ++ [x]).length : Int)) = 3 * (w.length : Int) + 3 := by rw [List.length_append, List.length_singleton]; omega
    rw [e]
    exact this
  · unfold tollsOn
    rw [b]
    have e0 : ¬ c ∈ (List.replicate n ([] : List Int)).getD j [] := by
      rw [getD_rep]; split <;> simp
    constructor
    · rintro (z | ⟨d, s, hq, e1, e2, hs, e⟩)
      · exact absurd z e0
      · obtain ⟨i, hi, hw⟩ := (h.mem _ _).mp hs
        exact ⟨i, hi, Wk.snoc.mpr ⟨d, s, hq, e1, e2, hw, e⟩⟩
    · rintro ⟨i, hi, hw⟩
      obtain ⟨d, s, hq, e1, e2, hs, e⟩ := Wk.snoc.mp hw
      exact .inr ⟨d, s, hq, e1, e2, (h.mem _ _).mpr ⟨i, hi, hs⟩, e⟩
def tolls0 (n : Nat) (bs : List Nat) : List (List Int) := bs.foldl (fun th r => putAt th r 0) (List.replicate n [])
theorem tolls0Fold : ∀ (bs : List Nat) (th : List (List Int)), (∀ r ∈ bs, r < th.length) → Gds 0 th → (bs.foldl (fun th r => putAt th r 0) th).length = th.length ∧ Gds 0 (bs.foldl (fun th r => putAt th r 0) th) ∧ ∀ j c, c ∈ (bs.foldl (fun th r => putAt th r 0) th).getD j [] ↔ c ∈ th.getD j [] ∨ (j ∈ bs ∧ c = 0)
  | [], th, _, h => ⟨rfl, h, fun j c => ⟨.inl, fun z => z.elim id fun q => nomatch q.1⟩⟩
  | r :: bs, th, hr, h => by
    rw [List.foldl_cons]
    obtain ⟨a, b, d⟩ := tolls0Fold bs (putAt th r 0) (fun q hq => by rw [putAt_len]; exact hr q (List.mem_cons_of_mem _ hq)) (h.put (by omega) (by omega))
    refine ⟨by rw [a, putAt_len], b, fun j c => ?_⟩
    rw [d, mem_putAt (hr r List.mem_cons_self)]
    constructor
    · rintro ((z | z) | z)
      · exact .inl z
      · exact .inr ⟨z.1 ▸ List.mem_cons_self, z.2⟩
      · exact .inr ⟨List.mem_cons_of_mem _ z.1, z.2⟩
    · rintro (z | ⟨z, e⟩)
      · exact .inl (.inl z)
      · rcases List.mem_cons.mp z with q | q
        · exact .inl (.inr ⟨q.symm, e⟩)
        · exact .inr ⟨q, e⟩
theorem TW.start {n : Nat} {ds : List Dr} {bs : List Nat} (hb : ∀ i ∈ bs, i < n) : TW n ds bs [] (tolls0 n bs) := by
  obtain ⟨a, b, d⟩ := tolls0Fold bs (List.replicate n []) (fun r hr => by rw [List.length_replicate]; exact hb r hr) (.blank 0 n)
  refine ⟨by unfold tolls0; rw [a, List.length_replicate], b.mono (by simp), fun j c => ?_⟩
  unfold tolls0
  rw [d]
  have e0 : ¬ c ∈ (List.replicate n ([] : List Int)).getD j [] := by
    rw [getD_rep]; split <;> simp
  constructor
  · rintro (z | z)
    · exact absurd z e0
    · exact ⟨j, z.1, rfl, z.2⟩
  · rintro ⟨i, hi, e, z⟩
    exact .inr ⟨e ▸ hi, z⟩
def updI (f ks : List Int) : List Int := ks.foldl putI f
theorem mem_updI {c : Int} : ∀ {ks f : List Int}, c ∈ updI f ks ↔ c ∈ f ∨ c ∈ ks
  | [], f => ⟨.inl, fun z => z.elim id fun q => nomatch q⟩
  | k :: ks, f => by
    show c ∈ updI (putI f k) ks ↔ _
    rw [mem_updI, mem_putI, List.mem_cons]
    exact ⟨fun z => z.elim (fun z => z.imp_right .inl) fun z => .inr (.inr z), fun z => z.elim (fun z => .inl (.inl z)) fun z => z.elim (fun z => .inl (.inr z)) .inr⟩
theorem Gd.upd {m : Int} : ∀ {ks f : List Int}, Gd m f → (∀ k ∈ ks, 0 ≤ k ∧ k ≤ m) → Gd m (updI f ks)
  | [], f, h, _ => h
  | k :: ks, f, h, hk => Gd.upd (f := putI f k) (h.put (hk k List.mem_cons_self).1 (hk k List.mem_cons_self).2) fun q hq => hk q (List.mem_cons_of_mem _ hq)
def tollsFound (here : List (List Int)) (es : List Nat) : List Int := es.foldl (fun f r => updI f (here.getD r [])) []
theorem foundFold {here : List (List Int)} {m : Int} (hh : Gds m here) : ∀ (es : List Nat) (f : List Int), Gd m f → Gd m (es.foldl (fun f r => updI f (here.getD r [])) f) ∧ ∀ c, c ∈ es.foldl (fun f r => updI f (here.getD r [])) f ↔ c ∈ f ∨ ∃ r, r ∈ es ∧ c ∈ here.getD r []
  | [], f, h => ⟨h, fun c => ⟨.inl, fun z => z.elim id fun ⟨_, q, _⟩ => nomatch q⟩⟩
  | r :: es, f, h => by
    rw [List.foldl_cons]
    obtain ⟨a, b⟩ := foundFold hh es (updI f (here.getD r [])) (h.upd (hh r).rg)
    refine ⟨a, fun c => ?_⟩
    rw [b, mem_updI]
    constructor
    · rintro ((z | z) | ⟨q, hq, z⟩)
      · exact .inl z
      · exact .inr ⟨r, List.mem_cons_self, z⟩
      · exact .inr ⟨q, List.mem_cons_of_mem _ hq, z⟩
    · rintro (z | ⟨q, hq, z⟩)
      · exact .inl (.inl z)
      · rcases List.mem_cons.mp hq with e | hq
        · subst e; exact .inl (.inr z)
        · exact .inr ⟨q, hq, z⟩
theorem tollsFound_ok {n : Nat} {ds : List Dr} {bs es w : List Nat} {here : List (List Int)} (h : TW n ds bs w here) : Gd (3 * w.length) (tollsFound here es) ∧ ∀ c, c ∈ tollsFound here es ↔ Rd ds bs es w c := by
  obtain ⟨a, b⟩ := foundFold h.gds es [] (.nil _)
  refine ⟨a, fun c => ?_⟩
  unfold tollsFound
  rw [b]
  constructor
  · rintro (z | ⟨r, hr, z⟩)
    · cases z
    · obtain ⟨i, hi, z⟩ := (h.mem _ _).mp z
      exact ⟨i, r, hi, hr, z⟩
  · rintro ⟨i, j, hi, hj, z⟩
    exact .inr ⟨j, hj, (h.mem _ _).mpr ⟨i, hi, z⟩⟩
/-- a rising list of the tolls of the roads: its first is the least -/
theorem head_least {l : List Int} {S : Int → Prop} (hs : l.Pairwise (· ≤ ·)) (hm : ∀ c, c ∈ l ↔ S c) : Lst l.head? S := by
  cases l with
  | nil => exact .no fun c hc => nomatch (hm c).mpr hc
  | cons a r =>
    refine .one ((hm a).mp List.mem_cons_self) fun c hc => ?_
    rcases List.mem_cons.mp ((hm c).mpr hc) with e | h
    · exact Int.le_of_eq e.symm
    · exact (List.pairwise_cons.mp hs).1 c h

/-! ### roads -/
/-- walks by places -/
def Ch (ds : List Dr) : List Nat → List Nat → Nat → Nat → Int → Prop
  | [], [], i, j, c => i = j ∧ c = 0
  | x :: w, p :: ps, i, j, c => ∃ d, ds[p]? = some d ∧ d.sg = x ∧ d.st = i ∧ ∃ c', Ch ds w ps d.gl j c' ∧ c = d.co + c'
  | _, _, _, _, _ => False
theorem Ch.len {ds : List Dr} : ∀ {w ps : List Nat} {i j : Nat} {c : Int}, Ch ds w ps i j c → ps.length = w.length
  | [], [], _, _, _, _ => rfl
  | x :: w, p :: ps, _, _, _, ⟨_, _, _, _, _, h, _⟩ => by rw [List.length_cons, List.length_cons, Ch.len h]
  | [], p :: ps, _, _, _, h => h.elim
  | x :: w, [], _, _, _, h => h.elim
abbrev Stn := Option (Int × Option Nat)
def sStep (x : Nat) (here : List Stn) (th : List Stn) (p : Nat) (d : Dr) : List Stn :=
  if d.sg = x then (match here.getD d.st none with
    | none => th
    | some (a, _) => (match th.getD d.gl none with
      | none => th.set d.gl (some (a + d.co, some p))
      | some (b, _) => if a + d.co < b then th.set d.gl (some (a + d.co, some p)) else th)) else th
def sFold (x : Nat) (here : List Stn) : List Dr → Nat → List Stn → List Stn
  | [], _, th => th
  | d :: r, p, th => sFold x here r (p + 1) (sStep x here th p d)
def stepsOn (n : Nat) (ds : List Dr) (x : Nat) (here : List Stn) : List Stn := sFold x here ds 0 (List.replicate n none)
/-- what stands at a room comes by a door from what stood -/
def Came (ds : List Dr) (x : Nat) (here : List Stn) (j : Nat) (s : Stn) : Prop := ∀ c q, s = some (c, q) → ∃ p d a q', q = some p ∧ ds[p]? = some d ∧ d.sg = x ∧ d.gl = j ∧ here.getD d.st none = some (a, q') ∧ c = a + d.co
theorem sStep_len {x : Nat} {here th : List Stn} {p : Nat} {d : Dr} : (sStep x here th p d).length = th.length := by
  unfold sStep
  split
  · split
    · rfl
    · split
      · rw [List.length_set]
      · split
        · rw [List.length_set]
        · rfl
  · rfl
theorem sStep_ok {ds : List Dr} {x : Nat} {here th : List Stn} {p : Nat} {d : Dr} {F : Nat → Int → Prop} {Hf : Nat → Int → Prop} (hp : ds[p]? = some d) (hg : d.gl < th.length) (hh : Lst ((here.getD d.st none).map (·.1)) (Hf d.st))
    {j : Nat} (h1 : Lst ((th.getD j none).map (·.1)) (F j)) (h2 : Came ds x here j (th.getD j none)) :
    Lst (((sStep x here th p d).getD j none).map (·.1)) (fun c => F j c ∨ (d.sg = x ∧ d.gl = j ∧ ∃ a, Hf d.st a ∧ c = a + d.co)) ∧ Came ds x here j ((sStep x here th p d).getD j none) := by
  have same : (¬ (d.sg = x ∧ d.gl = j ∧ ∃ a, Hf d.st a)) → Lst ((th.getD j none).map (·.1)) (fun c => F j c ∨ (d.sg = x ∧ d.gl = j ∧ ∃ a, Hf d.st a ∧ c = a + d.co)) := fun hn =>
    h1.congr fun c => ⟨.inl, fun z => z.elim id fun ⟨q1, q2, a, q3, _⟩ => absurd ⟨q1, q2, a, q3⟩ hn⟩
  unfold sStep
  split
  · rename_i hx
    split
    · rename_i hn
      rw [hn] at hh
      exact ⟨same fun ⟨_, _, a, ha⟩ => hh.1 rfl a ha, h2⟩
    · rename_i a q ha
      rw [ha] at hh
      obtain ⟨ha1, ha2⟩ := hh.2 a rfl
      have came : Came ds x here d.gl (some (a + d.co, some p)) := fun c q' e => by
        cases e
        exact ⟨p, d, a, q, rfl, hp, hx, rfl, ha, rfl⟩
      split
      · rename_i hn
        by_cases hj : d.gl = j
        · subst hj
          rw [getD_set_self _ _ _ _ hg]
          rw [hn] at h1
          refine ⟨.one (.inr ⟨hx, rfl, a, ha1, rfl⟩) fun c z => ?_, came⟩
          rcases z with z | ⟨_, _, a', z, e⟩
          · exact (h1.1 rfl c z).elim
          · have := ha2 a' z; show a + d.co ≤ c; omega
        · rw [getD_set_ne _ _ _ _ _ hj]
          exact ⟨same fun z => hj z.2.1, h2⟩
      · rename_i b q2 hb
        split
        · rename_i lt
          by_cases hj : d.gl = j
          · subst hj
            rw [getD_set_self _ _ _ _ hg]
            rw [hb] at h1
            obtain ⟨hb1, hb2⟩ := h1.2 b rfl
            refine ⟨.one (.inr ⟨hx, rfl, a, ha1, rfl⟩) fun c z => ?_, came⟩
            rcases z with z | ⟨_, _, a', z, e⟩
            · have q := hb2 c z
              have q : b ≤ c := q
              show a + d.co ≤ c; omega
            · have := ha2 a' z; show a + d.co ≤ c; omega
          · rw [getD_set_ne _ _ _ _ _ hj]
            exact ⟨same fun z => hj z.2.1, h2⟩
        · rename_i nlt
          refine ⟨?_, h2⟩
          by_cases hj : d.gl = j
          · subst hj
            rw [hb] at h1 ⊢
            obtain ⟨hb1, hb2⟩ := h1.2 b rfl
            refine .one (.inl hb1) fun c z => ?_
            rcases z with z | ⟨_, _, a', z, e⟩
            · exact hb2 c z
            · have := ha2 a' z; show b ≤ c; omega
          · exact same fun z => hj z.2.1
  · rename_i hx
    exact ⟨same fun z => hx z.1, h2⟩
theorem sFold_ok {ds : List Dr} {x : Nat} {here : List Stn} {Hf : Nat → Int → Prop} {n : Nat} (hd : ∀ d ∈ ds, d.st < n ∧ d.gl < n) (hh : ∀ i, i < n → Lst ((here.getD i none).map (·.1)) (Hf i)) : ∀ (l : List Dr) (p : Nat) (th : List Stn) (F : Nat → Int → Prop), ds.drop p = l → th.length = n →
    (∀ j, Lst ((th.getD j none).map (·.1)) (F j) ∧ Came ds x here j (th.getD j none)) →
    (sFold x here l p th).length = n ∧ ∀ j, Lst (((sFold x here l p th).getD j none).map (·.1)) (fun c => F j c ∨ ∃ d, d ∈ l ∧ d.sg = x ∧ d.gl = j ∧ ∃ a, Hf d.st a ∧ c = a + d.co) ∧ Came ds x here j ((sFold x here l p th).getD j none)
  | [], p, th, F, _, hl, h => ⟨hl, fun j => ⟨(h j).1.congr fun c => ⟨.inl, fun z => z.elim id fun ⟨_, q, _⟩ => nomatch q⟩, (h j).2⟩⟩
  | d :: l, p, th, F, e, hl, h => by
    have hp : ds[p]? = some d := by
      have := congrArg (·[0]?) e
      simpa [List.getElem?_drop] using this
    have hmem : d ∈ ds := List.mem_of_getElem? hp
    have e2 : ds.drop (p + 1) = l := by rw [← List.drop_drop, e]; rfl
    obtain ⟨h3, h4⟩ := hd d hmem
    obtain ⟨a, b⟩ := sFold_ok hd hh l (p + 1) (sStep x here th p d) (fun j c => F j c ∨ (d.sg = x ∧ d.gl = j ∧ ∃ a, Hf d.st a ∧ c = a + d.co)) e2 (by rw [sStep_len, hl]) (fun j => sStep_ok hp (by rw [hl]; exact h4) (hh _ h3) (h j).1 (h j).2)
    refine ⟨a, fun j => ⟨(b j).1.congr fun c => ⟨fun z => ?_, fun z => ?_⟩, (b j).2⟩⟩
    · rcases z with (z | z) | ⟨q, hq, z⟩
      · exact .inl z
      · exact .inr ⟨d, List.mem_cons_self, z⟩
      · exact .inr ⟨q, List.mem_cons_of_mem _ hq, z⟩
    · rcases z with z | ⟨q, hq, z⟩
      · exact .inl (.inl z)
      · rcases List.mem_cons.mp hq with e | hq
        · subst e; exact .inl (.inr z)
        · exact .inr ⟨q, hq, z⟩
/-- how the rooms stand behind a word -/
structure SW (n : Nat) (ds : List Dr) (bs w : List Nat) (here : List Stn) : Prop where
  len : here.length = n
  least : ∀ j, j < n → Lst ((here.getD j none).map (·.1)) (From ds bs w j)
def stand0 (n : Nat) (bs : List Nat) : List Stn := (List.range n).map fun r => if r ∈ bs then some (0, none) else none
theorem SW.start {n : Nat} {ds : List Dr} {bs : List Nat} : SW n ds bs [] (stand0 n bs) := by
  refine ⟨by unfold stand0; rw [List.length_map, List.length_range], fun j hj => ?_⟩
  unfold stand0
  rw [getD_map _ _ _ _ (by rw [List.length_range]; exact hj), List.getElem_range]
  split
  · rename_i h
    exact .one ⟨j, h, rfl, rfl⟩ fun c ⟨i, _, _, e⟩ => Int.le_of_eq e.symm
  · rename_i h
    exact .no fun c ⟨i, hi, e, _⟩ => h (e ▸ hi)
theorem stand0_at {n : Nat} {bs : List Nat} {r : Nat} {c : Int} {q : Option Nat} (h : (stand0 n bs).getD r none = some (c, q)) : r ∈ bs ∧ c = 0 := by
  unfold stand0 at h
  by_cases hr : r < n
  · rw [getD_map _ _ _ _ (by rw [List.length_range]; exact hr), List.getElem_range] at h
    split at h
    · rename_i hb
      cases h
      exact ⟨hb, rfl⟩
    · cases h
  · rw [List.getD_eq_getElem?_getD, List.getElem?_eq_none (by rw [List.length_map, List.length_range]; omega)] at h
    cases h
theorem SW.on {n x : Nat} {ds : List Dr} {bs w : List Nat} {here : List Stn} (h : SW n ds bs w here) (hd : ∀ d ∈ ds, d.st < n ∧ d.gl < n) : SW n ds bs (w ++ [x]) (stepsOn n ds x here) ∧ ∀ j, Came ds x here j ((stepsOn n ds x here).getD j none) := by
  obtain ⟨a, b⟩ := sFold_ok (x := x) hd h.least ds 0 (List.replicate n none) (fun _ _ => False) rfl List.length_replicate (fun j => by
    rw [getD_rep]
    have e : (if j < n then (none : Stn) else none) = none := by split <;> rfl
    rw [e]
    exact ⟨.no fun _ z => z, fun c q e => nomatch e⟩)
  refine ⟨⟨a, fun j hj => (b j).1.congr fun c => ?_⟩, fun j => (b j).2⟩
  constructor
  · rintro (z | ⟨d, hq, e1, e2, s, ⟨i, hi, hs⟩, e⟩)
    · exact z.elim
    · exact ⟨i, hi, Wk.snoc.mpr ⟨d, s, hq, e1, e2, hs, e⟩⟩
  · rintro ⟨i, hi, hw⟩
    obtain ⟨d, s, hq, e1, e2, hs, e⟩ := Wk.snoc.mp hw
    exact .inr ⟨d, hq, e1, e2, s, ⟨i, hi, hs⟩, e⟩
/-- the rooms stand by stand -/
def stands (n : Nat) (ds : List Dr) (bs : List Nat) : List Nat → List (List Stn)
  | w => w.foldl (fun S x => S ++ [stepsOn n ds x (S.getLastD [])]) [stand0 n bs]
end LT
set_option linter.all false
namespace LT
/-- the rooms' stands, letter by letter -/
structure Sts (n : Nat) (ds : List Dr) (bs w : List Nat) (S : List (List Stn)) : Prop where
  len : S.length = w.length + 1
  zero : S[0]? = some (stand0 n bs)
  next : ∀ (k c : Nat), w[k]? = some c → ∃ h, S[k]? = some h ∧ S[k + 1]? = some (stepsOn n ds c h)
theorem Sts.start (n : Nat) (ds : List Dr) (bs : List Nat) : Sts n ds bs [] [stand0 n bs] :=
  ⟨rfl, rfl, fun k c h => by simp at h⟩
theorem Sts.snoc {n c : Nat} {ds : List Dr} {bs w : List Nat} {S : List (List Stn)} {h : List Stn} (s : Sts n ds bs w S) (hl : S[w.length]? = some h) : Sts n ds bs (w ++ [c]) (S ++ [stepsOn n ds c h]) := by
  refine ⟨by rw [List.length_append, List.length_append, s.len]; rfl, ?_, fun k d hk => ?_⟩
  · rw [List.getElem?_append_left (by rw [s.len]; omega)]
    exact s.zero
  · by_cases e : k < w.length
    · rw [List.getElem?_append_left e] at hk
      obtain ⟨g, h1, h2⟩ := s.next k d hk
      refine ⟨g, ?_, ?_⟩
      · rw [List.getElem?_append_left (by rw [s.len]; omega)]; exact h1
      · rw [List.getElem?_append_left (by rw [s.len]; omega)]; exact h2
    · have hk' : k = w.length := by
        have := (List.getElem?_eq_some_iff.mp hk).1
        rw [List.length_append, List.length_singleton] at this
        omega
      subst hk'
      rw [List.getElem?_append_right (Nat.le_refl _), Nat.sub_self] at hk
      have hd : c = d := Option.some.inj hk
      subst hd
      refine ⟨h, ?_, ?_⟩
      · rw [List.getElem?_append_left (by rw [s.len]; omega)]; exact hl
      · rw [List.getElem?_append_right (by rw [s.len]; exact Nat.le_refl _), s.len, Nat.sub_self]
        rfl
theorem Sts.sw {n : Nat} {ds : List Dr} {bs w : List Nat} {S : List (List Stn)} (s : Sts n ds bs w S) (hd : ∀ d ∈ ds, d.st < n ∧ d.gl < n) : ∀ (k : Nat) (h : List Stn), S[k]? = some h → SW n ds bs (w.take k) h
  | 0, h, e => by
    have : stand0 n bs = h := Option.some.inj (s.zero.symm.trans e)
    subst this
    rw [List.take_zero]
    exact SW.start
  | k + 1, h, e => by
    have hk : k < w.length := by
      have := (List.getElem?_eq_some_iff.mp e).1
      rw [s.len] at this
      omega
    obtain ⟨g, h1, h2⟩ := s.next k w[k] (List.getElem?_eq_getElem hk)
    have : stepsOn n ds w[k] g = h := Option.some.inj (h2.symm.trans e)
    subst this
    rw [List.take_add_one, List.getElem?_eq_getElem hk]
    exact ((Sts.sw s hd k g h1).on hd).1
/-- one step back -/
theorem Sts.back {n : Nat} {ds : List Dr} {bs w : List Nat} {S : List (List Stn)} (s : Sts n ds bs w S) (hd : ∀ d ∈ ds, d.st < n ∧ d.gl < n) {k : Nat} {h : List Stn} (e : S[k + 1]? = some h) {r : Nat} {a : Int} {q : Option Nat} (hr : h.getD r none = some (a, q)) :
    ∃ p d g a' q', q = some p ∧ ds[p]? = some d ∧ w[k]? = some d.sg ∧ d.gl = r ∧ S[k]? = some g ∧ g.getD d.st none = some (a', q') ∧ a = a' + d.co := by
  have hk : k < w.length := by
    have := (List.getElem?_eq_some_iff.mp e).1
    rw [s.len] at this
    omega
  obtain ⟨g, h1, h2⟩ := s.next k w[k] (List.getElem?_eq_getElem hk)
  have : stepsOn n ds w[k] g = h := Option.some.inj (h2.symm.trans e)
  subst this
  obtain ⟨p, d, a', q', e1, e2, e3, e4, e5, e6⟩ := ((Sts.sw s hd k g h1).on (x := w[k]) hd).2 r a q hr
  exact ⟨p, d, g, a', q', e1, e2, by rw [List.getElem?_eq_getElem hk, e3], e4, h1, e5, e6⟩
theorem getD_some {α : Type} {l : List (Option α)} {i : Nat} {x : α} (h : l.getD i none = some x) : i < l.length ∧ l[i]? = some (some x) := by
  by_cases hi : i < l.length
  · rw [getD_at _ _ _ hi] at h
    exact ⟨hi, by rw [List.getElem?_eq_getElem hi, h]⟩
  · rw [List.getD_eq_getElem?_getD, List.getElem?_eq_none (by omega)] at h
    cases h
end LT
set_option linter.all false
namespace LT
/-- the prices that stand in a table at some rooms -/
def rowSome (t : List (List Pr)) (es : List Nat) (r : Nat) : List Int := es.filterMap fun g => ent t r g
def allSome (t : List (List Pr)) (bs es : List Nat) : List Int := bs.flatMap (rowSome t es)
theorem mem_allSome {t : List (List Pr)} {bs es : List Nat} {c : Int} : c ∈ allSome t bs es ↔ ∃ r g, r ∈ bs ∧ g ∈ es ∧ ent t r g = some c := by
  unfold allSome rowSome
  rw [List.mem_flatMap]
  constructor
  · rintro ⟨r, hr, h⟩
    obtain ⟨g, hg, e⟩ := List.mem_filterMap.mp h
    exact ⟨r, g, hr, hg, e⟩
  · rintro ⟨r, g, hr, hg, e⟩
    exact ⟨r, hr, List.mem_filterMap.mpr ⟨g, hg, e⟩⟩
theorem allSome_snoc (t : List (List Pr)) (bs es : List Nat) (r : Nat) : allSome t (bs ++ [r]) es = allSome t bs es ++ rowSome t es r := by
  unfold allSome
  rw [List.flatMap_append]
  simp
theorem rowSome_snoc (t : List (List Pr)) (es : List Nat) (r g : Nat) : rowSome t (es ++ [g]) r = rowSome t es r ++ (match ent t r g with | none => [] | some c => [c]) := by
  unfold rowSome
  rw [List.filterMap_append]
  cases h : ent t r g with
  | none => rw [List.filterMap_cons_none h]; rfl
  | some c => rw [List.filterMap_cons_some h]; rfl
theorem rowSome_len (t : List (List Pr)) (es : List Nat) (r : Nat) : (rowSome t es r).length ≤ es.length := List.length_filterMap_le _ _
theorem allSome_len (t : List (List Pr)) (es : List Nat) : ∀ bs : List Nat, (allSome t bs es).length ≤ bs.length * es.length
  | [] => by simp [allSome]
  | r :: bs => by
    have h1 := allSome_len t es bs
    have h2 := rowSome_len t es r
    have e : allSome t (r :: bs) es = rowSome t es r ++ allSome t bs es := by simp [allSome]
    rw [e, List.length_append, List.length_cons, Nat.succ_mul]
    omega
/-- the least of them is the least price -/
theorem allSome_least {n : Nat} {ds : List Dr} {bs es w : List Nat} (hd : ∀ d ∈ ds, d.st < n ∧ d.gl < n) (hb : ∀ i ∈ bs, i < n) (he : ∀ i ∈ es, i < n) {p : Pr} (h : Lst p fun c => c ∈ allSome (wordTable n ds w) bs es) : Lst p (Rd ds bs es w) := by
  obtain ⟨_, hw⟩ := wordTable_least hd w
  refine ⟨fun hp c ⟨i, j, hi, hj, hc⟩ => ?_, fun m hm => ?_⟩
  · have h1 := hw i j (hb i hi) (he j hj)
    cases q : ent (wordTable n ds w) i j with
    | none => rw [q] at h1; exact h1.1 rfl c hc
    | some a => exact h.1 hp a (mem_allSome.mpr ⟨i, j, hi, hj, q⟩)
  · obtain ⟨h1, h2⟩ := h.2 m hm
    obtain ⟨i, j, hi, hj, q⟩ := mem_allSome.mp h1
    have h3 := hw i j (hb i hi) (he j hj)
    rw [q] at h3
    refine ⟨⟨i, j, hi, hj, (h3.2 m rfl).1⟩, ?_⟩
    rintro c ⟨i', j', hi', hj', hc⟩
    have h4 := hw i' j' (hb i' hi') (he j' hj')
    cases q' : ent (wordTable n ds w) i' j' with
    | none => rw [q'] at h4; exact (h4.1 rfl c hc).elim
    | some a =>
      rw [q'] at h4
      exact Int.le_trans (h2 a (mem_allSome.mpr ⟨i', j', hi', hj', q'⟩)) ((h4.2 a rfl).2 c hc)
end LT
set_option Elab.async false
set_option linter.all false
set_option maxRecDepth 100000
set_option maxHeartbeats 2000000
/-! own rules: zip of a list and a tuple, enumerate of a tuple -/
namespace OwnZ
open PySem PySem.Spec PyProof.Rows L2

def ItLT (K : PySem.W.Frag) (a b : Addr) : It where
  go := fun i H => ∃ (xs ys : List V) (x y : V), SqL K H a xs ∧ SqT K H b ys ∧ xs[i]? = some x ∧ ys[i]? = some y
  yld := fun i H v H' => ∃ T x y, v = .ref T ∧ H T = none ∧ H' = upd H T (.tup [x, y]) ∧
    (∀ xs, SqL K H a xs → xs[i]? = some x) ∧ (∀ ys, SqT K H b ys → ys[i]? = some y)
  stop := fun i H => ∃ xs ys : List V, SqL K H a xs ∧ SqT K H b ys ∧ i ≤ xs.length ∧ i ≤ ys.length ∧ (xs.length = i ∨ ys.length = i)

theorem mem5 {c z TI TO i1 i2 : Addr} (h : c ∈ [z, TI, TO, i1, i2]) : c = z ∨ c = TI ∨ c = TO ∨ c = i1 ∨ c = i2 := by simpa using h

theorem turn_LT {P : Program} {w : World} {K : PySem.W.Frag} {elts : List Expr} {kk : Nat} {tpos : Pos} {a b z TI TO i1 i2 : Addr}
    (D : ZipSep2 z TI TO i1 i2 [i1, a] [i2, b]) (na : a ≠ i1) (nb : b ≠ i2) :
    Turn P w K (.Tuple elts kk tpos) (ItLT K a b) [z, TI, TO, i1, i2] z
      (fun i h => IsZip h z TI TO .none ∧ IsTupOf2 h TI (.ref i1) (.ref i2) ∧ (∃ x y, IsTupOf2 h TO x y) ∧ h.IsListIter i1 a i ∧ h.IsTupleIter i2 b i) where
  mem := by simp
  obj := by
    rintro i h ⟨hz, hTI, ⟨x, y, hTO⟩, ⟨o1, e1, _, d1⟩, ⟨o2, e2, _, d2⟩⟩ c hc
    rcases mem5 hc with rfl | rfl | rfl | rfl | rfl
    · exact ⟨_, hz, fun v q => nomatch q⟩
    · exact ⟨_, hTI, fun v q => nomatch q⟩
    · exact ⟨_, hTO, fun v q => nomatch q⟩
    · exact ⟨o1, e1, fun v q => by rw [d1] at q; cases q⟩
    · exact ⟨o2, e2, fun v q => by rw [d2] at q; cases q⟩
  keep := by
    rintro i h h' ⟨hz, hTI, ⟨x, y, hTO⟩, h1, h2⟩ k
    exact ⟨k z (by simp) _ hz, k TI (by simp) _ hTI, ⟨x, y, k TO (by simp) _ hTO⟩, h1.at fun o q => k i1 (by simp) o q, h2.at fun o q => k i2 (by simp) o q⟩
  item := by
    intro X hP hw hK hc i pins s σ H E I hf st hg
    subst hP hw hK
    obtain ⟨hz, hTI, ⟨x0, y0, hTO⟩, h1, h2⟩ := st
    obtain ⟨xs, ys, x, y, hqx, hqy, hx, hy⟩ := hg
    obtain ⟨its, rv, p, _⟩ := I.list hqx
    obtain ⟨its2, rv2, p2, _⟩ := I.tuple hqy
    obtain ⟨u, hu, ru⟩ := rv.get hx
    obtain ⟨u2, hu2, ru2⟩ := rv2.get hy
    have l1 : i < its.toArray.size := by
      have := (List.getElem?_eq_some_iff.mp hu).1
      simpa using this
    have l2 : i < its2.toArray.size := by
      have := (List.getElem?_eq_some_iff.mp hu2).1
      simpa using this
    have hh := I.ok.hd hc
    have D1 := Draws.list (prog := X.prog) (w := X.w) (A := X.A.in1) hh i1 a na its.toArray
    have D2 := Draws.tuple (prog := X.prog) (w := X.w) (A := X.A.in1) hh i2 b nb its2.toArray
    refine wpAny_pyNext_zipD2_item D D1 D2 hz hTI hTO ⟨h1, p.isList⟩ ⟨h2, p2⟩ l1 l2 fun v1 v2 h' tk e1 e2 z' TO' s1 s2 hT hsz hk => ?_
    have ev1 : v1 = u := by
      have q : its.toArray[i]? = some v1 := e1
      have q2 : its.toArray[i]? = some u := by simpa using hu
      exact Option.some.inj (q.symm.trans q2)
    have ev2 : v2 = u2 := by
      have q : its2.toArray[i]? = some v2 := e2
      have q2 : its2.toArray[i]? = some u2 := by simpa using hu2
      exact Option.some.inj (q.symm.trans q2)
    subst ev1 ev2
    have hzl : z < s.heap.objs.size := Heap.lt_size hz
    refine ⟨_, rfl, wpAny_letOwnedTupleGo_zip (s := { s with heap := h', toks := tk }) z' fun h'' z'' sb => ?_⟩
    have hT2 : h''.get? s.heap.objs.size = some { cls := .type "tuple", data := .seq #[v1, v2] } := (sb.2 _ (Nat.ne_of_gt hzl)).trans hT
    have new : ObjOk X.prog X.w (upd H s.heap.objs.size (.tup [x, y])) h'' s.heap.objs.size (.tup [x, y]) :=
      ⟨by show 2 ≤ sizeLine; decide, [v1, v2], .cons ru (.cons ru2 .nil), ⟨_, hT2, rfl, _, rfl⟩⟩
    have kp : ∀ c o, c ∉ [z, TI, TO, i1, i2] → s.heap.get? c = some o → h''.get? c = some o := fun c o nc q => by
      have n5 : c ≠ z ∧ c ≠ TI ∧ c ≠ TO ∧ c ≠ i1 ∧ c ≠ i2 := by simpa using nc
      exact (sb.2 c n5.1).trans (hk c o n5.1 n5.2.2.1 n5.2.2.2.1 n5.2.2.2.2 q)
    have I1 := I.turnedNew (t' := tk) (ch := [z, TI, TO, i1, i2]) (T := s.heap.objs.size) (ob := .tup [x, y]) kp hf (Nat.le_refl _) new
    refine ⟨.ref s.heap.objs.size, _, I1, rfl, ⟨_, x, y, rfl, I.hok.fresh (Nat.le_refl _), rfl, fun l hl => by rw [I.list_inj hl hqx]; exact hx, fun l hl => by rw [I.tuple_inj hl hqy]; exact hy⟩, ⟨z'', ?_, ⟨v1, v2, ?_⟩, ?_, ?_⟩, fun c hcm => ?_⟩
    · exact (sb.2 _ D.TIz).trans (hk _ _ D.TIz D.TITO D.TIi1 D.TIi2 hTI)
    · exact (sb.2 _ D.TOz).trans TO'
    · exact s1.1.at fun o q => (sb.2 _ D.zi1.symm).trans q
    · exact s2.1.at fun o q => (sb.2 _ D.zi2.symm).trans q
    · have hlt : c < s.heap.objs.size := by
        rcases mem5 hcm with rfl | rfl | rfl | rfl | rfl
        · exact hzl
        · exact Heap.lt_size hTI
        · exact Heap.lt_size hTO
        · obtain ⟨_, e1, _⟩ := h1; exact Heap.lt_size e1
        · obtain ⟨_, e2, _⟩ := h2; exact Heap.lt_size e2
      rw [upd_ne (Nat.ne_of_lt hlt)]
      exact (hf c hcm).1
  done := by
    intro X hP hw hK hc i pins s σ H E I hf st hg
    subst hP hw hK
    obtain ⟨hz, hTI, ⟨x0, y0, hTO⟩, h1, h2⟩ := st
    obtain ⟨xs, ys, hqx, hqy, le1, le2, hend⟩ := hg
    obtain ⟨its, rv, p, _⟩ := I.list hqx
    obtain ⟨its2, rv2, p2, _⟩ := I.tuple hqy
    have l1 := rv.length
    have l2 := rv2.length
    have hh := I.ok.hd hc
    have D1 := Draws.list (prog := X.prog) (w := X.w) (A := X.A.in1) hh i1 a na its.toArray
    have D2 := Draws.tuple (prog := X.prog) (w := X.w) (A := X.A.in1) hh i2 b nb its2.toArray
    have z1 : its.toArray.size = xs.length := by simp; omega
    have z2 : its2.toArray.size = ys.length := by simp; omega
    refine wpAny_pyNext_zipD2_end D D1 D2 hz hTI hTO ⟨h1, p.isList⟩ ⟨h2, p2⟩ (by omega) (by omega) (by omega) fun h' tk hk => ⟨rfl, ?_⟩
    exact I.turnedL (t' := tk) (ch := [z, TI, TO, i1, i2]) (fun c o nc q => by
      have n5 : c ≠ z ∧ c ≠ TI ∧ c ≠ TO ∧ c ≠ i1 ∧ c ≠ i2 := by simpa using nc
      exact hk c o n5.1 n5.2.2.1 n5.2.2.2.1 n5.2.2.2.2 q) hf
  self := fun A i s Q E st h => wpAny_pyIter_zip st.1 h

def iZipLT (K : PySem.W.Frag) (ta : TA) : TI := fun σ H R => ta σ H fun vs H1 => ∃ a b xs ys, vs = [.ref a, .ref b] ∧ SqL K H1 a xs ∧ SqT K H1 b ys ∧ R (ItLT K a b) H1
theorem pi_zipLT {X : Cx} {e e2 : Expr} {ta : TA} {p pos tpos : Pos} {elts : List Expr} {kk : Nat} (hg : Gl X "zip") (hm : X.mg "zip" = none) (ha : PA X [e, e2] ta)
    (hs : starEach [e, e2] X.env = (false, eval e X.env) :: starEach [e2] X.env := by rfl) (hpl : (backTo pos (starEach [e2] X.env)).any (·.1) = false := by rfl) :
    PI X (.Tuple elts kk tpos) (.Call (.Name "zip" p) [e, e2] [] pos) (iZipLT X.K ta) := by
  refine ⟨fun pins s σ H R I h => ?_⟩
  refine Call_ (ld_blt I hg hm PyProof.Rows.boot_zip (PyProof.Rows.callWith_type1 (thn (ha.run pos pins s σ H _ I h) fun us s1 ⟨vs, H1, I1, r1, q1⟩ => ?_) hs hpl))
  obtain ⟨a, b, xs, ys, rfl, hqx, hqy, q⟩ := q1
  obtain ⟨v1, v2, rfl, r, r'⟩ := vals2 r1
  cases r
  cases r'
  obtain ⟨its, rv, p1, _⟩ := I1.list hqx
  obtain ⟨its2, rv2, p2, _⟩ := I1.tuple hqy
  have la : a < s1.heap.objs.size := p1.lt
  have lb : b < s1.heap.objs.size := p2.lt
  refine zip_begins2 (begins_list a its.toArray) (begins_tuple b its2.toArray) p1.isList p2 fun h' hz hTI hTO h1 h2 hsz hk => wpAny_pyIter_zip hz ?_
  have I2 : Inv X pins σ H1 { s1 with heap := h' } := I1.kept (t' := s1.toks) hk
  have sep := zip_sep2 (N := s1.heap.objs.size) (fp1 := [a]) (fp2 := [b]) (fun c hc => by rw [List.mem_singleton.mp hc]; exact la) (fun c hc => by rw [List.mem_singleton.mp hc]; exact lb)
  refine ⟨s1.heap.objs.size + 4, [s1.heap.objs.size + 4, s1.heap.objs.size + 2, s1.heap.objs.size + 3, s1.heap.objs.size, s1.heap.objs.size + 1], _, _, H1, rfl, I2,
    turn_LT (P := X.prog) (w := X.w) sep (Nat.ne_of_lt la) (Nat.ne_of_lt (Nat.lt_succ_of_lt lb)), ⟨hz, hTI, ⟨_, _, hTO⟩, ⟨_, h1, rfl, rfl⟩, ⟨_, h2, rfl, rfl⟩⟩, fun c hcm => ?_, q⟩
  have hle : s1.heap.objs.size ≤ c := by
    rcases mem5 hcm with z | z | z | z | z <;> (rw [z]; first | exact Nat.le_refl _ | exact Nat.le_add_right _ _)
  exact I1.fpOk hle (I1.hok.fresh hle)

/-! ### enumerate of a tuple -/
def ItET (K : PySem.W.Frag) (a : Addr) : It where
  go := fun i H => ∃ (xs : List V) (x : V), SqT K H a xs ∧ xs[i]? = some x
  yld := fun i H v H' => ∃ T x, v = .ref T ∧ H T = none ∧ H' = upd H T (.tup [.int (i : Nat), x]) ∧ ∀ xs, SqT K H a xs → xs[i]? = some x
  stop := fun i H => ∃ xs : List V, SqT K H a xs ∧ xs.length = i
theorem turn_ET {P : Program} {w : World} {K : PySem.W.Frag} {elts : List Expr} {kk : Nat} {tpos : Pos} (a e it : Addr) (na : a ≠ it) (ne : e ≠ it) (nea : e ≠ a) :
    Turn P w K (.Tuple elts kk tpos) (ItET K a) [e, it] e (fun i h => (∃ old, IsEnum h e it ((i : Nat) : Int) old) ∧ h.IsTupleIter it a i) where
  mem := by simp
  obj := by
    rintro i h ⟨⟨old, he⟩, ⟨o, ho, hc, hd⟩⟩ b hb
    have e' : b = e ∨ b = it := by simpa using hb
    rcases e' with rfl | rfl
    · exact ⟨_, he, fun v q => nomatch q⟩
    · exact ⟨o, ho, fun v q => by rw [hd] at q; cases q⟩
  keep := by
    rintro i h h' ⟨⟨old, he⟩, hi⟩ k
    exact ⟨⟨old, k e (by simp) _ he⟩, hi.at fun o q => k it (by simp) o q⟩
  item := by
    intro X hP hw hK hc i pins s σ H E I hf st hg
    subst hP hw hK
    obtain ⟨⟨old, he⟩, hit⟩ := st
    obtain ⟨xs, x, hq, hx⟩ := hg
    obtain ⟨its, rv, p, hz⟩ := I.tuple hq
    obtain ⟨u, hu, ru⟩ := rv.get hx
    have l1 : i < its.toArray.size := by
      have := (List.getElem?_eq_some_iff.mp hu).1
      simpa using this
    have hel : e < s.heap.objs.size := Heap.lt_size he
    have hil : it < s.heap.objs.size := by obtain ⟨_, q, _⟩ := hit; exact Heap.lt_size q
    have D1 := Draws.tuple (prog := X.prog) (w := X.w) (A := X.A.in1) (I.ok.hd hc) it a na its.toArray
    refine wpAny_pyNext_enum_itemD D1 he ⟨hit, p⟩ l1 ne (by simp [ne, nea]) fun v h' tk ev ho hs' hT hsz hk => ?_
    have ev1 : v = u := by
      have q : its.toArray[i]? = some v := ev
      have q2 : its.toArray[i]? = some u := by simpa using hu
      exact Option.some.inj (q.symm.trans q2)
    subst ev1
    refine ⟨_, rfl, wpAny_letOwnedTupleGo_enum (s := { s with heap := h', toks := tk + 1 }) ho fun h'' he' sb => ?_⟩
    have hT2 : h''.get? s.heap.objs.size = some { cls := .type "tuple", data := .seq #[.int i tk, v] } := (sb.2 _ (Nat.ne_of_gt hel)).trans hT
    have new : ObjOk X.prog X.w (upd H s.heap.objs.size (.tup [.int (i : Nat), x])) h'' s.heap.objs.size (.tup [.int (i : Nat), x]) :=
      ⟨by show 2 ≤ sizeLine; decide, [.int i tk, v], .cons ⟨_, rfl⟩ (.cons ru .nil), ⟨_, hT2, rfl, _, rfl⟩⟩
    have I1 := I.turnedNew (t' := tk + 1) (ch := [e, it]) (T := s.heap.objs.size) (ob := .tup [.int (i : Nat), x]) (h' := h'') (fun b ob nb q => by
      have n2 : b ≠ e ∧ b ≠ it := by simpa using nb
      exact (sb.2 b n2.1).trans (hk b ob n2.1 n2.2 q)) hf (Nat.le_refl _) new
    refine ⟨.ref s.heap.objs.size, _, I1, rfl, ⟨_, x, rfl, I.hok.fresh (Nat.le_refl _), rfl, fun ys hy => by rw [I.tuple_inj hy hq]; exact hx⟩, ⟨⟨v, ?_⟩, hs'.1.at fun o q => (sb.2 it (Ne.symm ne)).trans q⟩, fun b hb => ?_⟩
    · have e1 : ((i + 1 : Nat) : Int) = (i : Int) + 1 := by omega
      rw [e1]; exact he'
    · have hb' : b < s.heap.objs.size := by
        have e' : b = e ∨ b = it := by simpa using hb
        rcases e' with rfl | rfl
        · exact hel
        · exact hil
      rw [upd_ne (Nat.ne_of_lt hb')]
      exact (hf b hb).1
  done := by
    intro X hP hw hK hc i pins s σ H E I hf st hg
    subst hP hw hK
    obtain ⟨⟨old, he⟩, hit⟩ := st
    obtain ⟨xs, hq, hx⟩ := hg
    obtain ⟨its, rv, p, hz⟩ := I.tuple hq
    obtain ⟨f0, f1, f2, f3, f4, f5⟩ := hf it (by simp)
    have hl := rv.length
    have D1 := Draws.tuple (prog := X.prog) (w := X.w) (A := X.A.in1) (I.ok.hd hc) it a na its.toArray
    have z1 : its.toArray.size = i := by simp; omega
    refine wpAny_pyNext_enum_endD D1 he (by rw [z1]; exact ⟨hit, p⟩) fun h' eb => ⟨rfl, ?_⟩
    exact I.turned (t' := s.toks) (fun b o hb q => eb b o hb q) f0 f1 f3 f4 f5
  self := fun A i s Q E st h => by
    obtain ⟨⟨_, he⟩, _⟩ := st
    exact wpAny_pyIter_enum he h
theorem meets_enumT {v : Value} {o : Obj} {H : Heap → Prop} (B : Begins v o H) :
    Meets (Builtin.«enumerate.__new__» ⟨[.type "enumerate", v], []⟩) (fun _ R s => H s.heap ∧
      R (.ok (.ret (.ref (s.heap.push o).objs.size))) { s with heap := (s.heap.push o).push { cls := .type "enumerate", data := .fields #[.none, .bool false, .ref s.heap.objs.size, rawInt 0, .none, .none] } }) :=
  .of_wp fun prog w A R s h => by
    obtain ⟨hp, g, d, tk, os⟩ := s
    obtain ⟨h1, h⟩ := h
    have hsub := sub_enumerate
    have q1 : ∀ {A' : Around} {E : Value → Shared → Prop} {Q : Value → Shared → Prop}, Q (.ref hp.objs.size) ⟨hp.push o, g, d, tk, os⟩ → wpAny (model prog w) A' (pyIter v) Q E ⟨hp, g, d, tk, os⟩ :=
      fun q => B.iter prog w _ _ ⟨hp, g, d, tk, os⟩ _ h1 q
    wp_walk using q1
    refine wpAny_stack_any fun st => wpAny_pure ?_
    split
    · rename_i c _ _ _ _ _
      cases (c == Value.type "enumerate") <;> (wp_walk using q1; exact ⟨_, rfl, h⟩)
    · wp_walk using q1
      exact ⟨_, rfl, h⟩
theorem call_enumT {prog : Program} {w : World} {A : Around} {E : Value → Shared → Prop} {s : Shared} {v : Value} {o : Obj} {H : Heap → Prop} {Q : Value → Shared → Prop} (B : Begins v o H) (h1 : H s.heap)
    (h : ∀ h', IsEnum h' (s.heap.objs.size + 1) s.heap.objs.size 0 .none → h'.get? s.heap.objs.size = some o → (∀ b o, s.heap.get? b = some o → h'.get? b = some o) → Q (.ref (s.heap.objs.size + 1)) { s with heap := h' }) :
    wpAny (model prog w) A (call (.type "enumerate") [v]) Q E s := by
  refine callType_new F.called_enumerate (by decide) (F.typeCall_enumerate_1 _) (F.newCall_enumerate_1 _) (fun obj => F.args_object_init_2 obj _) F.entry_enumerate_new (meets_enumT B) ⟨h1, ?_⟩
  have hz : (s.heap.push o).objs.size = s.heap.objs.size + 1 := Heap.size_push ..
  show _ ∧ _
  rw [hz]
  have he : IsEnum ((s.heap.push o).push { cls := .type "enumerate", data := .fields #[.none, .bool false, .ref s.heap.objs.size, rawInt 0, .none, .none] }) (s.heap.objs.size + 1) s.heap.objs.size 0 .none := by
    have q := Heap.get?_push_size (s.heap.push o) (o := { cls := .type "enumerate", data := .fields #[.none, .bool false, .ref s.heap.objs.size, rawInt 0, .none, .none] }) rfl
    rw [hz] at q
    exact q
  exact ⟨⟨_, he, rfl⟩, h _ he (Heap.get?_push_of_some _ (Heap.get?_push_size _ B.free)) fun b o x => Heap.get?_push_of_some _ (Heap.get?_push_of_some _ x)⟩
def iEnumT (K : PySem.W.Frag) (ta : TA) : TI := fun σ H R => ta σ H fun vs H1 => ∃ a xs, vs = [.ref a] ∧ SqT K H1 a xs ∧ R (ItET K a) H1
theorem pi_enumT {X : Cx} {e : Expr} {ta : TA} {p pos tpos : Pos} {elts : List Expr} {kk : Nat} (hg : Gl X "enumerate") (hm : X.mg "enumerate" = none) (ha : PA X [e] ta) (hs : starEach [e] X.env = [(false, eval e X.env)] := by rfl) :
    PI X (.Tuple elts kk tpos) (.Call (.Name "enumerate" p) [e] [] pos) (iEnumT X.K ta) := by
  refine ⟨fun pins s σ H R I h => ?_⟩
  refine Call_ (ld_blt I hg hm boot_enumerate (PyProof.Rows.callWith_type1 (thn (ha.run pos pins s σ H _ I h) fun us s1 ⟨vs, H1, I1, r1, q1⟩ => ?_) hs rfl))
  obtain ⟨a, xs, rfl, hq, q⟩ := q1
  obtain ⟨v1, rfl, r⟩ := vals1 r1
  cases r
  obtain ⟨its, rv, p1, _⟩ := I1.tuple hq
  have la : a < s1.heap.objs.size := p1.lt
  refine call_enumT (begins_tuple a its.toArray) p1 fun h' he hi hk => wpAny_pyIter_enum he ?_
  have I2 : Inv X pins σ H1 { s1 with heap := h' } := I1.kept (t' := s1.toks) hk
  refine ⟨s1.heap.objs.size + 1, [s1.heap.objs.size + 1, s1.heap.objs.size], _, _, H1, rfl, I2,
    turn_ET (P := X.prog) (w := X.w) a (s1.heap.objs.size + 1) s1.heap.objs.size (Nat.ne_of_lt la) (Nat.succ_ne_self _) (Nat.ne_of_gt (Nat.lt_succ_of_lt la)), ⟨⟨.none, he⟩, ⟨_, hi, rfl, rfl⟩⟩, fun b hb => ?_, q⟩
  have e' : b = s1.heap.objs.size + 1 ∨ b = s1.heap.objs.size := by simpa using hb
  have hle : s1.heap.objs.size ≤ b := by
    rcases e' with z | z
    · rw [z]; exact Nat.le_add_right _ _
    · rw [z]; exact Nat.le_refl _
  exact I1.fpOk hle (I1.hok.fresh hle)
end OwnZ
set_option Elab.async false
set_option linter.all false
set_option maxRecDepth 100000
set_option maxHeartbeats 2000000
/-! own rules: d.update(e), sorted(d) with int keys, min(xs, default=None), xs[:0:-1] -/
namespace OwnR
open PySem PySem.Spec PyProof.Rows L2
variable {X : Cx}

/-! ### d.update(e) -/
def rUpdate : V → List V → Hp → VK → Prop := fun x vs H Q => ∃ d e kvs more, x = .ref d ∧ vs = [.ref e] ∧ H d = some (.dK kvs) ∧ H e = some (.dK more) ∧ d ≠ e ∧ kvs.length + more.length ≤ sizeLine ∧ Q .non (upd H d (.dK (mergeK kvs more)))
theorem mt_update : MtR X "dict.update" rUpdate := by
  intro pins s σ H x xs v us Q I rx r h
  obtain ⟨d, e, kvs, more, rfl, rfl, hd, he, hne, hz, q⟩ := h
  cases rx
  obtain ⟨u, rfl, ru⟩ := vals1 r
  cases ru
  obtain ⟨z1, ld, vs1, rel1, dd1⟩ := dk_of I.hok hd
  obtain ⟨z2, le, vs2, rel2, dd2⟩ := dk_of I.hok he
  refine call_meetsIn PySem.F.slot_dict_update dd1.typeIs PySem.F.entry_dict_update (PySem.F.args_dict_update_2 _ _) (meets_dict_update (mixKind X.prog X.w) d e hne le) ?_
  refine ⟨vs1, vs2, dd1, dd2, by rw [← rel1.length, ← rel2.length]; exact hz, fun h' m1 m2 hs => ?_⟩
  have hex : ∃ q, h'.get? d = some q := let ⟨q, _, _, hq, _⟩ := m1; ⟨q, hq⟩
  have hl : (mergeK kvs more).length ≤ sizeLine := Nat.le_trans (length_mergeK more kvs) hz
  exact ⟨.non, _, d_write (t' := s.toks) I (by rw [hd]; exact True.intro) hs hex (dk_new hl ld (rel2.merge rel1) m1), rfl, q⟩

/-! ### sorted(d), the keys ints -/
theorem intKeys_at {us : List Value} {ks : List Int} (hl : us.length = ks.length) (h : ∀ (j : Nat) (v : Value), us[j]? = some v → ∃ (x : Int) (t : Tok), ks[j]? = some x ∧ v = Value.int x t) : IntsAre us ks := by
  induction us generalizing ks with
  | nil =>
    cases ks with
    | nil => exact .nil
    | cons k ks => simp at hl
  | cons u us ih =>
    cases ks with
    | nil => simp at hl
    | cons k ks =>
      obtain ⟨x, t, e1, e2⟩ := h 0 u rfl
      have e1' : k = x := Option.some.inj e1
      subst e1' e2
      refine .cons _ _ (ih (by simpa using hl) fun j v e => ?_)
      obtain ⟨x, t, a, b⟩ := h (j + 1) v (by simpa using e)
      exact ⟨x, t, by simpa using a, b⟩
theorem call_sortedDI (hcalm : X.calm = true) : CallR X (.builtin "sorted") (fun xs H Q => ∃ (a : Addr) (kvs : List (Key × V)) (ks : List Int), xs = [.ref a] ∧ Rd H a (.dK kvs) ∧ kvs.map (·.1) = ks.map Sum.inl ∧
    ∀ (ys : List Int) (p : Addr), ys.Perm ks → ys.Pairwise (· ≤ ·) → H p = none → Q (.ref p) (upd H p (.lst (ys.map V.int)))) := by
  intro pins s σ H xs us Q I r q
  obtain ⟨a, kvs, ks, rfl, hd, hks, q⟩ := q
  obtain ⟨u, rfl, rx⟩ := vals1 r
  cases rx
  obtain ⟨z, lo, vs, rel, dd⟩ := dk_rd I.hok hd
  obtain ⟨ep, hat⟩ := dd.dictAt
  have hkeys : vs.map (·.1) = ks.map Sum.inl := rel.keys.symm.trans hks
  have hl : vs.length = ks.length := by
    have e := congrArg List.length hkeys
    rw [List.length_map, List.length_map] at e
    exact e
  have h16 : vs.length ≤ sizeLine := by rw [← rel.length]; exact z
  refine Calls.call_function_entry PyProof.Rows.kind_sorted PyProof.Rows.plain_sorted PyProof.Rows.entry_sorted (PyProof.Rows.args_sorted1 _) ?_
  unfold Builtin.«sorted»
  refine wpAny_bind (m := checkCount "sorted" 1 1 _) (wpAny_pure ?_)
  refine wpAny_bind (PySem.W.kdu_collect (A := X.A.in1) (PySem.W.kdl_dict (knd := mixKind X.prog X.w) (kvs := vs) (ep := ep) lo) (I.ok.hd hcalm) hat h16 fun h' tk acc hk hacc => ?_)
  have hal : acc.toList.length = ks.length := by rw [Array.length_toList, hacc.1, hl]
  have hS : IntsAre acc.toList ks := intKeys_at hal fun j v e => by
    obtain ⟨k, x, e1, e2⟩ := hacc.2 j v (by rw [← Array.getElem?_toList]; exact e)
    have e3 : (vs.map (·.1))[j]? = some k := by rw [List.getElem?_map, e1]; all_goals rfl
    rw [hkeys, List.getElem?_map] at e3
    cases e4 : ks[j]? with
    | none => rw [e4] at e3; cases e3
    | some y =>
      rw [e4] at e3
      have e5 : Sum.inl y = k := Option.some.inj e3
      subst e5
      obtain ⟨t, ev⟩ := Value.isInt_shape (k := y) (v := v) e2
      exact ⟨y, t, rfl, ev⟩
  have hz2 : acc.toList.length ≤ sizeLine := by rw [hal, ← hl]; exact h16
  have I1 : Inv X pins σ H { s with heap := h', toks := tk } := I.kept hk
  refine wpAny_bind (wpAny_newList ?_ hz2)
  have hoL : (h'.push (seqObj "list" acc.toList.toArray 0)).get? h'.objs.size = some (seqObj "list" acc.toList.toArray 0) := Heap.get?_push_size _ rfl
  show wpAny _ _ _ _ _ { s with heap := h'.push (seqObj "list" acc.toList.toArray 0), toks := tk }
  refine wpAny_bind (wpAny_holding (wpAny_call_entry PyProof.Rows.slot_list_sort ⟨_, hoL, rfl⟩ PyProof.Rows.entry_list_sort
    (SrtO.list_sort_ord (s := { s with heap := h'.push (seqObj "list" acc.toList.toArray 0), toks := tk }) SrtO.swo_int hoL hz2 (fun h2 => SrtO.ints_sortable hS h2) fun out h1 h2 => ⟨_, rfl, ?_⟩)
    (PyProof.Rows.args_list_sort _)))
  obtain ⟨k1, k2, k3⟩ := SrtO.ints_out hS h1 h2
  obtain ⟨e', he'⟩ := PyProof.Rows.sortedHeap_at (vs := acc.toList) (out := out.toArray) hoL
  have hlen : ((out.map SrtO.iv).map V.int).length ≤ sizeLine := by
    rw [List.length_map, k2.length_eq, ← hal]
    exact hz2
  refine wpAny_pure ⟨_, rfl, .ref h'.objs.size, upd H h'.objs.size (.lst ((out.map SrtO.iv).map V.int)), I1.laid (t' := tk) (fun b u e => ?_) (Nat.le_refl _)
    (show ObjOk X.prog X.w _ _ _ (.lst ((out.map SrtO.iv).map V.int)) from ⟨hlen, out, e', vals_of_ints k1, he'⟩), rfl, q _ _ k2 k3 (I1.hok.fresh (Nat.le_refl _))⟩
  have hb : b < h'.objs.size := Heap.lt_size e
  rw [PyProof.Rows.sortedHeap_old (Nat.ne_of_lt hb) (by rw [size_push']; exact Nat.lt_succ_of_lt hb)]
  exact Heap.get?_push_of_some _ e

/-! ### min(xs, default=None) -/
theorem holdAll_ints {h : Heap} : ∀ {us : List Value} {ns : List Int}, IntsAre us ns → PySem.W.HoldAll h us ns
  | _, _, .nil => ⟨_, .nil⟩
  | _, _, .cons _ _ hr => PySem.W.HoldAll.cons (PySem.W.holds_int _ _) (holdAll_ints hr)
def rMinD (K : PySem.W.Frag) : List V → List V → Hp → VK → Prop := fun vs zs H Q => ∃ (a : Addr) (ns : List Int), vs = [V.ref a] ∧ zs = [.non] ∧ SqL K H a (ns.map V.int) ∧
  (ns = [] → Q .non H) ∧ ∀ m, m ∈ ns → (∀ y, y ∈ ns → m ≤ y) → Q (.int m) H
theorem minFold : ∀ (ns : List Int) (x : Int), ns.foldl (fun a y => if PySem.W.DatumOrd.lt y a = true then y else a) x ∈ x :: ns ∧ ∀ y, y ∈ x :: ns → ns.foldl (fun a y => if PySem.W.DatumOrd.lt y a = true then y else a) x ≤ y
  | [], x => ⟨List.mem_cons_self, fun y h => by
    rw [List.mem_singleton] at h
    rw [h]
    exact Int.le_refl _⟩
  | z :: ns, x => by
    rw [List.foldl_cons]
    have e : (if PySem.W.DatumOrd.lt z x = true then z else x) = if z < x then z else x := by
      show (if decide (z < x) = true then z else x) = _
      by_cases q : z < x
      · rw [if_pos q, if_pos (decide_eq_true q)]
      · rw [if_neg q, if_neg (by rw [decide_eq_false q]; exact Bool.false_ne_true)]
    rw [e]
    obtain ⟨h1, h2⟩ := minFold ns (if z < x then z else x)
    refine ⟨?_, fun y hy => ?_⟩
    · rcases List.mem_cons.mp h1 with q | q
      · rw [q]
        split
        · exact List.mem_cons_of_mem _ List.mem_cons_self
        · exact List.mem_cons_self
      · exact List.mem_cons_of_mem _ (List.mem_cons_of_mem _ q)
    · have h3 := h2 _ List.mem_cons_self
      rcases List.mem_cons.mp hy with q | q
      · subst q
        split at h3 <;> split <;> omega
      · rcases List.mem_cons.mp q with q | q
        · subst q
          split at h3 <;> split <;> omega
        · exact h2 y (List.mem_cons_of_mem _ q)
theorem cr_minD (hcalm : X.calm = true) (hu : X.A.units + 1 < cLine) : CallRK X (.builtin "min") [Str.ofString "default"] (rMinD X.K) := by
  intro pins s σ H vs zs us ws Q I r rz h
  obtain ⟨a, ns, rfl, rfl, hs, q0, q1⟩ := h
  obtain ⟨its, rv, hl, hz⟩ := I.list hs
  rw [Vals.ref1 r]
  obtain ⟨w1, rfl, e1⟩ := vals1 rz
  obtain rfl : w1 = Value.none := e1
  have hi := rv.ints
  show wpAny _ _ (call (.builtin "min") [.ref a] [(Str.ofString "default", .none)]) _ _ _
  refine PySem.W.min_list_datum_default (xs := ns) (I.ok.hd hcalm) hl.isList (by simpa using holdAll_ints hi) (by show X.A.units + 1 + 0 < cLine; omega) (fun e h' tk hk => ?_) (fun y ys i v h' tk e hv hm hk => ?_)
  · exact ⟨.non, H, I.kept hk, rfl, q0 e⟩
  · obtain ⟨t, rfl⟩ := PySem.W.int_of_holds hm
    refine ⟨.int _, H, I.kept hk, ⟨t, rfl⟩, ?_⟩
    obtain ⟨m1, m2⟩ := minFold ys y
    rw [e] at q1
    exact q1 _ m1 m2

/-! ### xs[:0:-1] -/
theorem tail_bounds (n : Nat) : sliceBounds none (some 0) (some (-1)) n = ((n : Int) - 1, if n = 0 then -1 else 0, -1) := by
  unfold sliceBounds
  have h1 : ¬ ((-1 : Int) > 0) := by decide
  have h2 : ¬ ((0 : Int) < 0) := by decide
  simp only [Option.getD_some, h1, if_false, h2]
  congr 1
  congr 1
  by_cases e : n = 0
  · subst e; rfl
  · rw [if_neg e]
    omega
theorem tail_range (n : Nat) : sliceRange ((n : Int) - 1) (if n = 0 then -1 else 0) (-1) = ((List.range (n - 1)).map (1 + ·)).reverse := by
  unfold sliceRange
  have h1 : ¬ ((-1 : Int) > 0) := by decide
  simp only [h1, if_false]
  by_cases e : n = 0
  · subst e; rfl
  · rw [if_neg e]
    by_cases h : (n : Int) - 1 > 0
    · have e2 : ((n : Int) - 1 - 0 - -1 - 1) / (- -1) = ((n - 1 : Nat) : Int) := by
        rw [show (- -1 : Int) = 1 by decide, Int.ediv_one]
        omega
      simp only [h, if_true, e2, Int.toNat_natCast]
      apply List.ext_getElem
      · simp
      · intro i g1 g2
        rw [List.getElem_reverse]
        simp at g1 g2 ⊢
        omega
    · have e1 : n = 1 := by omega
      subst e1
      rfl
theorem tail_pick (items : Array Value) : slicePick items none (some 0) (some (-1)) = ((items.toList.drop 1).reverse).toArray := by
  unfold slicePick
  rw [tail_bounds]
  show ((sliceRange ((items.size : Int) - 1) (if items.size = 0 then -1 else 0) (-1)).filterMap (items[·]?)).toArray = _
  rw [tail_range, List.filterMap_reverse]
  have h := pick_run items 1 (items.size - 1)
  rw [h, List.take_of_length_le (by rw [List.length_drop, Array.length_toList]; exact Nat.le_refl _)]
def tTailRev (K : PySem.W.Frag) (te : TE) : TE := fun σ H Q => te σ H fun x H1 => ∃ a xs, x = .ref a ∧ SqL K H1 a xs ∧ ∀ p, H1 p = none → Q (.ref p) (upd H1 p (.lst (xs.drop 1).reverse))
theorem pe_tailRev {e : Expr} {te : TE} {k k0 : Nat} {p0 p1 p2 p3 pos : Pos} (he : PE X e te) : PE X (.Subscript e (.Slice none (some (.Constant (.int 0) k0 p0)) (some (.UnaryOp .USub (.Constant (.int 1) k p1) p2)) p3) pos) (tTailRev X.K te) := by
  refine ⟨fun pins s σ H Q I h => ?_⟩
  refine Subscript_ (thn (he.run pins s σ H _ I h) fun v s1 ⟨x, H1, I1, r1, q1⟩ => ?_)
  obtain ⟨a, xs, rfl, hx, q⟩ := q1
  cases r1
  have hst : PO X (some (.UnaryOp .USub (.Constant (.int 1) k p1) p2)) (tPart (tUn (rU fun i => .int (-i)) (tC (.int 1)))) := po_some (pe_un un_neg pe_int)
  have h0 : PO X (some (.Constant (.int 0) k0 p0)) (tPart (tC (.int 0))) := po_some pe_int
  refine wpAny_Slice (thn (po_none.run pins s1 σ H1 (fun o H2 => o = none ∧ H2 = H1) I1 ⟨rfl, rfl⟩) fun vl s2 ⟨l, H2, I2, pl, el, e2⟩ => ?_)
  subst el e2
  refine thn (h0.run pins s2 σ H2 (fun o H3 => o = some 0 ∧ H3 = H2) I2 ⟨0, rfl, rfl, rfl⟩) fun vu s3 ⟨u, H3, I3, pu, eu, e3⟩ => ?_
  subst eu e3
  refine thn (hst.run pins s3 σ H3 (fun o H4 => o = some (-1) ∧ H4 = H3) I3 ⟨1, rfl, -1, rfl, rfl, rfl⟩) fun vs s4 ⟨o, H4, I4, ps, eo, e4⟩ => ?_
  subst eo e4
  have I5 : Inv X pins σ H4 { s4 with heap := s4.heap.push { cls := .type "slice", data := .fields #[vl, vu, vs] } } := I4.kept (t' := s4.toks) fun b ob q => Heap.get?_push_of_some _ q
  obtain ⟨its, r, ht, hz⟩ := I5.list hx
  have hlen := r.length
  show wpAny (model X.prog X.w) X.A (subscriptTail e (.Slice none (some (.Constant (.int 0) k0 p0)) (some (.UnaryOp .USub (.Constant (.int 1) k p1) p2)) p3) (.ref a) (.ref s4.heap.objs.size)) (EP X pins σ Q) X.xe { s4 with heap := s4.heap.push { cls := .type "slice", data := .fields #[vl, vu, vs] } }
  refine tail_any (ops := [.ref a, .ref s4.heap.objs.size]) ht.isList.typeIs (PySem.slot_list_getitem.lookup) ?_ (by with_unfolding_all rfl)
  refine wpAny_getItem_list_slice ht.isList (Heap.IsSliceOf.new _ vl vu vs) pl pu ps (by decide) ?_ (by rw [List.size_toArray]; omega)
  rw [tail_pick]
  refine ⟨.ref _, _, I5.laid (t' := s4.toks) (o := .lst (xs.drop 1).reverse) (fun b ob q => Heap.get?_push_of_some _ q) (Nat.le_refl _) ?_, rfl, q _ (I5.hok.fresh (Nat.le_refl _))⟩
  refine ⟨by rw [List.length_reverse, List.length_drop]; omega, _, 0, (r.drop 1).reverse, ?_⟩
  exact Heap.get?_push_size _ rfl
end OwnR
set_option Elab.async false
set_option linter.all false
set_option maxRecDepth 100000
set_option maxHeartbeats 2000000
/-! own rule: min(xs, key=lambda one: BODY), xs a list of ints, BODY with captured names -/
namespace OwnK
open PySem PySem.Spec PyProof.Rows L2 LamX NdefX

section
variable {X : Cx} {P0 : List (Addr × Obj)} {σ : L2.St} {H : Hp} {f a I S : Addr} {its : List Value} {rs : List Int} {kf : Int → Int} {R : Result → Shared → Prop}

/-- what stands through the loop: the invariant, the iterator and the record apart -/
structure Apart (X : Cx) (P0 : List (Addr × Obj)) (H : Hp) (I S : Addr) : Prop where
  fI : FpOk X P0 H I
  fS : FpOk X P0 H S
  ne : S ≠ I

theorem turnI {s : Shared} {h' : Heap} {b : Addr} (J : Inv X P0 σ H s) (F : FpOk X P0 H b) (k : ∀ c o, c ≠ b → s.heap.get? c = some o → h'.get? c = some o) : Inv X P0 σ H { s with heap := h' } := by
  obtain ⟨f0, f1, f2, f3, f4, f5⟩ := F
  exact J.turned (t' := s.toks) k f0 f1 f3 f4 f5

/-- the promise of a turn's call -/
def Turns (X : Cx) (P0 : List (Addr × Obj)) (σ : L2.St) (H : Hp) (f : Addr) (rs : List Int) (kf : Int → Int) : Prop :=
  ∀ (n : Int), n ∈ rs → ∀ (P : List (Addr × Obj)) (s : Shared) (t : Tok), Inv X (P0 ++ P) σ H s →
    wpAny (model X.prog X.w) X.A.in1 (call (.ref f) [.int n t]) (fun v s' => (∃ t, v = .int (kf n) t) ∧ Inv X (P0 ++ P) σ H s') (fun _ _ => False) s

theorem held {s : Shared} {oI oS : Obj} (A : Apart X P0 H I S) (J : Inv X P0 σ H s) (hI : s.heap.get? I = some oI) (hS : s.heap.get? S = some oS) (cI : ∀ v, oI.data ≠ .cell v) (cS : ∀ v, oS.data ≠ .cell v) :
    Inv X (P0 ++ [(I, oI), (S, oS)]) σ H s :=
  J.pins_of fun p hp => by
    rcases List.mem_append.mp hp with z | z
    · exact J.pin p (List.mem_append_right _ z)
    · rcases List.mem_cons.mp z with z | z
      · subst z
        obtain ⟨f0, f1, f2, _⟩ := A.fI
        exact ⟨hI, f0, f1, f2, cI⟩
      · rw [List.mem_singleton] at z
        subst z
        obtain ⟨f0, f1, f2, _⟩ := A.fS
        exact ⟨hS, f0, f1, f2, cS⟩
theorem unheld {s : Shared} {oI oS : Obj} (J : Inv X (P0 ++ [(I, oI), (S, oS)]) σ H s) : Inv X P0 σ H s ∧ s.heap.get? I = some oI ∧ s.heap.get? S = some oS :=
  ⟨J.unpinned, (J.pin (I, oI) (List.mem_append_right _ (List.mem_append_right _ List.mem_cons_self))).1,
    (J.pin (S, oS) (List.mem_append_right _ (List.mem_append_right _ (List.mem_cons_of_mem _ List.mem_cons_self)))).1⟩

theorem int_at {j : Nat} {v : Value} (hi : IntsAre its rs) (h : its[j]? = some v) : ∃ n t, rs[j]? = some n ∧ v = .int n t := by
  induction hi generalizing j with
  | nil => simp at h
  | cons n t hr ih =>
    cases j with
    | zero =>
      simp at h
      exact ⟨n, t, rfl, h.symm⟩
    | succ j =>
      have h' := h
      rw [List.getElem?_cons_succ] at h'
      obtain ⟨m, u, e1, e2⟩ := ih h'
      exact ⟨m, u, by rw [List.getElem?_cons_succ]; exact e1, e2⟩

theorem minLoop (hh : X.A.handled = none) (hL : SqL X.K H a (rs.map V.int)) (A : Apart X P0 H I S) (turn : Turns X P0 σ H f rs kf)
    (hR : ∀ (n : Int) (t : Tok) (s : Shared), n ∈ rs → (∀ y, y ∈ rs → kf n ≤ kf y) → Inv X P0 σ H s → R (.ok (.ret (.int n t))) s) :
    ∀ (r j : Nat) (s : Shared) (n : Int) (t tb : Tok) (c : Nat), rs.length - (j + 1) = r → j + 1 ≤ rs.length → Inv X P0 σ H s → s.heap.IsListIter I a (j + 1) →
      s.heap.get? S = some (seqObj "list" #[.int n t, .int (kf n) tb] c) → n ∈ rs → (∀ i y, i ≤ j → rs[i]? = some y → kf n ≤ kf y) →
      codeAny (model X.prog X.w) X.A (.builtin "min.loop" ⟨[.ref I, .ref f, .ref S], []⟩) R s := by
  have hname : (toString "min" ++ toString ".loop" : String) = "min.loop" := by decide
  intro r
  induction r with
  | zero =>
    intro j s n t tb c hr hj J hit hS hn hbest
    obtain ⟨its, rv, p, _⟩ := J.list hL
    have hlen := rv.length
    rw [List.length_map] at hlen
    refine codeAny_builtin PySem.F.entry_min_loop ?_
    rw [Around.under_plainId PySem.F.plain_min_loop _]
    show wpAny _ X.A.in1 (seqItems? (.ref S) >>= _) _ _ s
    refine wpAny_bind (wpAny_seqItems hS rfl ?_)
    show wpAny _ X.A.in1 (tryCatch (pyNext (.ref I)) _ >>= _) _ _ s
    refine wpAny_bind (wpAny_tryCatch (wpAny_pyNext_list_end hh hit p.isList (by simp; omega) fun h' eb => ?_))
    have J1 : Inv X P0 σ H { s with heap := h' } := turnI J A.fI fun b o hb e => eb b o hb e
    have hS' : h'.get? S = some (seqObj "list" #[.int n t, .int (kf n) tb] c) := eb S _ A.ne hS
    show wpAny _ X.A.in1 (updateSeq S (fun _ => #[]) >>= _) _ _ _
    refine wpAny_bind (wpAny_updateSeq hS' rfl (wpAny_bind (wpAny_letGo (wpAny_pure ?_))))
    have sb := Heap.SameBut.update h' S (Obj.mapSeq fun _ => (#[] : Array Value))
    refine hR n t _ hn (fun y hy => ?_) (turnI J1 A.fS fun b o hb e => (sb.2 b hb).trans e)
    obtain ⟨i, hi⟩ := List.mem_iff_getElem?.mp hy
    exact hbest i y (by have := (List.getElem?_eq_some_iff.mp hi).1; omega) hi
  | succ r ih =>
    intro j s n t tb c hr hj J hit hS hn hbest
    obtain ⟨its, rv, p, _⟩ := J.list hL
    have hlen := rv.length
    rw [List.length_map] at hlen
    have hlt : j + 1 < its.length := by omega
    refine codeAny_builtin PySem.F.entry_min_loop ?_
    rw [Around.under_plainId PySem.F.plain_min_loop _]
    show wpAny _ X.A.in1 (seqItems? (.ref S) >>= _) _ _ s
    refine wpAny_bind (wpAny_seqItems hS rfl ?_)
    show wpAny _ X.A.in1 (tryCatch (pyNext (.ref I)) _ >>= _) _ _ s
    refine wpAny_bind (wpAny_tryCatch (wpAny_pyNext_list_item hit p.isList (x := its[j + 1]) (by simp [hlt]) fun h' hit' sb => ?_))
    obtain ⟨m, t1, hm, hv⟩ := int_at (j := j + 1) rv.ints (List.getElem?_eq_getElem hlt)
    rw [hv]
    have J1 : Inv X P0 σ H { s with heap := h' } := turnI J A.fI fun b o hb e => (sb.2 b hb).trans e
    have hS' : h'.get? S = some (seqObj "list" #[.int n t, .int (kf n) tb] c) := (sb.2 S A.ne).trans hS
    obtain ⟨oI, hoI, hoc, hod⟩ := id hit'
    have J2 := held A J1 hoI hS' (fun v z => by rw [hod] at z; cases z) (fun v z => by cases z)
    have mm : m ∈ rs := List.mem_of_getElem? hm
    show wpAny _ X.A.in1 (tryCatch (holding [.int m t1] (call (.ref f) [.int m t1])) _ >>= _) _ _ _
    refine wpAny_bind (wpAny_tryCatch (wpAny_holding (wpAny_mono (turn m mm _ _ t1 J2) (fun x s3 he => ?_) fun _ _ hF => hF.elim)))
    obtain ⟨⟨t2, rfl⟩, J3⟩ := he
    obtain ⟨J4, hI4, hS4⟩ := unheld J3
    have hit4 : s3.heap.IsListIter I a (j + 1 + 1) := ⟨oI, hI4, hoc, hod⟩
    show wpAny _ X.A.in1 (tryCatch (holding [.int m t1, .int (kf m) t2] (richCompare .Lt (.int (kf m) t2) (.int (kf n) tb) >>= _)) _ >>= _) _ _ _
    refine wpAny_bind (wpAny_tryCatch (wpAny_holding (wpAny_bind (CmpOf.ints_lt (prog := X.prog) (w := X.w) (A := X.A.in1) (P := fun (i : Nat) v => ∃ t, v = .int (if i = 0 then kf m else kf n) t) (fun i => if i = 0 then kf m else kf n) (fun i v h => h) 0 1 _ _ _ _ _ ⟨t2, rfl⟩ ⟨tb, rfl⟩ ?_))))
    refine wpAny_bind (wpAny_holding (wpAny_truthy_bool ?_))
    refine wpAny_bind (wpAny_letGo (wpAny_pure ?_))
    show wpAny _ X.A.in1 (if decide (kf m < kf n) = true then _ else _) _ _ _
    by_cases hb' : kf m < kf n
    · have sb1 := Heap.SameBut.update s3.heap S (Obj.mapSeq fun _ => #[Value.int m t1, .int (kf m) t2])
      obtain ⟨c2, hc2⟩ : ∃ c2, (s3.heap.update S (Obj.mapSeq fun _ => #[Value.int m t1, .int (kf m) t2])).get? S = some (seqObj "list" #[.int m t1, .int (kf m) t2] c2) := ⟨_, get?_update_seq hS4 fun _ => #[Value.int m t1, .int (kf m) t2]⟩
      rw [if_pos (decide_eq_true hb')]
      refine wpAny_bind (wpAny_updateSeq hS4 rfl (wpAny_bind (wpAny_letGo ?_)))
      rw [hname]
      refine wpAny_pure ⟨plainId_quiet PySem.F.plain_min_loop _, ih (j + 1) _ m t1 t2 c2 (by omega) (by omega) (turnI J4 A.fS fun b o hb e => (sb1.2 b hb).trans e) ⟨oI, (sb1.2 I A.ne.symm).trans hI4, hoc, hod⟩ hc2 mm fun i y hi hy => ?_⟩
      by_cases e : i = j + 1
      · subst e
        rw [hm] at hy
        cases hy
        exact Int.le_refl _
      · have := hbest i y (by omega) hy
        omega
    · rw [if_neg (fun z => hb' (of_decide_eq_true z))]
      refine wpAny_bind (wpAny_letGo ?_)
      rw [hname]
      refine wpAny_pure ⟨plainId_quiet PySem.F.plain_min_loop _, ih (j + 1) _ n t tb c (by omega) (by omega) J4 hit4 hS4 hn fun i y hi hy => ?_⟩
      by_cases e : i = j + 1
      · subst e
        rw [hm] at hy
        cases hy
        omega
      · exact hbest i y (by omega) hy

theorem minCall {s : Shared} {Q : Value → Shared → Prop} {E : Value → Shared → Prop} (hh : X.A.handled = none) (J : Inv X P0 σ H s) (hL : SqL X.K H a (rs.map V.int)) (hne : rs ≠ []) (turn : Turns X P0 σ H f rs kf)
    (hQ : ∀ (n : Int) (t : Tok) (s : Shared), n ∈ rs → (∀ y, y ∈ rs → kf n ≤ kf y) → Inv X P0 σ H s → Q (.int n t) s) :
    wpAny (model X.prog X.w) X.A (call (.builtin "min") [.ref a] [(Str.ofString "key", .ref f)]) Q E s := by
  have hname : (toString "min" ++ toString ".loop" : String) = "min.loop" := by decide
  obtain ⟨its, rv, p, _⟩ := J.list hL
  have hlen := rv.length
  rw [List.length_map] at hlen
  have hpos : 0 < its.length := by
    cases rs with
    | nil => exact absurd rfl hne
    | cons x r => rw [← hlen]; exact Nat.succ_pos _
  refine kmk_tree PySem.F.kind_min PySem.F.plain_min PySem.F.entry_min (kmk_min_key _ _) ?_
  show wpAny _ X.A.in1 (Builtin.Builtins.bindParams "min" ["key", "default"] 0 ⟨[], [(Str.ofString "key", .ref f)]⟩ >>= _) _ _ s
  refine wpAny_bind (wpAny_of_eq (show Builtin.Builtins.bindParams "min" ["key", "default"] 0 ⟨[], [(Str.ofString "key", .ref f)]⟩ = pure [some (.ref f), none] from rfl) ?_)
  refine wpAny_bind (wpAny_pure ?_)
  refine wpAny_bind (wpAny_pyIter_list p.isList ?_)
  refine wpAny_bind (wpAny_newList ?_ (Nat.zero_le _))
  rw [hname]
  have zI : (s.heap.push { cls := .type "list_iterator", data := .fields #[.ref a, .int 0 0] }).objs.size = s.heap.objs.size + 1 := size_push' ..
  generalize hI : s.heap.objs.size = I at zI ⊢
  generalize hS : (s.heap.push { cls := .type "list_iterator", data := .fields #[.ref a, .int 0 0] }).objs.size = S at zI ⊢
  refine wpAny_pure ⟨plainId_quiet PySem.F.plain_min_loop _, ?_⟩
  have gI : ((s.heap.push { cls := .type "list_iterator", data := .fields #[.ref a, .int 0 0] }).push (seqObj "list" #[] 0)).get? I = some { cls := .type "list_iterator", data := .fields #[.ref a, .int 0 0] } := by
    rw [← hI]
    exact Heap.get?_push_of_some _ (Heap.get?_push_size _ rfl)
  have gS : ((s.heap.push { cls := .type "list_iterator", data := .fields #[.ref a, .int 0 0] }).push (seqObj "list" #[] 0)).get? S = some (seqObj "list" #[] 0) := by
    rw [← hS]
    exact Heap.get?_push_size _ rfl
  have A : Apart X P0 H I S := ⟨J.fpOk (Nat.le_of_eq hI) (J.hok.fresh (Nat.le_of_eq hI)), J.fpOk (by rw [zI, hI]; exact Nat.le_succ _) (J.hok.fresh (by rw [zI, hI]; exact Nat.le_succ _)), by rw [zI]; exact Nat.succ_ne_self _⟩
  have J0 : Inv X P0 σ H { s with heap := (s.heap.push { cls := .type "list_iterator", data := .fields #[.ref a, .int 0 0] }).push (seqObj "list" #[] 0) } := J.kept (t' := s.toks) fun b o e => Heap.get?_push_of_some _ (Heap.get?_push_of_some _ e)
  show codeAny (model X.prog X.w) X.A (.builtin "min.loop" ⟨[.ref I, .ref f, .ref S], []⟩) _ { s with heap := (s.heap.push { cls := .type "list_iterator", data := .fields #[.ref a, .int 0 0] }).push (seqObj "list" #[] 0) }
  generalize hs0 : ({ s with heap := (s.heap.push { cls := .type "list_iterator", data := .fields #[.ref a, .int 0 0] }).push (seqObj "list" #[] 0) } : Shared) = s0 at J0 ⊢
  have gI0 : s0.heap.get? I = some { cls := .type "list_iterator", data := .fields #[.ref a, .int 0 0] } := by rw [← hs0]; exact gI
  have gS0 : s0.heap.get? S = some (seqObj "list" #[] 0) := by rw [← hs0]; exact gS
  obtain ⟨its, rv, p, _⟩ := J0.list hL
  have hlen := rv.length
  rw [List.length_map] at hlen
  have hpos : 0 < its.length := by
    cases rs with
    | nil => exact absurd rfl hne
    | cons x r => rw [← hlen]; exact Nat.succ_pos _
  refine codeAny_builtin PySem.F.entry_min_loop ?_
  rw [Around.under_plainId PySem.F.plain_min_loop _]
  show wpAny _ X.A.in1 (seqItems? (.ref S) >>= _) _ _ s0
  refine wpAny_bind (wpAny_seqItems gS0 rfl ?_)
  show wpAny _ X.A.in1 (tryCatch (pyNext (.ref I)) _ >>= _) _ _ s0
  refine wpAny_bind (wpAny_tryCatch (wpAny_pyNext_list_item (i := 0) ⟨_, gI0, rfl, rfl⟩ p.isList (x := its[0]) (by simp [hpos]) fun h' hit' sb => ?_))
  obtain ⟨m, t1, hm, hv⟩ := int_at (j := 0) rv.ints (List.getElem?_eq_getElem hpos)
  rw [hv]
  have J1 : Inv X P0 σ H { s0 with heap := h' } := turnI J0 A.fI fun b o hb e => (sb.2 b hb).trans e
  have hS' : h'.get? S = some (seqObj "list" #[] 0) := (sb.2 S A.ne).trans gS0
  obtain ⟨oI, hoI, hoc, hod⟩ := id hit'
  have J2 := held A J1 hoI hS' (fun v z => by rw [hod] at z; cases z) (fun v z => by cases z)
  have mm : m ∈ rs := List.mem_of_getElem? hm
  show wpAny _ X.A.in1 (tryCatch (holding [.int m t1] (call (.ref f) [.int m t1])) _ >>= _) _ _ _
  refine wpAny_bind (wpAny_tryCatch (wpAny_holding (wpAny_mono (turn m mm _ _ t1 J2) (fun x s3 he => ?_) fun _ _ hF => hF.elim)))
  obtain ⟨⟨t2, rfl⟩, J3⟩ := he
  obtain ⟨J4, hI4, hS4⟩ := unheld J3
  have sb1 := Heap.SameBut.update s3.heap S (Obj.mapSeq fun _ => #[Value.int m t1, .int (kf m) t2])
  obtain ⟨c2, hc2⟩ : ∃ c2, (s3.heap.update S (Obj.mapSeq fun _ => #[Value.int m t1, .int (kf m) t2])).get? S = some (seqObj "list" #[.int m t1, .int (kf m) t2] c2) := ⟨_, get?_update_seq hS4 fun _ => #[Value.int m t1, .int (kf m) t2]⟩
  show wpAny _ X.A.in1 (updateSeq S (fun _ => #[.int m t1, .int (kf m) t2]) >>= _) _ _ _
  refine wpAny_bind (wpAny_updateSeq hS4 rfl ?_)
  rw [hname]
  refine wpAny_pure ⟨plainId_quiet PySem.F.plain_min_loop _, minLoop hh hL A turn (fun n t s hn hb J => hQ n t s hn hb J) _ 0 _ m t1 t2 c2 rfl (by omega) (turnI J4 A.fS fun b o hb e => (sb1.2 b hb).trans e) ⟨oI, (sb1.2 I A.ne.symm).trans hI4, hoc, hod⟩ hc2 mm fun i y hi hy => ?_⟩
  have e : i = 0 := by omega
  subst e
  rw [hm] at hy
  cases hy
  exact Int.le_refl _
end

/-! ### the lambda -/
/-- the function's words, with no statements (its body is an expression) -/
abbrev lamF (X : Cx) (params : Arguments) (scope : Scope) (c' : Addr) : NF := ⟨"<lambda>", X.env.qual ++ "<lambda>", params, [], scope, cloFrom X.env.cells scope.names [], c'⟩
section
variable {X : Cx} {pins : List (Addr × Obj)} {σ : L2.St} {H : Hp} {rs : List Int} {kf : Int → Int}
/-- one call of it -/
theorem lamRun {P0 : List (Addr × Obj)} {f c' : Addr} {params : Arguments} {body : Expr} {scope : Scope} {x y : Str} {j k : Nat} {pm ctv : Value} {tb : TE}
    (S : NScope [x, y] [x] [y] scope) (hfree : ∀ z ∈ scope.names, z.2 = .free → X.env.scope.names.lookup z.1 = some .cell ∨ X.env.scope.names.lookup z.1 = some .free) (hfr : (y, NameKind.free) ∈ scope.names) (hj : X.N[j]? = some y)
    (hbind : ∀ (q : Str) (cl : List (Str × Addr)) (pm cv ctv u : Value), bindArgs (PySem.W.kla_fn "<lambda>" q params body scope cl pm cv ctv) ⟨[u], []⟩ = pure [(x, u)])
    (hr : Room (k + 2) X.A)
    (hbody : ∀ (A : Around) (outer : List Env) (s : Shared) (H : Hp) (E : XK), Room k (A.deeper (envF (lamF X params scope c') f s.heap.objs.size)) →
      PE (ncx L2.CX0 X.prog X.w X.K X.mg X.base [x, y] (lamF X params scope c') f A outer s H E) body tb)
    (hpin : (f, PySem.W.kla_obj "<lambda>" (X.env.qual ++ "<lambda>") params body scope (cloFrom X.env.cells scope.names []) pm c' ctv) ∈ P0)
    (hco : H c' = some (CodeO c' (X.env.qual ++ "<lambda>")))
    (ht : ∀ n, n ∈ rs → tb [some (.int n), slotAt σ j] H (fun v H' => v = .int (kf n) ∧ H' = H)) : Turns X P0 σ H f rs kf := by
  intro n hn P s t J
  have of1 : s.heap.get? f = some (PySem.W.kla_obj "<lambda>" (X.env.qual ++ "<lambda>") params body scope (cloFrom X.env.cells scope.names []) pm c' ctv) :=
    (J.pin _ (List.mem_append_right _ (List.mem_append_left _ hpin))).1
  have rel : Vals [V.int n] [Value.int n t] := .cons ⟨t, rfl⟩ .nil
  have cp : Caps X (cloFrom X.env.cells scope.names []) [y] [j] := Caps.made J.ok hfree (fun z hz => by rw [List.mem_singleton.mp hz]; exact hfr) (by rw [List.map_cons, List.map_cons, hj]; rfl)
  have C := cells_of J cp
  have rc : codeAny (model X.prog X.w) X.A.in1 (.call (.ref f) ⟨[.int n t], []⟩) (CR L2.CX0 X.stack X.prog X.w H s (fun v H' => v = .int (kf n) ∧ H' = H) L2.E0) s := by
    have hr1 : Room (k + 1) X.A.in1 := hr.in1
    refine PySem.W.kla_callFunE hr1.depth of1 rfl S.co S.gen rfl (codeO_at J.hok hco) ?_
    rw [hbind]
    refine wpAny_pure (wpAny_newFunctionEnv S.nocell (fun ⟨m, _⟩ hy => ?_) (fun h₁ hns hsb => ⟨J.nolimit.fresh _ hsb, ?_⟩) S.kind)
    · exact S.par m (by
        have e : (m, _) = (x, Value.int n t) := List.mem_singleton.mp hy
        rw [(Prod.mk.inj e).1]
        exact List.mem_singleton.mpr rfl)
    · have kp : ∀ b o, s.heap.get? b = some o → h₁.get? b = some o := fun b o e => hsb.extBut b o (Nat.ne_of_lt (Heap.lt_size e)) (Heap.get?_push_of_some _ e)
      have J2 : Inv (ncx L2.CX0 X.prog X.w X.K X.mg X.base [x, y] (lamF X params scope c') f X.A.in1 X.stack s H L2.E0) [] (startF [x, y] [V.int n] ([j].map (slotAt σ))) H { s with heap := h₁, toks := s.toks + ([x].zip [Value.int n t]).length } :=
        inv_startN (F := lamF X params scope c') S hr1.hd J.env0.in1 rfl rel C hns kp
      refine PySem.W.kla_codeExpr (wpAny_mono ((hbody X.A.in1 X.stack s H L2.E0 (hr1.deeper _)).run [] _ _ H _ J2 (ht n hn)) (fun v s' hq => ?_) fun e s' hq => hq)
      obtain ⟨w', H', J', rv, q⟩ := hq
      exact ⟨w', H', J'.os, J'.bare, J'.base, J'.hok, rv, q⟩
  refine wpAny_call (codeAny_mono rc fun r s' hq => ?_)
  cases r with
  | error e => exact (show False from hq).elim
  | ok fl =>
    cases fl with
    | ret u =>
      obtain ⟨v, H', J', rv, ev, eH⟩ := J.after hq
      subst ev eH
      exact ⟨rv, J'⟩
    | next => exact False.elim hq
    | brk => exact False.elim hq
    | cont => exact False.elim hq

/-- min(e, key=lambda x: BODY), y captured -/
def tMinCont (T : List (Addr × Str)) (X : Cx) (tb : TE) (j : Nat) (σ : L2.St) (Q : VK) (v : V) (H1 : Hp) : Prop := ∃ a rs, v = .ref a ∧ SqL X.K H1 a (rs.map V.int) ∧ rs ≠ [] ∧ Tabs T H1 ∧
  ∀ H2, ExtN H1 H2 → Tabs T H2 → ∃ kf : Int → Int, (∀ n, n ∈ rs → tb [some (.int n), slotAt σ j] H2 (fun v H' => v = .int (kf n) ∧ H' = H2)) ∧ ∀ n, n ∈ rs → (∀ m, m ∈ rs → kf n ≤ kf m) → Q (.int n) H2
def tMinKey (T : List (Addr × Str)) (X : Cx) (te : TE) (tb : TE) (j : Nat) : TE := fun σ H Q => te σ H (tMinCont T X tb j σ Q)
theorem ExtN.sqL {K : PySem.W.Frag} {H H' : Hp} {a : Addr} {xs : List V} (e : ExtN H H') (h : SqL K H a xs) : SqL K H' a xs := by
  rcases h with (h | ⟨o, h⟩) | h
  · exact .inl (.inl (e _ _ h fun ps z => by cases z))
  · exact .inl (.inr ⟨o, e _ _ h fun ps z => by cases z⟩)
  · exact .inr h
theorem pe_minKey {T : List (Addr × Str)} {e : Expr} {te tb : TE} {params : Arguments} {body : Expr} {scope : Scope} {x y : Str} {j k : Nat} {c P : Addr} {p pos kpos lpos : Pos}
    (hg : Gl X "min") (hm : X.mg "min" = none) (hv : bootBuiltins "min" = some (.builtin "min")) (hcalm : X.calm = true) (ha : PA X [e] (tCons te tNil))
    (TB : TabB X.base X.mg c P) (hcode : X.env.code = .ref c) (hmT : (P, X.env.qual ++ "<lambda>") ∈ T) (hu : ∀ p ∈ T, p.1 = P → p.2 = X.env.qual ++ "<lambda>") (hdef : defaultsOf params X.env = ([], []))
    (S : NScope [x, y] [x] [y] scope) (hfree : ∀ z ∈ scope.names, z.2 = .free → X.env.scope.names.lookup z.1 = some .cell ∨ X.env.scope.names.lookup z.1 = some .free) (hfr : (y, NameKind.free) ∈ scope.names) (hj : X.N[j]? = some y)
    (hbind : ∀ (q : Str) (cl : List (Str × Addr)) (pm cv ctv u : Value), bindArgs (PySem.W.kla_fn "<lambda>" q params body scope cl pm cv ctv) ⟨[u], []⟩ = pure [(x, u)])
    (hr : Room (k + 2) X.A)
    (hbody : ∀ (f c' : Addr) (A : Around) (outer : List Env) (s : Shared) (H : Hp) (E : XK), Room k (A.deeper (envF (lamF X params scope c') f s.heap.objs.size)) →
      PE (ncx L2.CX0 X.prog X.w X.K X.mg X.base [x, y] (lamF X params scope c') f A outer s H E) body tb)
    (hes : backTo pos (starEach [e] X.env) = (false, eval e X.env) :: backTo pos (starEach [] X.env) := by rfl) (hpl : (backTo pos (starEach [e] X.env)).any (·.1) = false := by rfl)
    (hall : (backToKw pos (keywordEach [⟨some "key", .Lambda params body scope lpos, kpos⟩] X.env)).all (·.1.isSome) = true := by rfl) (hnone : (backToKw pos (keywordEach [⟨some "key", .Lambda params body scope lpos, kpos⟩] X.env)).any (·.1.isNone) = false := by rfl)
    (hks : (backToKw pos (keywordEach [⟨some "key", .Lambda params body scope lpos, kpos⟩] X.env)).filterMap (·.1) = [Str.ofString "key"] := by rfl) :
    PE X (.Call (.Name "min" p) [e] [⟨some "key", .Lambda params body scope lpos, kpos⟩] pos) (tMinKey T X te tb j) := by
  refine ⟨fun pins s σ H Q I h => ?_⟩
  refine wpAny_Call_Name_kw (ld_blt I hg hm hv ?_)
  refine PyProof.Rows.callWith_kw (thn (ha.run pos pins s σ H (fun vs H1 => match vs with | [v] => tMinCont T X tb j σ Q v H1 | _ => False) I h) fun us s1 ⟨vs, H1, I1, r1, q1⟩ => ?_) hes hpl hall hnone
  rw [hks]
  match vs, q1 with
  | [v], q1 =>
  obtain ⟨a, rs, rfl, hL, hne, hT, q⟩ := q1
  obtain ⟨u, rfl, ru⟩ := vals1 r1
  cases ru
  show wpAny _ _ (evalAll ((do let v ← eval (.Lambda params body scope lpos) X.env; standAt pos; pure v) :: (backToKw pos (keywordEach [] X.env)).map (·.2))) _ _ s1
  refine wpAny_evalAll_cons (wpAny_bind (lam_make2 I1 TB hcode hmT hu hT hdef (fun z hz ez => (hfree z hz ez).elim (fun w => I1.ok.has _ (.inl w)) fun w => I1.ok.has _ (.inr w)) fun f c' pm ctv H2 s2 I2 eN T2 hf hfn hfr' hco => ?_))
  refine wpAny_bind (wpAny_standAt (wpAny_pure ?_))
  refine wpAny_evalAll_nil ?_
  obtain ⟨kf, hb, hq⟩ := q H2 eN T2
  have fne : f ≠ X.env.locals ∧ f ∉ X.fs := by
    refine ⟨fun z => ?_, fun z => hfr' ?_⟩
    · obtain ⟨m, ⟨o, es, ep, ho, hd, _⟩, _⟩ := I2.loc
      rw [← z, hf] at ho
      cases ho
      cases hd
    · rcases I2.ok.stk with w | ⟨w, hw⟩
      · rw [w]; exact z
      · rw [w]
        unfold frs
        rw [List.filterMap_cons, hw]
        exact List.mem_cons_of_mem _ z
  have I3 : Inv X (pins ++ [(f, PySem.W.kla_obj "<lambda>" (X.env.qual ++ "<lambda>") params body scope (cloFrom X.env.cells scope.names []) pm c' ctv)]) σ H2 s2 := I2.pins_of fun z hz => by
    rcases List.mem_append.mp hz with w | w
    · exact I2.pin z (List.mem_append_right _ w)
    · rw [List.mem_singleton] at w
      subst w
      exact ⟨hf, hfn, fne.1, fne.2, fun v e => by cases e⟩
  have turn : Turns X (pins ++ [(f, PySem.W.kla_obj "<lambda>" (X.env.qual ++ "<lambda>") params body scope (cloFrom X.env.cells scope.names []) pm c' ctv)]) σ H2 f rs kf :=
    lamRun S hfree hfr hj hbind hr (hbody f c') (List.mem_append_right _ (List.mem_singleton.mpr rfl)) hco hb
  exact minCall (I2.ok.hd hcalm) I3 (ExtN.sqL eN hL) hne turn fun n t s hn hle J => ⟨.int n, H2, J.unpinned, ⟨t, rfl⟩, hq n hn hle⟩
end
end OwnK
set_option Elab.async false
set_option linter.all false
set_option maxRecDepth 100000
/-! the text by places, how data stand in the heap -/
namespace LT
open PySem PySem.Spec PyProof.Rows L2
def topS (i : Nat) : Stmt := PySem.Challenge.pw_leasttolls_k12_whole_least_tolls.main.body.getD i (.Pass ⟨0, 0, 0, 0⟩)

/-- a price as a value -/
def pV : Pr → V
  | none => .non
  | some i => .int i
theorem pV_non {p : Pr} : pV p = .non ↔ p = none := by
  cases p with
  | none => exact ⟨fun _ => rfl, fun _ => rfl⟩
  | some i => exact ⟨fun h => (by cases h), fun h => (by cases h)⟩
/-! ### heaps -/
theorem same_new {H : Hp} {p : Addr} {o : HO} (h : H p = none) : Same H (upd H p o) := fun b u e => by
  rw [upd_ne (ne_of_none e h)]
  exact e
theorem _root_.L2.Same.new {H H1 : Hp} {p : Addr} {o : HO} (s : Same H H1) (h : H1 p = none) : Same H (upd H1 p o) := s.trans (same_new h)
/-- a write to what is younger -/
theorem _root_.L2.Same.put {H H1 : Hp} {p : Addr} {o : HO} (s : Same H H1) (h : H p = none) : Same H (upd H1 p o) := fun b u e => by
  rw [upd_ne (ne_of_none e h)]
  exact s _ _ e
theorem _root_.L2.Same.seqT {K : PySem.W.Frag} {H H' : Hp} {a : Addr} {xs : List V} (e : Same H H') (h : SqT K H a xs) : SqT K H' a xs := by
  rcases h with (h | ⟨o, h⟩) | h
  · exact .inl (.inl (e _ _ h))
  · exact .inl (.inr ⟨o, e _ _ h⟩)
  · exact .inr h
theorem paired_at {α β : Type} {G : α → β → Prop} : ∀ {l₁ : List α} {l₂ : List β}, Paired G l₁ l₂ → ∀ {i : Nat} {b : β}, l₂[i]? = some b → ∃ a, l₁[i]? = some a ∧ G a b
  | _, _, .nil, _, _, h => by simp at h
  | _, _, .cons r t, 0, _, h => by
    have e := Option.some.inj h
    subst e
    exact ⟨_, rfl, r⟩
  | _, _, .cons r t, i + 1, _, h => by
    obtain ⟨a, e, g⟩ := paired_at t (i := i) (by simpa using h)
    exact ⟨a, by simpa using e, g⟩
theorem paired_snoc {α β : Type} {G : α → β → Prop} : ∀ {l₁ : List α} {l₂ : List β} {a : α} {b : β}, Paired G l₁ l₂ → G a b → Paired G (l₁ ++ [a]) (l₂ ++ [b])
  | _, _, _, _, .nil, g => .cons g .nil
  | _, _, _, _, .cons r t, g => .cons r (paired_snoc t g)
theorem paired_map {α β : Type} {F G : α → β → Prop} : ∀ {l₁ : List α} {l₂ : List β}, Paired F l₁ l₂ → (∀ a b, F a b → G a b) → Paired G l₁ l₂
  | _, _, .nil, _ => .nil
  | _, _, .cons r t, f => .cons (f _ _ r) (paired_map t f)

/-- a row of prices stands at a -/
def RowAt (H : Hp) (a : Addr) (r : List Pr) : Prop := H a = some (.tup (r.map pV))
/-- a table stands at a -/
def TabAt (H : Hp) (a : Addr) (t : List (List Pr)) : Prop := ∃ as : List Addr, H a = some (.tup (as.map V.ref)) ∧ Paired (RowAt H) as t
theorem TabAt.mono {H H' : Hp} {a : Addr} {t : List (List Pr)} (h : TabAt H a t) (s : Same H H') : TabAt H' a t := by
  obtain ⟨as, h1, h2⟩ := h
  exact ⟨as, s _ _ h1, paired_map h2 fun x r e => s _ _ e⟩
/-! ### machines -/
structure Mach where
  l : Int
  n : Nat
  bs : List Nat
  es : List Nat
  ds : List Dr
def doorV (d : Dr) : List V := [.int (d.st : Int), .str ⟨#[d.sg]⟩, .int (d.gl : Int), .int d.co]
def roomsV (rs : List Nat) : List V := rs.map fun (r : Nat) => V.int (r : Int)
structure MachAt (H : Hp) (m : Addr) (M : Mach) (b e d : Addr) (as : List Addr) : Prop where
  all : H m = some (.tup [.int M.l, .int (M.n : Int), .ref b, .ref e, .ref d])
  bs : H b = some (.tup (roomsV M.bs))
  es : H e = some (.tup (roomsV M.es))
  ds : H d = some (.tup (as.map V.ref))
  dr : Paired (fun x q => H x = some (.tup (doorV q))) as M.ds
def IsMach (H : Hp) (m : Addr) (M : Mach) : Prop := ∃ b e d as, MachAt H m M b e d as
theorem MachAt.mono {H H' : Hp} {m : Addr} {M : Mach} {b e d : Addr} {as : List Addr} (h : MachAt H m M b e d as) (s : Same H H') : MachAt H' m M b e d as :=
  ⟨s _ _ h.all, s _ _ h.bs, s _ _ h.es, s _ _ h.ds, paired_map h.dr fun _ _ q => s _ _ q⟩
theorem IsMach.mono {H H' : Hp} {m : Addr} {M : Mach} (h : IsMach H m M) (s : Same H H') : IsMach H' m M := by
  obtain ⟨b, e, d, as, h⟩ := h
  exact ⟨b, e, d, as, h.mono s⟩
structure Mach.Ok (M : Mach) : Prop where
  n5 : M.n ≤ 5
  bs : ∀ r ∈ M.bs, r < M.n
  es : ∀ r ∈ M.es, r < M.n
  dr : ∀ d ∈ M.ds, d.st < M.n ∧ d.gl < M.n
  co : ∀ d ∈ M.ds, 0 ≤ d.co ∧ d.co ≤ 3
  lb : M.bs.length ≤ 5
  le : M.es.length ≤ 5
  ld : M.ds.length ≤ 75
/-- a word as a text -/
def wS (w : List Nat) : Str := ⟨w.toArray⟩
/-- a sign as a text -/
def sg (c : Nat) : Str := ⟨#[c]⟩
theorem sg_eq {a b : Nat} : decide (V.str (⟨#[a]⟩ : Str) = V.str ⟨#[b]⟩) = decide (a = b) := by
  by_cases h : a = b
  · subst h
    rw [decide_eq_true rfl, decide_eq_true rfl]
  · rw [decide_eq_false h, decide_eq_false]
    intro z
    have z1 : (⟨#[a]⟩ : Str) = ⟨#[b]⟩ := V.str.inj z
    have z2 : (#[a] : Array Nat) = #[b] := congrArg Str.cps z1
    have z3 : ([a] : List Nat) = [b] := congrArg Array.toList z2
    exact h (List.cons.inj z3).1
theorem small5 {n : Nat} (h : n ≤ 5) : n ≤ sizeLine := Nat.le_trans h (by decide)
theorem small5' {n : Nat} (h : n ≤ 5) : n < sizeLine := Nat.lt_of_le_of_lt h (by decide)
end LT
set_option Elab.async false
set_option linter.all false
set_option maxRecDepth 100000
/-! rules with the written part named (for a comprehension's block) -/
namespace LT
open PySem PySem.Spec PyProof.Rows L2
section
variable {X : Cx} {K : PySem.W.Frag} {a b e : Expr} {ta tb te : TE} {p pos : Pos}
theorem pe_ixT (hK : X.K = K) (ha : PE X a ta) (hb : PE X b tb) (hs : PlainIx b := by intro _ _; rfl) : PE X (.Subscript a b pos) (tOp (rIxT K) ta tb) := by
  subst hK
  exact pe_ix ix_tup ha hb hs
theorem pe_ixL (hK : X.K = K) (ha : PE X a ta) (hb : PE X b tb) (hs : PlainIx b := by intro _ _; rfl) : PE X (.Subscript a b pos) (tOp (rIxL K) ta tb) := by
  subst hK
  exact pe_ix ix_list ha hb hs
theorem pt_inK (hK : X.K = K) (ha : PE X a ta) (hb : PE X b tb) (hm : behindInMarks .In b = false := by rfl) : PT X (.Compare a [.In] [b] pos) (tTest (tOp (rIn K false) ta tb)) := by
  subst hK
  exact pt_cmpR op_in_seq ha hb hm
theorem pt_notinK (hK : X.K = K) (ha : PE X a ta) (hb : PE X b tb) (hm : behindInMarks .NotIn b = false := by rfl) : PT X (.Compare a [.NotIn] [b] pos) (tTest (tOp (rIn K true) ta tb)) := by
  subst hK
  exact pt_cmpR op_notIn_seq ha hb hm
def rTupOf (K : PySem.W.Frag) : List V → Hp → VK → Prop := fun xs H Q => ∃ p ys, xs = [.ref p] ∧ ((SqL K H p ys ∧ ∀ l, H l = none → Q (.ref l) (upd H l (.tup ys))) ∨ (SqT K H p ys ∧ Q (.ref p) H))
theorem pe_tupOf {t : TA} (hK : X.K = K) (hg : Gl X "tuple") (hm : X.mg "tuple" = none) (ha : PA X [e] t)
    (he : starEach [e] X.env = (false, eval e X.env) :: starEach [] X.env := by rfl) (hpl : (backTo pos (starEach [] X.env)).any (·.1) = false := by rfl) : PE X (.Call (.Name "tuple" p) [e] [] pos) (tCB (rTupOf K) t) := by
  subst hK
  exact pe_callTy call_tuple_of hg hm (by decide +kernel) ha (he := he) (hpl := hpl)
end
end LT
set_option Elab.async false
set_option linter.all false
set_option maxRecDepth 100000
/-! lesser, both, row_by, product, plain -/
namespace LT
open PySem PySem.Spec PyProof.Rows L2 OwnZ
theorem iteY {c A B : Prop} [Decidable c] (hc : c) (h : A) : if decide c = true then A else B := by
  rw [if_pos (decide_eq_true hc)]
  exact h
theorem iteN {c A B : Prop} [Decidable c] (hc : ¬ c) (h : B) : if decide c = true then A else B := by
  rw [if_neg (fun z => hc (of_decide_eq_true z))]
  exact h
theorem iteYn {c A B : Prop} [Decidable c] (hc : ¬ c) (h : A) : if (!decide c) = true then A else B := by
  rw [decide_eq_false hc]
  exact iteT h
theorem iteNn {c A B : Prop} [Decidable c] (hc : c) (h : B) : if (!decide c) = true then A else B := by
  rw [decide_eq_true hc]
  exact iteF h
theorem int_non {i : Int} : ¬ (V.int i = V.non) := fun h => by cases h
theorem ref_non {a : Addr} : ¬ (V.ref a = V.non) := fun h => by cases h
abbrev sPlain : Stmt := topS 1
abbrev sLesser : Stmt := topS 2
abbrev sBoth : Stmt := topS 3
abbrev sRowBy : Stmt := topS 4
abbrev sProduct : Stmt := topS 5
theorem scPlain : FnScope ["n", "i", "j"] ["n"] (defScope sPlain) := ⟨rfl, rfl, rfl, by decide +kernel, rfl, by decide +kernel, by decide +kernel⟩
theorem scLesser : FnScope ["one", "other"] ["one", "other"] (defScope sLesser) := ⟨rfl, rfl, rfl, by decide +kernel, rfl, by decide +kernel, by decide +kernel⟩
theorem scBoth : FnScope ["one", "other"] ["one", "other"] (defScope sBoth) := ⟨rfl, rfl, rfl, by decide +kernel, rfl, by decide +kernel, by decide +kernel⟩
theorem scRowBy : FnScope ["row", "table", "found", "price", "line", "so_far", "more"] ["row", "table"] (defScope sRowBy) := ⟨rfl, rfl, rfl, by decide +kernel, rfl, by decide +kernel, by decide +kernel⟩
theorem scProduct : FnScope ["one", "other", "row"] ["one", "other"] (defScope sProduct) := ⟨rfl, rfl, rfl, by decide +kernel, rfl, by decide +kernel, by decide +kernel⟩
section
variable {P : Program} {w : World} {K : PySem.W.Frag} {mg : Str → Option Value} {base : Heap}
/-! ### lesser -/
def spLesser : Sp := fun vs H Q _ => ∃ p q : Pr, vs = [pV p, pV q] ∧ Q (pV (lesser p q)) H
theorem ok_lesser {f : Addr} {fd : FuncData} (F : Fun K "lesser" "lesser" sLesser f fd) : FnOk P w K mg base CX0 1 f fd ["one", "other"] spLesser := by
  refine F.ok scLesser (fun vs H Q E h => ?_) (fun cdv A outer s H vs Q E hr h => ?_)
  · obtain ⟨p, q, rfl, _⟩ := h
    rfl
  · obtain ⟨p, q, rfl, k⟩ := h
    refine ⟨_, pss_cons (ps_if (pt_cmpR op_isN (pv 0) pe_non (nomark _)) (pss_one (ps_ret (pv 1))) pss_nil)
      (pss_cons (ps_if (PW.pt (pw_or (pt_cmpR op_isN (pv 1) pe_non (nomark _)) (pw_or1 (pt_cmpR op_le (pv 0) (pv 1) (nomark _))))) (pss_one (ps_ret (pv 0))) pss_nil)
        (pss_one (ps_ret (pv 1)))), ?_⟩
    cases p with
    | none => exact ⟨_, rfl, rfl, _, rfl, iteY rfl ⟨_, rfl, k⟩⟩
    | some a =>
      refine ⟨_, rfl, rfl, _, rfl, iteN int_non ?_⟩
      cases q with
      | none => exact ⟨_, rfl, rfl, _, rfl, iteY rfl (iteT ⟨_, rfl, k⟩)⟩
      | some b =>
        refine ⟨_, rfl, rfl, _, rfl, iteN int_non ⟨_, rfl, _, rfl, a, b, rfl, rfl, _, rfl, ?_⟩⟩
        by_cases h : a ≤ b
        · refine iteY h ⟨_, rfl, ?_⟩
          have e : lesser (some a) (some b) = some a := if_pos h
          rw [e] at k
          exact k
        · refine iteN h ⟨_, rfl, ?_⟩
          have e : lesser (some a) (some b) = some b := if_neg h
          rw [e] at k
          exact k
/-! ### both -/
def spBoth : Sp := fun vs H Q _ => ∃ p q : Pr, vs = [pV p, pV q] ∧ Q (pV (both p q)) H
theorem ok_both {f : Addr} {fd : FuncData} (F : Fun K "both" "both" sBoth f fd) : FnOk P w K mg base CX0 1 f fd ["one", "other"] spBoth := by
  refine F.ok scBoth (fun vs H Q E h => ?_) (fun cdv A outer s H vs Q E hr h => ?_)
  · obtain ⟨p, q, rfl, _⟩ := h
    rfl
  · obtain ⟨p, q, rfl, k⟩ := h
    refine ⟨_, pss_cons (ps_if (PW.pt (pw_or (pt_cmpR op_isN (pv 0) pe_non (nomark _)) (pw_or1 (pt_cmpR op_isN (pv 1) pe_non (nomark _))))) (pss_one (ps_ret pe_non)) pss_nil)
        (pss_one (ps_ret (pe_op op_add (pv 0) (pv 1)))), ?_⟩
    cases p with
    | none => exact ⟨_, rfl, rfl, _, rfl, iteY rfl (iteT k)⟩
    | some a =>
      refine ⟨_, rfl, rfl, _, rfl, iteN int_non ?_⟩
      cases q with
      | none => exact ⟨_, rfl, rfl, _, rfl, iteY rfl k⟩
      | some b => exact ⟨_, rfl, rfl, _, rfl, iteN int_non ⟨_, rfl, _, rfl, a, b, rfl, rfl, k⟩⟩
end
end LT
set_option Elab.async false
set_option linter.all false
set_option maxRecDepth 100000
set_option maxHeartbeats 1000000
/-! row_by, product -/
namespace LT
open PySem PySem.Spec PyProof.Rows L2 OwnZ
theorem foldl_take_succ {α β : Type} (f : β → α → β) (z : β) (l : List α) (i : Nat) (x : α) (h : l[i]? = some x) : (l.take (i + 1)).foldl f z = f ((l.take i).foldl f z) x := by
  rw [List.take_add_one, h, List.foldl_append]
  rfl
theorem map_at {α β : Type} {f : α → β} {l : List α} {i : Nat} {y : β} (h : (l.map f)[i]? = some y) : ∃ x, l[i]? = some x ∧ y = f x := by
  rw [List.getElem?_map] at h
  cases e : l[i]? with
  | none => rw [e] at h; cases h
  | some x =>
    rw [e] at h
    exact ⟨x, rfl, (Option.some.inj h).symm⟩
theorem at_map {α β : Type} {f : α → β} {l : List α} {i : Nat} {x : α} (h : l[i]? = some x) : (l.map f)[i]? = some (f x) := by
  rw [List.getElem?_map, h]
  rfl
theorem lt_of_at {α : Type} {l : List α} {i : Nat} {x : α} (h : l[i]? = some x) : i < l.length := (List.getElem?_eq_some_iff.mp h).1
theorem take_succ_map {α β : Type} (f : α → β) (l : List α) (i : Nat) (x : α) (h : l[i]? = some x) : ((l.take (i + 1)).map f) = (l.take i).map f ++ [f x] := by
  rw [List.take_add_one, h, List.map_append]
  rfl
theorem walk_LT {K : PySem.W.Frag} {a b : Addr} {xs ys : List V} {n : Nat} (hx : xs.length = n) (hy : ys.length = n) : Walk (ItLT K a b) n (fun H => SqL K H a xs ∧ SqT K H b ys) (YPair (fun i => xs[i]?) (fun i => ys[i]?)) where
  goes := fun i H hi ⟨h1, h2⟩ => ⟨xs, ys, xs[i], ys[i], h1, h2, List.getElem?_eq_getElem (by omega), List.getElem?_eq_getElem (by omega)⟩
  stops := fun H ⟨h1, h2⟩ => ⟨xs, ys, h1, h2, by omega, by omega, .inl hx⟩
  yields := fun i H v H' hi ⟨h1, h2⟩ ⟨T, x, y, e1, e2, e3, e4, e5⟩ => ⟨T, x, y, e1, e2, e3, e4 xs h1, e5 ys h2⟩
section
variable {P : Program} {w : World} {K : PySem.W.Frag} {mg : Str → Option Value} {base : Heap}
def spRowBy : Sp := fun vs H Q _ => ∃ (a b : Addr) (n : Nat) (r : List Pr) (t : List (List Pr)), vs = [.ref a, .ref b] ∧ RowAt H a r ∧ TabAt H b t ∧ r.length = n ∧ Sq n t ∧ n ≤ 5 ∧
  ∀ H' p, Same H H' → RowAt H' p (rowBy r t) → Q (.ref p) H'
theorem ok_rowBy {f fL fB : Addr} {fd fdL fdB : FuncData} (F : Fun K "row_by" "row_by" sRowBy f fd) (FL : Fun K "lesser" "lesser" sLesser fL fdL) (bL : Binds K fdL ["one", "other"] []) (gL : mg "lesser" = some (.ref fL))
    (FB : Fun K "both" "both" sBoth fB fdB) (bB : Binds K fdB ["one", "other"] []) (gB : mg "both" = some (.ref fB)) (mz : mg "zip" = none) (mt : mg "tuple" = none) :
    FnOk P w K mg base CX0 2 f fd ["row", "table"] spRowBy := by
  have GL : FnOk P w K mg base CX0 1 fL fdL ["one", "other"] spLesser := ok_lesser FL
  have GB : FnOk P w K mg base CX0 1 fB fdB ["one", "other"] spBoth := ok_both FB
  refine F.ok scRowBy (fun vs H Q E h => ?_) (fun cdv A outer s H vs Q E hr h => ?_)
  · obtain ⟨a, b, n, r, t, rfl, _⟩ := h
    rfl
  · obtain ⟨a, b, n, r, t, rfl, hA, ⟨as, hB, hP⟩, hn, hsq, h5, k⟩ := h
    have hlas : as.length = n := by rw [hP.length, hsq.len]
    refine ⟨_, pss_cons (ps_setLc (i := 2) (own := [("price", 3)]) (g := gName 3) (tt := tYes) rfl scRowBy.nd rfl rfl (sw_true rfl rfl rfl (by decide +kernel)) (pi_tup (pv 0)) (blkOk_by (N := ["row", "table", "found", "price", "line", "so_far", "more"]) (sc := defScope sRowBy) (by decide +kernel))
          (fun _ _ _ _ _ => pg_name (i := 3) scRowBy.nd rfl (Or.inl rfl)) (fun _ _ _ _ _ => pts_nil) (fun _ _ _ _ _ => pe_non))
      (pss_cons (ps_for PassesOwn.never rfl (RZ.pi_zipA (by rfl) mz (pa_cons (pv 0) (pa_cons (pv 1) pa_nil)))
          (pg_tup rfl (pgs_cons (pg_name (i := 3) scRowBy.nd rfl (Or.inr rfl)) (pgs_cons (pg_name (i := 4) scRowBy.nd rfl (Or.inl rfl)) pgs_nil)))
          (pss_one (ps_if (pt_cmpR op_notN (pv 3) pe_non (nomark _))
            (pss_one (ps_setLc (i := 2) (own := [("so_far", 5), ("more", 6)]) (g := gTup K 2 (gCons (gName 5) (gCons (gName 6) gNil))) (tt := tYes) rfl scRowBy.nd rfl rfl (sw_true rfl rfl rfl (by decide +kernel))
              (pi_zipLT (by rfl) mz (pa_cons (pv 2) (pa_cons (pv 4) pa_nil))) (blkOk_by (N := ["row", "table", "found", "price", "line", "so_far", "more"]) (sc := defScope sRowBy) (by decide +kernel))
              (fun _ _ _ _ _ => pg_tup rfl (pgs_cons (pg_name (i := 5) scRowBy.nd rfl (Or.inl rfl)) (pgs_cons (pg_name (i := 6) scRowBy.nd rfl (Or.inl rfl)) pgs_nil))) (fun _ _ _ _ _ => pts_nil)
              (fun _ _ _ _ _ => pe_call GL hr (by rfl) gL FL.kp bL .nil pass0 (pa_cons (pv 5) (pa_cons (pe_call GB hr (by rfl) gB FB.kp bB .nil pass0 (pa_cons (pv 3) (pa_cons (pv 6) pa_nil))) pa_nil)))))
            pss_nil)))
      (pss_one (ps_ret (pe_callTy call_tuple_of (by rfl) mt (by decide +kernel) (pa_cons (pv 2) pa_nil))))), ?_⟩
    -- found = [None for price in row]
    refine ⟨.ref a, rfl, a, rfl, ⟨_, SqT.of hA⟩, fun D nD => lc_tup (K := K) (a := a) (xs := r.map pV) (fun i H' => Same H H' ∧ H' D = some (.lst (List.replicate i .non))) ⟨same_new nD, upd_same⟩ (fun i H' _ z => SqT.of (z.1 _ _ hA)) ?_ ?_⟩
    · rintro i x H' hx ⟨s1, hD⟩
      have hi := lt_of_at hx
      rw [List.length_map] at hi
      refine ⟨rfl, _, hD, by rw [List.length_replicate]; exact small5' (by omega), s1.put nD, ?_⟩
      rw [upd_same, List.replicate_succ']
    rintro H1 ⟨s1, hD⟩
    have e0 : (List.replicate (r.map pV).length V.non) = (r.map fun _ => (none : Pr)).map pV := by
      rw [List.map_map, List.length_map]
      show List.replicate r.length V.non = r.map (fun _ => V.non)
      rw [List.map_const']
    rw [e0] at hD
    -- for price, line in zip(row, table)
    refine ⟨.ref a, rfl, .ref b, rfl, a, b, r.map pV, as.map V.ref, rfl, .inr ⟨SqT.of (s1 _ _ hA), SqT.of (s1 _ _ hB), ?_⟩⟩
    refine RZ.for_zipT (K := K) (xs := r.map pV) (ys := as.map V.ref) (by rw [List.length_map, List.length_map]; omega)
      (fun i σ H' => ∃ (D : Addr) (y3 y4 : Option V), σ = [some (.ref a), some (.ref b), some (.ref D), y3, y4, none, none] ∧ Same H H' ∧ H' D = some (.lst ((((r.zip t).take i).foldl rowStep (r.map fun _ => none)).map pV)))
      ⟨D, none, none, rfl, s1, hD⟩ (fun i σ H' ⟨_, _, _, _, z, _⟩ => ⟨SqT.of (z _ _ hA), SqT.of (z _ _ hB)⟩) ?_ ?_
    · rintro i x y T σ H2 hx hy ⟨D2, y3, y4, rfl, s2, hD2⟩ nT
      obtain ⟨p, hp, rfl⟩ := map_at hx
      obtain ⟨l, hl, rfl⟩ := map_at hy
      obtain ⟨line, hline, hrow⟩ := paired_get hP hl
      have hz : (r.zip t)[i]? = some (p, line) := List.getElem?_zip_eq_some.mpr ⟨hp, hline⟩
      have hstep := foldl_take_succ rowStep (r.map fun _ => none) (r.zip t) i (p, line) hz
      have hlen : (((r.zip t).take i).foldl rowStep (r.map fun _ => none)).length = n := by
        rw [rowFold_len, List.length_map, hn]
        intro pl hpl
        rw [List.length_map, hn]
        exact hsq.row _ (List.of_mem_zip (List.mem_of_mem_take hpl)).2
      have hll : line.length = n := hsq.row _ (List.mem_of_getElem? hline)
      generalize hfd : ((r.zip t).take i).foldl rowStep (r.map fun _ => none) = fnd at hD2 hstep hlen
      have s3 : Same H (upd H2 T (.tup [pV p, .ref l])) := s2.new nT
      have hD3 : (upd H2 T (.tup [pV p, .ref l])) D2 = some (.lst (fnd.map pV)) := same_new nT _ _ hD2
      refine ⟨T, [pV p, .ref l], rfl, SqT.of upd_same, rfl, pV p, [.ref l], rfl, .ref l, [], rfl, rfl, ?_⟩
      refine ⟨pV p, rfl, rfl, _, rfl, ?_⟩
      cases p with
      | none =>
        refine iteNn rfl ⟨D2, _, _, rfl, s3, ?_⟩
        rw [hstep]
        exact hD3
      | some c =>
        refine iteYn int_non ?_
        refine ⟨.ref D2, rfl, .ref l, rfl, D2, l, fnd.map pV, line.map pV, rfl, SqL.of hD3, SqT.of (s3 _ _ hrow), fun D4 nD4 => ?_⟩
        have hne : D2 ≠ D4 := ne_of_none hD3 nD4
        have hst : ∀ j, j < n → ((List.zipWith (fun s m => lesser s (both (some c) m)) fnd line)[j]?) = (fnd[j]?).bind fun s => (line[j]?).map fun m => lesser s (both (some c) m) := fun j hj => by
          rw [List.getElem?_zipWith, List.getElem?_eq_getElem (by omega), List.getElem?_eq_getElem (by omega)]
          rfl
        refine lc_it (walk_LT (K := K) (n := n) (by rw [List.length_map]; exact hlen) (by rw [List.length_map]; exact hll))
          (fun j H' => Same (upd H2 T (.tup [pV (some c), .ref l])) H' ∧ H' D4 = some (.lst (((List.zipWith (fun s m => lesser s (both (some c) m)) fnd line).take j).map pV)))
          ⟨same_new nD4, upd_same⟩ (fun j H' _ z => ⟨SqL.of (z.1 _ _ hD3), SqT.of (z.1 _ _ (s3 _ _ hrow))⟩) ?_ ?_
        · rintro j v H4 H5 hj ⟨s4, hD4⟩ ⟨T2, x2, y2, rfl, nT2, rfl, ex, ey⟩
          obtain ⟨sf, hsf, rfl⟩ := map_at ex
          obtain ⟨mo, hmo, rfl⟩ := map_at ey
          have s5 := Same.new (o := .tup [pV sf, pV mo]) s4 nT2
          have hD5 : (upd H4 T2 (.tup [pV sf, pV mo])) D4 = _ := same_new nT2 _ _ hD4
          refine ⟨T2, [pV sf, pV mo], rfl, SqT.of upd_same, rfl, pV sf, [pV mo], rfl, pV mo, [], rfl, rfl, rfl, ?_⟩
          refine ⟨pV sf, rfl, .int c, rfl, pV mo, rfl, some c, mo, rfl, sf, both (some c) mo, rfl, _, hD5, ?_, s5.put nD4, ?_⟩
          · rw [List.length_map, List.length_take]
            exact small5' (Nat.le_trans (Nat.min_le_left _ _) (by omega))
          · rw [upd_same]
            have := take_succ_map pV (List.zipWith (fun s m => lesser s (both (some c) m)) fnd line) j (lesser sf (both (some c) mo)) (by rw [hst j hj, hsf, hmo]; rfl)
            rw [this]
        · rintro H4 ⟨s4, hD4⟩
          refine ⟨D4, _, _, rfl, s3.trans s4, ?_⟩
          rw [hstep, hD4]
          have e1 : rowStep fnd (some c, line) = List.zipWith (fun s m => lesser s (both (some c) m)) fnd line := if_neg (by intro z; cases z)
          rw [e1, List.take_of_length_le (by rw [List.length_zipWith, hlen, hll, Nat.min_self]; exact Nat.le_refl _)]
    · rintro σ H2 ⟨D2, y3, y4, rfl, s2, hD2⟩
      have e1 : (r.zip t).take (r.map pV).length = r.zip t := List.take_of_length_le (by rw [List.length_map, List.length_zip]; exact Nat.min_le_left _ _)
      rw [e1] at hD2
      refine ⟨.ref D2, rfl, D2, _, rfl, .inl ⟨SqL.of hD2, fun p np => ?_⟩⟩
      exact k _ p (s2.new np) upd_same
end
end LT
set_option Elab.async false
set_option linter.all false
set_option maxRecDepth 100000
set_option maxHeartbeats 1000000
/-! product, plain -/
namespace LT
open PySem PySem.Spec PyProof.Rows L2 OwnZ
def lcScope : Expr → Scope
  | .ListComp _ _ sc _ => sc
  | _ => { kind := .function, names := [], isGenerator := false, isCoroutine := false }
def retArg : Stmt → Expr
  | .Return (some (.Call _ (a :: _) _ _)) _ => a
  | _ => .Constant .none 0 ⟨0, 0, 0, 0⟩
def bodyAt (s : Stmt) (i : Nat) : Stmt := (defBody s).getD i (.Pass ⟨0, 0, 0, 0⟩)
section
variable {P : Program} {w : World} {K : PySem.W.Frag} {mg : Str → Option Value} {base : Heap}
def spProduct : Sp := fun vs H Q _ => ∃ (a b : Addr) (n : Nat) (t u : List (List Pr)), vs = [.ref a, .ref b] ∧ TabAt H a t ∧ TabAt H b u ∧ Sq n t ∧ Sq n u ∧ n ≤ 5 ∧
  ∀ H' p, Same H H' → TabAt H' p (product t u) → Q (.ref p) H'
theorem ok_product {f fR : Addr} {fd fdR : FuncData} (F : Fun K "product" "product" sProduct f fd) (GR : FnOk P w K mg base CX0 2 fR fdR ["row", "table"] spRowBy) (kR : PySem.W.keepIn K (.ref fR) = true) (bR : Binds K fdR ["row", "table"] []) (gR : mg "row_by" = some (.ref fR))
    (mt : mg "tuple" = none) : FnOk P w K mg base CX0 3 f fd ["one", "other"] spProduct := by
  refine F.ok scProduct (fun vs H Q E h => ?_) (fun cdv A outer s H vs Q E hr h => ?_)
  · obtain ⟨a, b, n, t, u, rfl, _⟩ := h
    rfl
  · obtain ⟨a, b, n, t, u, rfl, ⟨as, hA, hP⟩, hB, ht, hu, h5, k⟩ := h
    have hlas : as.length = n := by rw [hP.length, ht.len]
    refine ⟨_, pss_one (ps_ret (pe_callTy call_tuple_of (by rfl) mt (by decide +kernel) (pa_cons (pe_lc (own := [("row", 2)]) (g := gName 2) (tt := tYes) rfl scProduct.nd (pi_tup (pv 0))
      (blkOk_by (N := ["one", "other", "row"]) (sc := defScope sProduct) (by decide +kernel)) (fun _ _ _ _ _ => pg_name (i := 2) scProduct.nd rfl (Or.inl rfl)) (fun _ _ _ _ _ => pts_nil)
      (fun _ _ _ _ _ => pe_call GR hr (by rfl) gR kR bR .nil pass0 (pa_cons (pv 2) (pa_cons (pv 1) pa_nil)))) pa_nil))), ?_⟩
    refine ⟨.ref a, rfl, a, rfl, ⟨_, SqT.of hA⟩, fun D nD => lc_tup (K := K) (a := a) (xs := as.map V.ref)
      (fun i H' => Same H H' ∧ ∃ ps : List Addr, H' D = some (.lst (ps.map V.ref)) ∧ Paired (RowAt H') ps ((t.take i).map fun r => rowBy r u)) ⟨same_new nD, [], upd_same, .nil⟩ (fun i H' _ z => SqT.of (z.1 _ _ hA)) ?_ ?_⟩
    · rintro i x H' hx ⟨s1, ps, hD, hps⟩
      obtain ⟨l, hl, rfl⟩ := map_at hx
      obtain ⟨row, hrow, hat⟩ := paired_get hP hl
      refine ⟨rfl, .ref l, rfl, .ref b, rfl, l, b, n, row, u, rfl, s1 _ _ hat, hB.mono s1, ht.row _ (List.mem_of_getElem? hrow), hu, h5, fun H2 p s2 hp => ?_⟩
      have lps := hps.length
      refine ⟨_, s2 _ _ hD, ?_, (s1.trans s2).put nD, ps ++ [p], ?_, ?_⟩
      · rw [List.length_map, lps, List.length_map, List.length_take, ht.len]
        exact small5' (Nat.le_trans (Nat.min_le_right _ _) h5)
      · rw [upd_same, List.map_append]
        rfl
      · rw [take_succ_map _ _ _ _ hrow]
        have hpD : p ≠ D := ne_of hp (s2 _ _ hD) (by intro z; cases z)
        have keep : ∀ q r, RowAt H2 q r → RowAt (upd H2 D (.lst (ps.map V.ref ++ [.ref p]))) q r := fun q r e => by
          have hq : q ≠ D := ne_of e (s2 _ _ hD) (by intro z; cases z)
          show upd H2 D _ q = _
          rw [upd_ne hq]
          exact e
        exact paired_snoc (paired_map hps fun q r e => keep q r (s2 _ _ e)) (keep p _ hp)
    · rintro H1 ⟨s1, ps, hD, hps⟩
      rw [List.take_of_length_le (by rw [List.length_map, hlas, ht.len]; exact Nat.le_refl _)] at hps
      refine ⟨D, _, rfl, .inl ⟨SqL.of hD, fun p np => ?_⟩⟩
      exact k _ p (s1.new np) ⟨ps, upd_same, paired_map hps fun q r e => same_new np _ _ e⟩
/-! ### plain -/
def spPlain : Sp := fun vs H Q _ => ∃ n : Nat, vs = [.int (n : Int)] ∧ n ≤ 5 ∧ ∀ H' p, Same H H' → TabAt H' p (plain n) → Q (.ref p) H'
theorem ok_plain {f : Addr} {fd : FuncData} (F : Fun K "plain" "plain" sPlain f fd) (mt : mg "tuple" = none) (mr : mg "range" = none) : FnOk P w K mg base CX0 1 f fd ["n"] spPlain := by
  refine F.ok scPlain (fun vs H Q E h => ?_) (fun cdv A outer s H vs Q E hr h => ?_)
  · obtain ⟨n, rfl, _⟩ := h
    rfl
  · obtain ⟨n, rfl, h5, k⟩ := h
    refine ⟨_, pss_one (ps_ret (pe_callTy call_tuple_of (by rfl) mt (by decide +kernel) (pa_cons (pe_lc (own := [("i", 1)]) (g := gName 1) (tt := tYes) rfl scPlain.nd (pi_range1 (by rfl) mr (pa_cons (pv 0) pa_nil))
      (blkOk_by (N := ["n", "i", "j"]) (sc := defScope sPlain) (by decide +kernel)) (fun _ _ _ _ _ => pg_name (i := 1) scPlain.nd rfl (Or.inr rfl)) (fun _ _ _ _ _ => pts_nil)
      (fun _ _ _ _ _ => pe_tupOf (K := K) rfl (by rfl) mt (pa_cons (pe_lc (own := [("j", 2)]) (g := gName 2) (tt := tYes) rfl scPlain.nd (pi_range1 (by rfl) mr (pa_cons (pv 0) pa_nil))
        (blkOk_by (N := ["n", "i", "j"]) (sc := relS (lcScope (retArg (bodyAt sPlain 0))) (defScope sPlain)) (by decide +kernel)) (fun _ _ _ _ _ => pg_name (i := 2) scPlain.nd rfl (Or.inl rfl)) (fun _ _ _ _ _ => pts_nil)
        (fun _ _ _ _ _ => pe_ifExp (pt_cmpR op_eq (pv 1) (pv 2) (nomark _)) pe_int pe_non)) pa_nil))) pa_nil))), ?_⟩
    have hb : -(2 ^ 62) ≤ (n : Int) ∧ (n : Int) < 2 ^ 62 := by constructor <;> omega
    have e0 : ((n : Int)).toNat = n := Int.toNat_natCast n
    refine ⟨.int n, rfl, (n : Int), rfl, hb.1, hb.2, fun D nD => lc_range (lo := 0) (n := (n : Int).toNat)
      (fun i H' => Same H H' ∧ ∃ ps : List Addr, H' D = some (.lst (ps.map V.ref)) ∧ Paired (RowAt H') ps ((plain n).take i)) ⟨same_new nD, [], upd_same, .nil⟩ ?_ ?_⟩
    · rintro i H1 hi ⟨s1, ps, hD, hps⟩
      rw [e0] at hi
      have hrow : (plain n)[i]? = some ((List.range n).map fun j => if i = j then some 0 else none) := by
        unfold plain
        rw [List.getElem?_map, List.getElem?_range hi]
        rfl
      refine ⟨rfl, .int n, rfl, (n : Int), rfl, hb.1, hb.2, fun D2 nD2 => lc_range (lo := 0) (n := (n : Int).toNat)
        (fun j H' => Same H1 H' ∧ H' D2 = some (.lst ((((List.range n).map fun j => if i = j then (some 0 : Pr) else none).take j).map pV))) ⟨same_new nD2, upd_same⟩ ?_ ?_⟩
      · rintro j H2 hj ⟨s2, hD2⟩
        rw [e0] at hj
        refine ⟨rfl, .int (0 + i), rfl, .int (0 + j), rfl, rfl, _, rfl, ?_⟩
        have hat : ((List.range n).map fun j => if i = j then (some 0 : Pr) else none)[j]? = some (if i = j then some 0 else none) := by
          rw [List.getElem?_map, List.getElem?_range hj]
          rfl
        have fin : ∀ v, v = pV (if i = j then some 0 else none) → ∃ acc, H2 D2 = some (.lst acc) ∧ acc.length < sizeLine ∧ Same H1 (upd H2 D2 (.lst (acc ++ [v]))) ∧ (upd H2 D2 (.lst (acc ++ [v]))) D2 = some (.lst ((((List.range n).map fun j => if i = j then (some 0 : Pr) else none).take (j + 1)).map pV)) := fun v ev => by
          refine ⟨_, hD2, ?_, s2.put nD2, ?_⟩
          · rw [List.length_map, List.length_take]
            exact small5' (Nat.le_trans (Nat.min_le_left _ _) (by omega))
          · rw [upd_same, take_succ_map _ _ _ _ hat, ev]
        by_cases h : i = j
        · refine iteY (by rw [h]) (fin _ ?_)
          rw [if_pos h]
          rfl
        · refine iteN (fun z => h (by have := V.int.inj z; omega)) (fin _ ?_)
          rw [if_neg h]
          rfl
      · rintro H2 ⟨s2, hD2⟩
        rw [e0, List.take_of_length_le (by rw [List.length_map, List.length_range]; exact Nat.le_refl _)] at hD2
        refine ⟨D2, _, rfl, .inl ⟨SqL.of hD2, fun p np => ?_⟩⟩
        have s3 := s2.new (o := .tup (((List.range n).map fun j => if i = j then (some 0 : Pr) else none).map pV)) np
        have hD3 := s3 _ _ hD
        have lps := hps.length
        refine ⟨_, hD3, ?_, (s1.trans s3).put nD, ps ++ [p], ?_, ?_⟩
        · rw [List.length_map, lps, List.length_take]
          exact small5' (Nat.le_trans (Nat.min_le_left _ _) (by omega))
        · rw [upd_same, List.map_append]
          rfl
        · have hpl : (plain n).take (i + 1) = (plain n).take i ++ [(List.range n).map fun j => if i = j then some 0 else none] := by
            rw [List.take_add_one, hrow]
            rfl
          rw [hpl]
          have keep : ∀ q r, RowAt (upd H2 p (.tup (((List.range n).map fun j => if i = j then (some 0 : Pr) else none).map pV))) q r → RowAt (upd (upd H2 p (.tup (((List.range n).map fun j => if i = j then (some 0 : Pr) else none).map pV))) D (.lst (ps.map V.ref ++ [.ref p]))) q r := fun q r e => by
            have hq : q ≠ D := ne_of e hD3 (by intro z; cases z)
            show upd _ D _ q = _
            rw [upd_ne hq]
            exact e
          exact paired_snoc (paired_map hps fun q r e => keep q r (s3 _ _ e)) (keep p _ upd_same)
    · rintro H1 ⟨s1, ps, hD, hps⟩
      rw [e0, List.take_of_length_le (by rw [(plain_sq n).len]; exact Nat.le_refl _)] at hps
      refine ⟨D, _, rfl, .inl ⟨SqL.of hD, fun p np => ?_⟩⟩
      exact k _ p (s1.new np) ⟨ps, upd_same, paired_map hps fun q r e => same_new np _ _ e⟩
end
end LT
set_option Elab.async false
set_option linter.all false
set_option maxRecDepth 100000
set_option maxHeartbeats 1000000
/-! a list of own objects; letter_table -/
namespace LT
open PySem PySem.Spec PyProof.Rows L2 OwnZ
theorem ixN_nat {n j : Nat} (h : j < n) : ixN n (j : Int) = some j := by
  unfold ixN
  rw [if_pos (Int.natCast_nonneg j), if_pos (by omega), Int.toNat_natCast]
theorem atN {l : List V} {j : Nat} {v : V} (h : l[j]? = some v) : atI l (j : Int) = some v := atI_nat h
theorem sg_inj {a b : Nat} (z : V.str (sg a) = V.str (sg b)) : a = b := by
  have q := sg_eq (a := a) (b := b)
  exact of_decide_eq_true (q.symm.trans (decide_eq_true z))
theorem paired_mapM {α β : Type} {F G : α → β → Prop} : ∀ {l₁ : List α} {l₂ : List β}, Paired F l₁ l₂ → (∀ a ∈ l₁, ∀ b, F a b → G a b) → Paired G l₁ l₂
  | _, _, .nil, _ => .nil
  | _, _, .cons r t, f => .cons (f _ List.mem_cons_self _ r) (paired_mapM t fun a ha b => f a (List.mem_cons_of_mem _ ha) b)
theorem paired_set {α β : Type} {F G : α → β → Prop} {b : β} : ∀ {l₁ : List α} {l₂ : List β} {i : Nat} {a : α}, Paired F l₁ l₂ → l₁.Nodup → l₁[i]? = some a → G a b → (∀ x ∈ l₁, x ≠ a → ∀ y, F x y → G x y) → Paired G l₁ (l₂.set i b)
  | _, _, _, _, .nil, _, h, _, _ => by simp at h
  | x :: xs, y :: ys, 0, a, .cons r t, nd, h, g, k => by
    have e : x = a := Option.some.inj h
    subst e
    obtain ⟨n1, n2⟩ := List.nodup_cons.mp nd
    exact .cons g (paired_mapM t fun z hz q hq => k z (List.mem_cons_of_mem _ hz) (fun e => n1 (e ▸ hz)) q hq)
  | x :: xs, y :: ys, i + 1, a, .cons r t, nd, h, g, k => by
    obtain ⟨n1, n2⟩ := List.nodup_cons.mp nd
    have h' : xs[i]? = some a := by simpa using h
    exact .cons (k x List.mem_cons_self (fun e => n1 (e ▸ List.mem_of_getElem? h')) y r) (paired_set t n2 h' g fun z hz => k z (List.mem_cons_of_mem _ hz))
/-- a list at D of objects of its own at ls, what they hold told by o and t -/
structure ObjsAt {β : Type} (o : β → HO) (H0 H : Hp) (D : Addr) (ls : List Addr) (t : List β) : Prop where
  same : Same H0 H
  at_ : H D = some (.lst (ls.map V.ref))
  rows : Paired (fun x r => H x = some (o r)) ls t
  nd : ls.Nodup
  out : D ∉ ls
  fresh : ∀ x ∈ ls, H0 x = none
  freshD : H0 D = none
section
variable {β : Type} {o : β → HO} {H0 H H' : Hp} {D : Addr} {ls : List Addr} {t : List β}
theorem ObjsAt.start (h : H0 D = none) : ObjsAt o H0 (upd H0 D (.lst [])) D [] [] where
  same := same_new h
  at_ := upd_same
  rows := .nil
  nd := .nil
  out := by simp
  fresh := fun _ z => nomatch z
  freshD := h
theorem ObjsAt.mono (a : ObjsAt o H0 H D ls t) (s : Same H H') : ObjsAt o H0 H' D ls t :=
  ⟨a.same.trans s, s _ _ a.at_, paired_map a.rows fun _ _ e => s _ _ e, a.nd, a.out, a.fresh, a.freshD⟩
theorem ObjsAt.len (a : ObjsAt o H0 H D ls t) : ls.length = t.length := a.rows.length
theorem ObjsAt.get (a : ObjsAt o H0 H D ls t) {i : Nat} (hi : i < t.length) : ∃ x, ls[i]? = some x ∧ H x = some (o t[i]) := by
  obtain ⟨x, e, h⟩ := paired_at a.rows (List.getElem?_eq_getElem hi)
  exact ⟨x, e, h⟩
theorem ObjsAt.push (a : ObjsAt o H0 H D ls t) {x : Addr} {r : β} (s : Same H H') (hx : H x = none) (hr : H' x = some (o r)) : ObjsAt o H0 (upd H' D (.lst (ls.map V.ref ++ [.ref x]))) D (ls ++ [x]) (t ++ [r]) := by
  have hD : x ≠ D := fun e => by rw [e, a.at_] at hx; cases hx
  have hls : ∀ y ∈ ls, y ≠ x := fun y hy e => by
    obtain ⟨i, hi⟩ := List.mem_iff_getElem?.mp hy
    obtain ⟨b, _, hb⟩ := paired_get a.rows hi
    rw [e, hx] at hb
    cases hb
  refine ⟨(a.same.trans s).put a.freshD, by rw [upd_same, List.map_append]; rfl, paired_snoc (paired_mapM a.rows fun y hy b hb => ?_) ?_, ?_, ?_, ?_, a.freshD⟩
  · have hyD : y ≠ D := fun e => a.out (e ▸ hy)
    rw [upd_ne hyD]
    exact s _ _ hb
  · rw [upd_ne hD]; exact hr
  · rw [List.nodup_append]
    exact ⟨a.nd, by simp, fun y hy z hz e => hls y hy (e.trans (List.mem_singleton.mp hz))⟩
  · intro z
    rcases List.mem_append.mp z with z | z
    · exact a.out z
    · exact hD (List.mem_singleton.mp z).symm
  · intro y hy
    rcases List.mem_append.mp hy with z | z
    · exact a.fresh y z
    · rw [List.mem_singleton.mp z]; exact a.same.free hx
theorem ObjsAt.write (a : ObjsAt o H0 H D ls t) {i : Nat} {x : Addr} {r : β} (hx : ls[i]? = some x) : ObjsAt o H0 (upd H x (o r)) D ls (t.set i r) := by
  have hm := List.mem_of_getElem? hx
  refine ⟨a.same.put (a.fresh x hm), ?_, paired_set a.rows a.nd hx upd_same (fun y hy ne b hb => by rw [upd_ne ne]; exact hb), a.nd, a.out, a.fresh, a.freshD⟩
  rw [upd_ne (fun e => a.out (by rw [e]; exact hm))]
  exact a.at_
end
/-! ### letter_table -/
abbrev sLetter : Stmt := topS 6
abbrev nLetter : List Str := ["machine", "letter", "lines", "start", "sign", "goal", "cost", "i", "j", "line"]
theorem scLetter : FnScope nLetter ["machine", "letter"] (defScope sLetter) := ⟨rfl, rfl, rfl, by decide +kernel, rfl, by decide +kernel, by decide +kernel⟩
def setScope : Stmt → Scope
  | .Assign _ e _ => lcScope e
  | _ => { kind := .function, names := [], isGenerator := false, isCoroutine := false }
section
variable {P : Program} {w : World} {K : PySem.W.Frag} {mg : Str → Option Value} {base : Heap}
def spLetter : Sp := fun vs H Q _ => ∃ (m : Addr) (M : Mach) (c : Nat), vs = [.ref m, .str (sg c)] ∧ IsMach H m M ∧ M.Ok ∧ ∀ H' p, Same H H' → TabAt H' p (letterTable M.n M.ds c) → Q (.ref p) H'
theorem ok_letter {f fL : Addr} {fd fdL : FuncData} (F : Fun K "letter_table" "letter_table" sLetter f fd) (FL : Fun K "lesser" "lesser" sLesser fL fdL) (bL : Binds K fdL ["one", "other"] []) (gL : mg "lesser" = some (.ref fL))
    (mr : mg "range" = none) (mt : mg "tuple" = none) : FnOk P w K mg base CX0 2 f fd ["machine", "letter"] spLetter := by
  have GL : FnOk P w K mg base CX0 1 fL fdL ["one", "other"] spLesser := ok_lesser FL
  refine F.ok scLetter (fun vs H Q E h => ?_) (fun cdv A outer s H vs Q E hr h => ?_)
  · obtain ⟨m, M, c, rfl, _⟩ := h
    rfl
  · obtain ⟨m, M, c, rfl, ⟨b, e, d, as, hm⟩, ok, k⟩ := h
    refine ⟨_, pss_cons (ps_setLc (i := 2) (own := [("i", 7)]) (g := gName 7) (tt := tYes) rfl scLetter.nd rfl rfl (sw_true rfl rfl rfl (by decide +kernel)) (pi_range1 (by rfl) mr (pa_cons (pe_ixT (K := K) rfl (pv 0) pe_int) pa_nil))
          (blkOk_by (N := nLetter) (sc := defScope sLetter) (by decide +kernel)) (fun _ _ _ _ _ => pg_name (i := 7) scLetter.nd rfl (Or.inl rfl)) (fun _ _ _ _ _ => pts_nil)
          (fun _ _ _ _ _ => pe_lc (own := [("j", 8)]) (g := gName 8) (tt := tYes) rfl scLetter.nd (pi_range1 (by rfl) mr (pa_cons (pe_ixT (K := K) rfl (pv 0) pe_int) pa_nil))
            (blkOk_by (N := nLetter) (sc := relS (setScope (bodyAt sLetter 0)) (defScope sLetter)) (by decide +kernel)) (fun _ _ _ _ _ => pg_name (i := 8) scLetter.nd rfl (Or.inl rfl)) (fun _ _ _ _ _ => pts_nil) (fun _ _ _ _ _ => pe_non)))
      (pss_cons (ps_for PassesOwn.never rfl (pi_tup (pe_ixT (K := K) rfl (pv 0) pe_int))
          (pg_tup rfl (pgs_cons (pg_name (i := 3) scLetter.nd rfl (Or.inl rfl)) (pgs_cons (pg_name (i := 4) scLetter.nd rfl (Or.inl rfl)) (pgs_cons (pg_name (i := 5) scLetter.nd rfl (Or.inl rfl)) (pgs_cons (pg_name (i := 6) scLetter.nd rfl (Or.inl rfl)) pgs_nil)))))
          (pss_one (ps_if (pt_cmpR op_eq (pv 4) (pv 1) (nomark _))
            (pss_one (ps_asg (pe_call GL hr (by rfl) gL FL.kp bL .nil pass0 (pa_cons (pe_ixL (K := K) rfl (pe_ixL (K := K) rfl (pv 2) (pv 3)) (pv 5)) (pa_cons (pv 6) pa_nil)))
              (pg_sub (pe_ixL (K := K) rfl (pv 2) (pv 3)) (pv 5) set_list))) pss_nil)))
      (pss_one (ps_ret (pe_tupOf (K := K) rfl (by rfl) mt (pa_cons (pe_lc (own := [("line", 9)]) (g := gName 9) (tt := tYes) rfl scLetter.nd (pi_list (pv 2))
          (blkOk_by (N := nLetter) (sc := defScope sLetter) (by decide +kernel)) (fun _ _ _ _ _ => pg_name (i := 9) scLetter.nd rfl (Or.inl rfl)) (fun _ _ _ _ _ => pts_nil)
          (fun _ _ _ _ _ => pe_tupOf (K := K) rfl (by rfl) mt (pa_cons (pv 9) pa_nil))) pa_nil))))), ?_⟩
    have hn : -(2 ^ 62) ≤ (M.n : Int) ∧ (M.n : Int) < 2 ^ 62 := by
      have := ok.n5
      constructor <;> omega
    have e0 : ((M.n : Int)).toNat = M.n := Int.toNat_natCast _
    have n5 := ok.n5
    -- lines
    refine ⟨.ref m, rfl, m, _, 1, .int M.n, rfl, rfl, SqT.of hm.all, atN (j := 1) rfl, (M.n : Int), rfl, hn.1, hn.2, fun D nD => lc_range (lo := 0) (n := (M.n : Int).toNat)
      (fun i H' => ∃ ls : List Addr, ObjsAt (fun r => .lst (r.map pV)) H H' D ls ((blank M.n).take i)) ⟨[], .start nD⟩ ?_ ?_⟩
    · rintro i H1 hi ⟨ls, hO⟩
      rw [e0] at hi
      have s1 := hO.same
      refine ⟨rfl, .ref m, rfl, m, _, 1, .int M.n, rfl, rfl, SqT.of (s1 _ _ hm.all), atN (j := 1) rfl, (M.n : Int), rfl, hn.1, hn.2, fun D2 nD2 => lc_range (lo := 0) (n := (M.n : Int).toNat)
        (fun j H' => Same H1 H' ∧ H' D2 = some (.lst (List.replicate j .non))) ⟨same_new nD2, upd_same⟩ ?_ ?_⟩
      · rintro j H2 hj ⟨s2, hD2⟩
        refine ⟨rfl, _, hD2, by rw [List.length_replicate]; exact small5' (by omega), s2.put nD2, ?_⟩
        rw [upd_same, List.replicate_succ']
      · rintro H2 ⟨s2, hD2⟩
        have hl : (blank M.n).take (i + 1) = (blank M.n).take i ++ [List.replicate M.n none] := by
          unfold blank
          rw [List.take_add_one, List.getElem?_eq_getElem (by rw [List.length_replicate]; exact hi), List.getElem_replicate]
          rfl
        have lls := hO.len
        refine ⟨_, s2 _ _ hO.at_, ?_, ls ++ [D2], ?_⟩
        · rw [List.length_map, lls, List.length_take]
          exact small5' (Nat.le_trans (Nat.min_le_left _ _) (by omega))
        · rw [hl]
          refine hO.push s2 nD2 ?_
          rw [hD2, e0, List.map_replicate]
          rfl
    rintro H1 ⟨ls, hO⟩
    rw [e0, List.take_of_length_le (by rw [(blank_sq M.n).len]; exact Nat.le_refl _)] at hO
    -- the doors
    have ddl := hm.dr.length
    refine ⟨.ref m, rfl, m, _, 4, .ref d, rfl, rfl, SqT.of (hO.same _ _ hm.all), atN (j := 4) rfl, d, rfl, ⟨_, SqT.of (hO.same _ _ hm.ds)⟩, for_tup (K := K) (a := d) (xs := as.map V.ref)
      (fun i σ H' => ∃ (y3 y4 y5 y6 : Option V) (ls : List Addr), σ = [some (.ref m), some (.str (sg c)), some (.ref D), y3, y4, y5, y6, none, none, none] ∧ ObjsAt (fun r => .lst (r.map pV)) H H' D ls ((M.ds.take i).foldl (ltStep c) (blank M.n)) ∧ Sq M.n ((M.ds.take i).foldl (ltStep c) (blank M.n)))
      ⟨none, none, none, none, ls, rfl, hO, blank_sq _⟩ (fun i σ H' _ ⟨_, _, _, _, _, _, z, _⟩ => SqT.of (z.same _ _ hm.ds)) ?_ ?_⟩
    · rintro i x σ H2 hx ⟨y3, y4, y5, y6, ls, rfl, hO, hsq⟩
      obtain ⟨q, hq, rfl⟩ := map_at hx
      obtain ⟨dr, hdr, hat⟩ := paired_get hm.dr hq
      have hmem := List.mem_of_getElem? hdr
      obtain ⟨hst, hgl⟩ := ok.dr dr hmem
      have hstep := foldl_take_succ (ltStep c) (blank M.n) M.ds i dr hdr
      have hsq2 : Sq M.n (ltStep c ((M.ds.take i).foldl (ltStep c) (blank M.n)) dr) := ltStep_sq hsq hst
      rw [← hstep] at hsq2
      generalize ht : (M.ds.take i).foldl (ltStep c) (blank M.n) = t at hO hsq hstep
      refine ⟨q, doorV dr, rfl, SqT.of (hO.same _ _ hat), rfl, _, _, rfl, _, _, rfl, _, _, rfl, _, _, rfl, rfl, ?_⟩
      refine ⟨.str (sg dr.sg), rfl, .str (sg c), rfl, rfl, _, rfl, ?_⟩
      by_cases hc : dr.sg = c
      · refine iteY (by rw [hc]) ?_
        obtain ⟨x, hx, hrow⟩ := hO.get (i := dr.st) (by rw [hsq.len]; exact hst)
        have hst' : dr.st < t.length := by rw [hsq.len]; exact hst
        have hrl : (t[dr.st]).length = M.n := hsq.row _ (List.getElem_mem hst')
        have hgl' : dr.gl < (t[dr.st]).length := by rw [hrl]; exact hgl
        have eg : ent t dr.st dr.gl = t[dr.st][dr.gl] := by
          unfold ent
          rw [getD_at _ _ _ hst', getD_at _ _ _ hgl']
        have hls : (ls.map V.ref)[dr.st]? = some (.ref x) := at_map hx
        have hpr : ((t[dr.st]).map pV)[dr.gl]? = some (pV (t[dr.st][dr.gl])) := at_map (List.getElem?_eq_getElem hgl')
        refine ⟨.ref D, rfl, .int dr.st, rfl, D, _, dr.st, .ref x, rfl, rfl, SqL.of hO.at_, atN hls, .int dr.gl, rfl, x, _, dr.gl, _, rfl, rfl, SqL.of hrow, atN hpr, .int dr.co, rfl, t[dr.st][dr.gl], some dr.co, rfl, ?_⟩
        refine ⟨.ref D, rfl, .int dr.st, rfl, D, _, dr.st, .ref x, rfl, rfl, SqL.of hO.at_, atN hls, .int dr.gl, rfl, x, _, dr.gl, dr.gl, rfl, rfl, hrow, ixN_nat (by rw [List.length_map]; exact hgl'), ?_⟩
        refine ⟨_, _, _, _, ls, rfl, ?_, hsq2⟩
        rw [hstep]
        have e1 : ltStep c t dr = t.set dr.st ((t[dr.st]).set dr.gl (lesser (t[dr.st][dr.gl]) (some dr.co))) := by
          unfold ltStep
          rw [if_pos hc, getD_at _ _ _ hst', eg]
        rw [e1]
        have := hO.write (r := (t[dr.st]).set dr.gl (lesser (t[dr.st][dr.gl]) (some dr.co))) hx
        rw [List.map_set] at this
        exact this
      · refine iteN (fun z => hc (sg_inj z)) ?_
        refine ⟨_, _, _, _, ls, rfl, ?_, hsq2⟩
        rw [hstep]
        have e1 : ltStep c t dr = t := if_neg hc
        rw [e1]
        exact hO
    · rintro σ H2 ⟨y3, y4, y5, y6, ls, rfl, hO, hsq⟩
      have e1 : M.ds.take (as.map V.ref).length = M.ds := List.take_of_length_le (by rw [List.length_map]; omega)
      rw [e1] at hO hsq
      -- tuple([tuple(line) for line in lines])
      have lls := hO.len
      refine ⟨.ref D, rfl, D, rfl, ⟨_, SqL.of hO.at_⟩, fun D3 nD3 => lc_list (K := K) (a := D) (xs := ls.map V.ref)
        (fun i H' => Same H2 H' ∧ ∃ ps : List Addr, H' D3 = some (.lst (ps.map V.ref)) ∧ Paired (RowAt H') ps ((letterTable M.n M.ds c).take i)) ⟨same_new nD3, [], upd_same, .nil⟩ (fun i H' _ z => SqL.of (z.1 _ _ hO.at_)) ?_ ?_⟩
      · rintro i x H3 hx ⟨s3, ps, hD3, hps⟩
        obtain ⟨l, hl, rfl⟩ := map_at hx
        obtain ⟨row, hrow, hat⟩ := paired_get hO.rows hl
        refine ⟨rfl, .ref l, rfl, l, _, rfl, .inl ⟨SqL.of (s3 _ _ hat), fun p np => ?_⟩⟩
        have s4 := s3.new (o := .tup (row.map pV)) np
        have hD4 := (same_new (o := .tup (row.map pV)) np) _ _ hD3
        refine ⟨_, hD4, ?_, s4.put nD3, ps ++ [p], ?_, ?_⟩
        · rw [List.length_map, hps.length, List.length_take]
          exact small5' (Nat.le_trans (Nat.min_le_right _ _) (by rw [show (letterTable M.n M.ds c).length = M.n from hsq.len]; exact n5))
        · rw [upd_same, List.map_append]
          rfl
        · have h2 : (letterTable M.n M.ds c).take (i + 1) = (letterTable M.n M.ds c).take i ++ [row] := by
            rw [List.take_add_one, show (letterTable M.n M.ds c)[i]? = some row from hrow]
            rfl
          rw [h2]
          have keep : ∀ q r, RowAt (upd H3 p (.tup (row.map pV))) q r → RowAt (upd (upd H3 p (.tup (row.map pV))) D3 (.lst (ps.map V.ref ++ [.ref p]))) q r := fun q r e => by
            have hq : q ≠ D3 := ne_of e hD4 (by intro z; cases z)
            show upd _ D3 _ q = _
            rw [upd_ne hq]
            exact e
          exact paired_snoc (paired_map hps fun q r e => keep q r (same_new np _ _ e)) (keep p _ upd_same)
      · rintro H3 ⟨s3, ps, hD3, hps⟩
        rw [List.take_of_length_le (by rw [List.length_map, lls]; exact Nat.le_refl _)] at hps
        refine ⟨D3, _, rfl, .inl ⟨SqL.of hD3, fun p np => ?_⟩⟩
        exact k _ p ((hO.same.trans s3).new np) ⟨ps, upd_same, paired_map hps fun q r e => same_new np _ _ e⟩
end
end LT
set_option Elab.async false
set_option linter.all false
set_option maxRecDepth 100000
set_option maxHeartbeats 1000000
/-! word_table, least_at, price -/
namespace LT
open PySem PySem.Spec PyProof.Rows L2 OwnZ
/-- a for over a word's signs -/
theorem for_word {wd : List Nat} {g : TG} {tb : TS} {D : Ends} {σ : L2.St} {H : Hp} (Pv : Nat → L2.St → Hp → Prop) (h0 : Pv 0 σ H)
    (hs : ∀ (i c : Nat) (σ : L2.St) (H : Hp), wd[i]? = some c → Pv i σ H → g (.str (sg c)) σ H fun σ2 H2 => tb { D with nx := Pv (i + 1), ct := Pv (i + 1), bk := D.nx } σ2 H2) (hd : ∀ σ H, Pv wd.length σ H → D.nx σ H) :
    ∃ W : Nat → Nat → L2.St → Hp → Prop, (∃ m, W 0 m σ H) ∧ ∀ i m σ H, W i m σ H →
      ((Its (wS wd)).stop i H ∧ D.nx σ H) ∨ ((Its (wS wd)).go i H ∧ ∃ N : L2.St → Hp → Prop, (∀ σ' H', N σ' H' → ∃ m', m' < m ∧ W (i + 1) m' σ' H') ∧ ∀ x H', (Its (wS wd)).yld i H x H' → g x σ H' fun σ2 H2 => tb { D with nx := N, ct := N, bk := D.nx } σ2 H2) := by
  have e : (wS wd).cps.size = wd.length := by simp [wS]
  refine for_it (J := Its (wS wd)) (n := (wS wd).cps.size) (G := fun _ => True) walk_str Pv h0 (fun _ _ _ _ _ => trivial) ?_ (by rw [e]; exact hd)
  rintro i x σ H H' hi hp ⟨rfl, c, hc, rfl⟩
  exact hs i c σ _ (by simpa [wS] using hc) hp
abbrev sWord : Stmt := topS 7
abbrev sLeast : Stmt := topS 8
abbrev sPrice : Stmt := topS 9
theorem scWord : FnScope ["machine", "word", "found", "letter"] ["machine", "word"] (defScope sWord) := ⟨rfl, rfl, rfl, by decide +kernel, rfl, by decide +kernel, by decide +kernel⟩
theorem scLeast : FnScope ["row", "rooms", "found", "room"] ["row", "rooms"] (defScope sLeast) := ⟨rfl, rfl, rfl, by decide +kernel, rfl, by decide +kernel, by decide +kernel⟩
theorem scPrice : FnScope ["machine", "word", "tables", "row", "letter", "room"] ["machine", "word"] (defScope sPrice) := ⟨rfl, rfl, rfl, by decide +kernel, rfl, by decide +kernel, by decide +kernel⟩
section
variable {P : Program} {w : World} {K : PySem.W.Frag} {mg : Str → Option Value} {base : Heap}
theorem num_small {M : Mach} (ok : M.Ok) : -(2 ^ 62) ≤ (M.n : Int) ∧ (M.n : Int) < 2 ^ 62 := by
  have := ok.n5
  constructor <;> omega
/-! ### word_table -/
def spWord : Sp := fun vs H Q _ => ∃ (m : Addr) (M : Mach) (wd : List Nat), vs = [.ref m, .str (wS wd)] ∧ IsMach H m M ∧ M.Ok ∧ ∀ H' p, Same H H' → TabAt H' p (wordTable M.n M.ds wd) → Q (.ref p) H'
theorem ok_word {f fP fX fT : Addr} {fd fdP fdX fdT : FuncData} (F : Fun K "word_table" "word_table" sWord f fd)
    (GP : FnOk P w K mg base CX0 1 fP fdP ["n"] spPlain) (kP : PySem.W.keepIn K (.ref fP) = true) (bP : Binds K fdP ["n"] []) (gP : mg "plain" = some (.ref fP))
    (GX : FnOk P w K mg base CX0 3 fX fdX ["one", "other"] spProduct) (kX : PySem.W.keepIn K (.ref fX) = true) (bX : Binds K fdX ["one", "other"] []) (gX : mg "product" = some (.ref fX))
    (GT : FnOk P w K mg base CX0 2 fT fdT ["machine", "letter"] spLetter) (kT : PySem.W.keepIn K (.ref fT) = true) (bT : Binds K fdT ["machine", "letter"] []) (gT : mg "letter_table" = some (.ref fT)) :
    FnOk P w K mg base CX0 4 f fd ["machine", "word"] spWord := by
  refine F.ok scWord (fun vs H Q E h => ?_) (fun cdv A outer s H vs Q E hr h => ?_)
  · obtain ⟨m, M, wd, rfl, _⟩ := h
    rfl
  · obtain ⟨m, M, wd, rfl, him, ok, k⟩ := h
    obtain ⟨b, e, d, as, hm⟩ := id him
    refine ⟨_, pss_cons (ps_set (i := 2) scWord.nd rfl (.inl rfl) (pe_call GP (hr.mono (by decide)) (by rfl) gP kP bP .nil pass0 (pa_cons (pe_ixT (K := K) rfl (pv 0) pe_int) pa_nil)))
      (pss_cons (ps_for PassesOwn.never rfl (pi_str (pv 1)) (pg_name (i := 3) scWord.nd rfl (Or.inl rfl))
          (pss_one (ps_set (i := 2) scWord.nd rfl (.inl rfl) (pe_call GX hr (by rfl) gX kX bX .nil pass0 (pa_cons (pv 2) (pa_cons (pe_call GT (hr.mono (by decide)) (by rfl) gT kT bT .nil pass0 (pa_cons (pv 0) (pa_cons (pv 3) pa_nil))) pa_nil))))))
        (pss_one (ps_ret (pv 2)))), ?_⟩
    refine ⟨.ref m, rfl, m, _, 1, .int M.n, rfl, rfl, SqT.of hm.all, atN (j := 1) rfl, M.n, rfl, ok.n5, fun H1 p s1 hp => ?_⟩
    refine ⟨.str (wS wd), rfl, wS wd, rfl, for_word
      (fun i σ H' => ∃ (y3 : Option V) (p : Addr), σ = [some (.ref m), some (.str (wS wd)), some (.ref p), y3] ∧ Same H H' ∧ TabAt H' p (wordTable M.n M.ds (wd.take i))) ⟨none, p, rfl, s1, hp⟩ ?_ ?_⟩
    · rintro i c σ H2 hc ⟨y3, q, rfl, s2, hq⟩
      obtain ⟨l1, l2⟩ := wordTable_least ok.dr (wd.take i)
      obtain ⟨l3, l4⟩ := letterTable_least (x := c) ok.dr
      refine ⟨.ref q, rfl, .ref m, rfl, .str (sg c), rfl, m, M, c, rfl, him.mono s2, ok, fun H3 p3 s3 hp3 => ?_⟩
      refine ⟨q, p3, M.n, _, _, rfl, hq.mono s3, hp3, l1, l3, ok.n5, fun H4 p4 s4 hp4 => ?_⟩
      refine ⟨_, p4, rfl, (s2.trans s3).trans s4, ?_⟩
      have e1 : wordTable M.n M.ds (wd.take (i + 1)) = product (wordTable M.n M.ds (wd.take i)) (letterTable M.n M.ds c) := by
        unfold wordTable
        rw [List.take_add_one, hc, List.foldl_append]
        rfl
      rw [e1]
      exact hp4
    · rintro σ H2 ⟨y3, q, rfl, s2, hq⟩
      rw [List.take_length] at hq
      exact ⟨.ref q, rfl, k _ q s2 hq⟩
/-! ### least_at -/
def spLeast : Sp := fun vs H Q _ => ∃ (a b : Addr) (r : List Pr) (rs : List Nat), vs = [.ref a, .ref b] ∧ RowAt H a r ∧ H b = some (.tup (roomsV rs)) ∧ (∀ x ∈ rs, x < r.length) ∧ Q (pV (leastAt r rs)) H
theorem ok_least {f fL : Addr} {fd fdL : FuncData} (F : Fun K "least_at" "least_at" sLeast f fd) (FL : Fun K "lesser" "lesser" sLesser fL fdL) (bL : Binds K fdL ["one", "other"] []) (gL : mg "lesser" = some (.ref fL)) :
    FnOk P w K mg base CX0 2 f fd ["row", "rooms"] spLeast := by
  have GL : FnOk P w K mg base CX0 1 fL fdL ["one", "other"] spLesser := ok_lesser FL
  refine F.ok scLeast (fun vs H Q E h => ?_) (fun cdv A outer s H vs Q E hr h => ?_)
  · obtain ⟨a, b, r, rs, rfl, _⟩ := h
    rfl
  · obtain ⟨a, b, r, rs, rfl, hA, hB, hlt, k⟩ := h
    refine ⟨_, pss_cons (ps_set (i := 2) scLeast.nd rfl (.inl rfl) pe_non)
      (pss_cons (ps_for PassesOwn.never rfl (pi_tup (pv 1)) (pg_name (i := 3) scLeast.nd rfl (Or.inl rfl))
          (pss_one (ps_set (i := 2) scLeast.nd rfl (.inl rfl) (pe_call GL hr (by rfl) gL FL.kp bL .nil pass0 (pa_cons (pv 2) (pa_cons (pe_ixT (K := K) rfl (pv 0) (pv 3)) pa_nil))))))
        (pss_one (ps_ret (pv 2)))), ?_⟩
    refine ⟨.ref b, rfl, b, rfl, ⟨_, SqT.of hB⟩, for_tup (K := K) (a := b) (xs := roomsV rs)
      (fun i σ H' => H' = H ∧ ∃ y3 : Option V, σ = [some (.ref a), some (.ref b), some (pV (leastAt r (rs.take i))), y3]) ⟨rfl, none, rfl⟩ (fun i σ H' _ z => by rw [z.1]; exact SqT.of hB) ?_ ?_⟩
    · rintro i x σ H2 hx ⟨rfl, y3, rfl⟩
      obtain ⟨n, hn, rfl⟩ := map_at hx
      have hl := hlt n (List.mem_of_getElem? hn)
      refine ⟨pV (leastAt r (rs.take i)), rfl, .ref a, rfl, .int n, rfl, a, r.map pV, n, pV r[n], rfl, rfl, SqT.of hA, atN (at_map (List.getElem?_eq_getElem hl)), _, _, rfl, rfl, some (.int n), ?_⟩
      have e1 : leastAt r (rs.take (i + 1)) = lesser (leastAt r (rs.take i)) r[n] := by
        unfold leastAt
        rw [foldl_take_succ _ _ _ _ _ hn, getD_at _ _ _ hl]
      rw [e1]
      rfl
    · rintro σ H2 ⟨rfl, y3, rfl⟩
      have e1 : rs.take (roomsV rs).length = rs := List.take_of_length_le (by unfold roomsV; rw [List.length_map]; exact Nat.le_refl _)
      rw [e1]
      exact ⟨_, rfl, k⟩
/-! ### price -/
theorem inV_rooms {r : Nat} {rs : List Nat} : inV (.int (r : Int)) (roomsV rs) = decide (r ∈ rs) := by
  unfold inV roomsV
  rw [List.any_map]
  rw [Bool.eq_iff_iff, List.any_eq_true, decide_eq_true_eq]
  constructor
  · rintro ⟨x, hx, h⟩
    have h' : ((x : Int) == (r : Int)) = true := h
    have e : (x : Int) = r := eq_of_beq h'
    have e' : x = r := by omega
    exact e' ▸ hx
  · intro h
    exact ⟨r, h, beq_self_eq_true (r : Int)⟩
theorem flat_rooms (rs : List Nat) : (roomsV rs).all flatV = true := by
  unfold roomsV
  rw [List.all_map, List.all_eq_true]
  intro x _
  rfl
/-- the tables met so far -/
def TabsOk (H : Hp) (M : Mach) (kvs : List (Key × V)) : Prop := ∀ k v, valV kvs k = some v → ∀ c, k = Sum.inr (sg c) → ∃ p, v = .ref p ∧ TabAt H p (letterTable M.n M.ds c)
def spPrice : Sp := fun vs H Q _ => ∃ (m : Addr) (M : Mach) (wd : List Nat), vs = [.ref m, .str (wS wd)] ∧ IsMach H m M ∧ M.Ok ∧ wd.length ≤ 1000 ∧ ∀ H', Same H H' → Q (pV (leastAt (priceRow M.n M.ds M.bs wd) M.es)) H'
theorem ok_price {f fR fT fA : Addr} {fd fdR fdT fdA : FuncData} (F : Fun K "price" "price" sPrice f fd)
    (GR : FnOk P w K mg base CX0 2 fR fdR ["row", "table"] spRowBy) (kR : PySem.W.keepIn K (.ref fR) = true) (bR : Binds K fdR ["row", "table"] []) (gR : mg "row_by" = some (.ref fR))
    (GT : FnOk P w K mg base CX0 2 fT fdT ["machine", "letter"] spLetter) (kT : PySem.W.keepIn K (.ref fT) = true) (bT : Binds K fdT ["machine", "letter"] []) (gT : mg "letter_table" = some (.ref fT))
    (GA : FnOk P w K mg base CX0 2 fA fdA ["row", "rooms"] spLeast) (kA : PySem.W.keepIn K (.ref fA) = true) (bA : Binds K fdA ["row", "rooms"] []) (gA : mg "least_at" = some (.ref fA))
    (mr : mg "range" = none) (mt : mg "tuple" = none) : FnOk P w K mg base CX0 3 f fd ["machine", "word"] spPrice := by
  refine F.ok scPrice (fun vs H Q E h => ?_) (fun cdv A outer s H vs Q E hr h => ?_)
  · obtain ⟨m, M, wd, rfl, _⟩ := h
    rfl
  · obtain ⟨m, M, wd, rfl, him, ok, hlen, k⟩ := h
    obtain ⟨b, e, d, as, hm⟩ := id him
    have hn := num_small ok
    have e0 : ((M.n : Int)).toNat = M.n := Int.toNat_natCast _
    have n5 := ok.n5
    refine ⟨_, pss_cons (ps_set (i := 2) scPrice.nd rfl (.inl rfl) pe_dnewK)
      (pss_cons (ps_set (i := 3) scPrice.nd rfl (.inl rfl) (pe_tupOf (K := K) rfl (by rfl) mt (pa_cons (pe_lc (own := [("room", 5)]) (g := gName 5) (tt := tYes) rfl scPrice.nd (pi_range1 (by rfl) mr (pa_cons (pe_ixT (K := K) rfl (pv 0) pe_int) pa_nil))
          (blkOk_by (N := ["machine", "word", "tables", "row", "letter", "room"]) (sc := defScope sPrice) (by decide +kernel)) (fun _ _ _ _ _ => pg_name (i := 5) scPrice.nd rfl (Or.inl rfl)) (fun _ _ _ _ _ => pts_nil)
          (fun _ _ _ _ _ => pe_ifExp (pt_inK (K := K) rfl (pv 5) (pe_ixT (K := K) rfl (pv 0) pe_int)) pe_int pe_non)) pa_nil)))
      (pss_cons (ps_for PassesOwn.never rfl (pi_str (pv 1)) (pg_name (i := 4) scPrice.nd rfl (Or.inl rfl))
          (pss_cons (ps_if (pt_cmp (pc_dnotin (hu_of hr) (pv 4) (pv 2)))
              (pss_one (ps_dput (hu_of hr) (pv 2) (pv 4) (pe_call GT hr (by rfl) gT kT bT .nil pass0 (pa_cons (pv 0) (pa_cons (pv 4) pa_nil))) rfl)) pss_nil)
            (pss_one (ps_set (i := 3) scPrice.nd rfl (.inl rfl) (pe_call GR hr (by rfl) gR kR bR .nil pass0 (pa_cons (pv 3) (pa_cons (pe_dget (hu_of hr) (pv 2) (pv 4) (fun _ _ => rfl)) pa_nil)))))))
        (pss_one (ps_ret (pe_call GA hr (by rfl) gA kA bA .nil pass0 (pa_cons (pv 3) (pa_cons (pe_ixT (K := K) rfl (pv 0) pe_int) pa_nil))))))), ?_⟩
    refine fun t nt => ?_
    have s0 : Same H (upd H t (.dK [])) := same_new nt
    refine ⟨.ref m, rfl, m, _, 1, .int M.n, rfl, rfl, SqT.of (s0 _ _ hm.all), atN (j := 1) rfl, (M.n : Int), rfl, hn.1, hn.2, fun D nD => lc_range (lo := 0) (n := (M.n : Int).toNat)
      (fun i H' => Same (upd H t (.dK [])) H' ∧ H' D = some (.lst (((row0 M.n M.bs).take i).map pV))) ⟨same_new nD, upd_same⟩ ?_ ?_⟩
    · rintro i H1 hi ⟨s1, hD⟩
      rw [e0] at hi
      have hat : (row0 M.n M.bs)[i]? = some (if i ∈ M.bs then some 0 else none) := by
        unfold row0
        rw [List.getElem?_map, List.getElem?_range hi]
        rfl
      have ei : (0 : Int) + (i : Int) = (i : Int) := Int.zero_add _
      rw [ei]
      refine ⟨rfl, .int i, rfl, .ref m, rfl, m, _, 2, .ref b, rfl, rfl, SqT.of (s1 _ _ (s0 _ _ hm.all)), atN (j := 2) rfl, b, _, rfl, .inr (SqT.of (s1 _ _ (s0 _ _ hm.bs))), rfl, flat_rooms _, _, rfl, ?_⟩
      have fin : ∀ v, v = pV (if i ∈ M.bs then some 0 else none) → ∃ acc, H1 D = some (.lst acc) ∧ acc.length < sizeLine ∧ Same (upd H t (.dK [])) (upd H1 D (.lst (acc ++ [v]))) ∧ (upd H1 D (.lst (acc ++ [v]))) D = some (.lst (((row0 M.n M.bs).take (i + 1)).map pV)) := fun v ev => by
        refine ⟨_, hD, ?_, s1.put nD, ?_⟩
        · rw [List.length_map, List.length_take]
          exact small5' (Nat.le_trans (Nat.min_le_left _ _) (by omega))
        · rw [upd_same, take_succ_map _ _ _ _ hat, ev]
      show if inV (.int (i : Int)) (roomsV M.bs) = true then _ else _
      rw [inV_rooms]
      by_cases h : i ∈ M.bs
      · refine iteY h (fin _ ?_)
        rw [if_pos h]
        rfl
      · refine iteN h (fin _ ?_)
        rw [if_neg h]
        rfl
    rintro H1 ⟨s1, hD⟩
    rw [e0, List.take_of_length_le (by rw [row0_len]; exact Nat.le_refl _)] at hD
    refine ⟨D, _, rfl, .inl ⟨SqL.of hD, fun p np => ?_⟩⟩
    have s2 : Same (upd H t (.dK [])) (upd H1 p (.tup ((row0 M.n M.bs).map pV))) := s1.new np
    -- for letter in word
    refine ⟨.str (wS wd), rfl, wS wd, rfl, for_word
      (fun i σ H' => ∃ (y4 : Option V) (p : Addr) (kvs : List (Key × V)), σ = [some (.ref m), some (.str (wS wd)), some (.ref t), some (.ref p), y4, none] ∧ Same H H' ∧ RowAt H' p (priceRow M.n M.ds M.bs (wd.take i)) ∧ H' t = some (.dK kvs) ∧ TabsOk H' M kvs ∧ kvs.length ≤ i)
      ⟨none, p, [], rfl, s0.trans s2, upd_same, s2 _ _ upd_same, (fun k v h => by cases h), Nat.le_refl _⟩ ?_ ?_⟩
    · rintro i c σ H2 hc ⟨y4, q, kvs, rfl, s3, hq, ht, htab, hkl⟩
      have hi : i < wd.length := lt_of_at hc
      obtain ⟨l1, l2⟩ := priceRow_least ok.dr ok.bs (wd.take i)
      obtain ⟨l3, l4⟩ := letterTable_least (x := c) ok.dr
      have e1 : priceRow M.n M.ds M.bs (wd.take (i + 1)) = rowBy (priceRow M.n M.ds M.bs (wd.take i)) (letterTable M.n M.ds c) := by
        unfold priceRow
        rw [List.take_add_one, hc, List.foldl_append]
        rfl
      -- behind the test the dict has the letter's table
      have behind : ∀ (H3 : Hp) (kvs' : List (Key × V)) (p3 : Addr), Same H H3 → RowAt H3 q (priceRow M.n M.ds M.bs (wd.take i)) → H3 t = some (.dK kvs') → TabsOk H3 M kvs' → kvs'.length ≤ i + 1 → valV kvs' (Sum.inr (sg c)) = some (.ref p3) → TabAt H3 p3 (letterTable M.n M.ds c) →
          ∃ a v, V.ref t = .ref a ∧ DGet H3 a (.str (sg c)) (some v) ∧ ∃ (a' b' : Addr) (n' : Nat) (r' : List Pr) (t' : List (List Pr)), [V.ref q, v] = [.ref a', .ref b'] ∧ RowAt H3 a' r' ∧ TabAt H3 b' t' ∧ r'.length = n' ∧ Sq n' t' ∧ n' ≤ 5 ∧
            ∀ H' p', Same H3 H' → RowAt H' p' (rowBy r' t') → ∃ (y4 : Option V) (p : Addr) (kvs : List (Key × V)), [some (V.ref m), some (.str (wS wd)), some (.ref t), some (.ref p'), some (.str (sg c)), none] = [some (V.ref m), some (.str (wS wd)), some (.ref t), some (.ref p), y4, none] ∧ Same H H' ∧ RowAt H' p (priceRow M.n M.ds M.bs (wd.take (i + 1))) ∧ H' t = some (.dK kvs) ∧ TabsOk H' M kvs ∧ kvs.length ≤ i + 1 := by
        intro H3 kvs' p3 s4 hq3 ht3 htab3 hk3 hv3 hp3
        have g : DGet H3 t (.str (sg c)) (valV kvs' (Sum.inr (sg c))) := DGet.k (k := Sum.inr (sg c)) ht3
        rw [hv3] at g
        refine ⟨t, .ref p3, rfl, g, q, p3, M.n, _, _, rfl, hq3, hp3, l1, l3, n5, fun H' p' s5 hp' => ⟨_, p', kvs', rfl, s4.trans s5, ?_, s5 _ _ ht3, ?_, hk3⟩⟩
        · rw [e1]; exact hp'
        · intro k v hv c' ec
          obtain ⟨p, ep, hp⟩ := htab3 k v hv c' ec
          exact ⟨p, ep, hp.mono s5⟩
      refine ⟨.str (sg c), rfl, .ref t, rfl, t, _, rfl, DGet.k (k := Sum.inr (sg c)) ht, _, rfl, ?_⟩
      cases hv : valV kvs (Sum.inr (sg c)) with
      | some v =>
        obtain ⟨p3, rfl, hp3⟩ := htab _ v hv c rfl
        show if (!(some (V.ref p3)).isSome) = true then _ else _
        refine iteF ?_
        exact ⟨.ref q, rfl, .ref t, rfl, .str (sg c), rfl, behind H2 kvs p3 s3 hq ht htab (by omega) hv hp3⟩
      | none =>
        show if (!(none : Option V).isSome) = true then _ else _
        refine iteT ?_
        refine ⟨.ref m, rfl, .str (sg c), rfl, m, M, c, rfl, him.mono s3, ok, fun H3 p3 s4 hp3 => ?_⟩
        have ht3 := s4 _ _ ht
        have nt3 : ∀ b u, H b = some u → b ≠ t := fun b u hb => ne_of_none hb nt
        have s5 : Same H (upd H3 t (.dK (putK kvs (Sum.inr (sg c)) (.ref p3)))) := (s3.trans s4).put nt
        have keepT : ∀ p tb, TabAt H3 p tb → TabAt (upd H3 t (.dK (putK kvs (Sum.inr (sg c)) (.ref p3)))) p tb := fun p tb ⟨as, h1, h2⟩ => by
          refine ⟨as, ?_, paired_map h2 fun x r hx => ?_⟩
          · rw [upd_ne (ne_of h1 ht3 (by intro z; cases z))]; exact h1
          · show upd H3 t _ x = _
            rw [upd_ne (ne_of hx ht3 (by intro z; cases z))]; exact hx
        refine ⟨.ref t, rfl, .str (sg c), rfl, t, _, rfl, DPut.k (k := Sum.inr (sg c)) ht3 (Nat.lt_of_le_of_lt hkl (Nat.lt_of_lt_of_le hi (Nat.le_trans hlen (by decide)))), ?_⟩
        refine ⟨.ref q, rfl, .ref t, rfl, .str (sg c), rfl, behind _ (putK kvs (Sum.inr (sg c)) (.ref p3)) p3 s5 ?_ upd_same ?_ ?_ ?_ (keepT _ _ hp3)⟩
        · have := s4 _ _ hq
          show upd H3 t _ q = _
          rw [upd_ne (ne_of this ht3 (by intro z; cases z))]
          exact this
        · intro k v hv2 c' ec
          rw [valV_put] at hv2
          by_cases ek : k = Sum.inr (sg c)
          · rw [if_pos ek] at hv2
            cases hv2
            have ecc : c' = c := by
              rw [ec] at ek
              exact sg_inj (by rw [Sum.inr.inj ek])
            subst ecc
            exact ⟨p3, rfl, keepT _ _ hp3⟩
          · rw [if_neg ek] at hv2
            obtain ⟨p, ep, hp⟩ := htab k v hv2 c' ec
            exact ⟨p, ep, keepT _ _ (hp.mono s4)⟩
        · have := length_putK kvs (Sum.inr (sg c)) (V.ref p3)
          omega
        · rw [valV_put, if_pos rfl]
    · rintro σ H2 ⟨y4, q, kvs, rfl, s3, hq, _⟩
      rw [List.take_length] at hq
      obtain ⟨l1, l2⟩ := priceRow_least ok.dr ok.bs wd
      exact ⟨.ref q, rfl, .ref m, rfl, m, _, 3, .ref e, rfl, rfl, SqT.of (s3 _ _ hm.all), atN (j := 3) rfl, q, e, _, M.es, rfl, hq, s3 _ _ hm.es, fun x hx => by rw [l1]; exact ok.es x hx, k H2 s3⟩
end
end LT
set_option Elab.async false
set_option linter.all false
set_option maxRecDepth 100000
set_option maxHeartbeats 1000000
/-! tolls_on, tolls -/
namespace LT
open PySem PySem.Spec PyProof.Rows L2 OwnZ OwnR
/-- a dict of tolls -/
def kvO (ks : List Int) : List (Key × V) := ks.map fun k => (Sum.inl k, V.bl true)
def oD (ks : List Int) : HO := .dK (kvO ks)
theorem kvO_len (ks : List Int) : (kvO ks).length = ks.length := List.length_map _
theorem putK_kvO (ks : List Int) (k : Int) : putK (kvO ks) (Sum.inl k) (.bl true) = kvO (putI ks k) := by
  have hany : ((kvO ks).any fun kv => decide (kv.1 = (Sum.inl k : Key))) = decide (k ∈ ks) := by
    unfold kvO
    rw [List.any_map, Bool.eq_iff_iff, List.any_eq_true, decide_eq_true_eq]
    constructor
    · rintro ⟨x, hx, h⟩
      have h' : (Sum.inl x : Key) = Sum.inl k := of_decide_eq_true h
      exact Sum.inl.inj h' ▸ hx
    · intro h
      exact ⟨k, h, decide_eq_true rfl⟩
  unfold putK putI
  rw [hany]
  by_cases h : k ∈ ks
  · rw [if_pos (decide_eq_true h), if_pos h]
    unfold kvO
    rw [List.map_map]
    apply List.map_congr_left
    intro x _
    show (if (Sum.inl x : Key) = Sum.inl k then ((Sum.inl x : Key), V.bl true) else (Sum.inl x, V.bl true)) = (Sum.inl x, V.bl true)
    split <;> rfl
  · rw [if_neg (by rw [decide_eq_false h]; exact Bool.false_ne_true), if_neg h]
    unfold kvO
    rw [List.map_append]
    rfl
theorem mergeK_kvO : ∀ (ks f : List Int), mergeK (kvO f) (kvO ks) = kvO (updI f ks)
  | [], f => rfl
  | k :: ks, f => by
    show mergeK (putK (kvO f) (Sum.inl k) (.bl true)) (kvO ks) = _
    rw [putK_kvO, mergeK_kvO ks (putI f k)]
    rfl
theorem upd_own {H : Hp} {a : Addr} {o : HO} (h : H a = some o) : upd H a o = H := by
  funext b
  unfold upd
  by_cases e : b = a
  · rw [if_pos e, e, h]
  · rw [if_neg e]
theorem upd_swap {H : Hp} {a b : Addr} {o u : HO} (h : a ≠ b) : upd (upd H a o) b u = upd (upd H b u) a o := by
  funext c
  unfold upd
  by_cases e : c = b
  · rw [if_pos e, if_neg (fun z => h (z.symm.trans e)), if_pos e]
  · rw [if_neg e]
    by_cases e2 : c = a
    · rw [if_pos e2, if_pos e2]
    · rw [if_neg e2, if_neg e2, if_neg e]
abbrev sTollsOn : Stmt := topS 11
abbrev sTolls : Stmt := topS 12
abbrev nTollsOn : List Str := ["machine", "letter", "here", "there", "start", "sign", "goal", "cost", "so_far", "room"]
abbrev nTolls : List Str := ["machine", "word", "room", "here", "letter", "found"]
theorem scTollsOn : FnScope nTollsOn ["machine", "letter", "here"] (defScope sTollsOn) := ⟨rfl, rfl, rfl, by decide +kernel, rfl, by decide +kernel, by decide +kernel⟩
theorem scTolls : FnScope nTolls ["machine", "word"] (defScope sTolls) := ⟨rfl, rfl, rfl, by decide +kernel, rfl, by decide +kernel, by decide +kernel⟩
theorem Gds.at {m : Nat} {th : List (List Int)} (h : Gds (m : Int) th) (j : Nat) : (th.getD j []).length ≤ m + 1 := (h j).len
section
variable {P : Program} {w : World} {K : PySem.W.Frag} {mg : Str → Option Value} {base : Heap}
def spTollsOn : Sp := fun vs H Q _ => ∃ (m : Addr) (M : Mach) (c : Nat) (h : Addr) (hs : List Addr) (hk : List (List Int)) (mm : Nat), vs = [.ref m, .str (sg c), .ref h] ∧ IsMach H m M ∧ M.Ok ∧
  H h = some (.lst (hs.map V.ref)) ∧ Paired (fun x ks => H x = some (oD ks)) hs hk ∧ hk.length = M.n ∧ Gds (mm : Int) hk ∧ mm ≤ 1000 ∧ ∀ H' D ls, ObjsAt oD H H' D ls (tollsOn M.n M.ds c hk) → Q (.ref D) H'
theorem ok_tollsOn {f : Addr} {fd : FuncData} (F : Fun K "tolls_on" "tolls_on" sTollsOn f fd) : FnOk P w K mg base CX0 1 f fd ["machine", "letter", "here"] spTollsOn := by
  refine F.ok scTollsOn (fun vs H Q E h => ?_) (fun cdv A outer s H vs Q E hr h => ?_)
  · obtain ⟨m, M, c, h, hs, hk, mm, rfl, _⟩ := h
    rfl
  · obtain ⟨m, M, c, h, hs, hk, mm, rfl, ⟨b, e, d, as, hm⟩, ok, hh, hP, hkl, hgd, hmm, k⟩ := h
    have n5 := ok.n5
    have hsl := hP.length
    refine ⟨_, pss_cons (ps_setLc (i := 3) (own := [("room", 9)]) (g := gName 9) (tt := tYes) rfl scTollsOn.nd rfl rfl (sw_true rfl rfl rfl (by decide +kernel)) (pi_list (pv 2))
          (blkOk_by (N := nTollsOn) (sc := defScope sTollsOn) (by decide +kernel)) (fun _ _ _ _ _ => pg_name (i := 9) scTollsOn.nd rfl (Or.inl rfl)) (fun _ _ _ _ _ => pts_nil) (fun _ _ _ _ _ => pe_dnewK))
      (pss_cons (ps_for PassesOwn.never rfl (pi_tup (pe_ixT (K := K) rfl (pv 0) pe_int))
          (pg_tup rfl (pgs_cons (pg_name (i := 4) scTollsOn.nd rfl (Or.inl rfl)) (pgs_cons (pg_name (i := 5) scTollsOn.nd rfl (Or.inl rfl)) (pgs_cons (pg_name (i := 6) scTollsOn.nd rfl (Or.inl rfl)) (pgs_cons (pg_name (i := 7) scTollsOn.nd rfl (Or.inl rfl)) pgs_nil)))))
          (pss_one (ps_if (pt_cmpR op_eq (pv 5) (pv 1) (nomark _))
            (pss_one (ps_lock (ps_for PassesOwn.never rfl (pi_keys (pe_ixL (K := K) rfl (pv 2) (pv 4))) (pg_name (i := 8) scTollsOn.nd rfl (Or.inl rfl))
              (pss_one (ps_dput (hu_of hr) (pe_ixL (K := K) rfl (pv 3) (pv 6)) (pe_op op_add (pv 8) (pv 7)) pe_bl rfl))))) pss_nil)))
      (pss_one (ps_ret (pv 3)))), ?_⟩
    -- there
    refine ⟨.ref h, rfl, h, rfl, ⟨_, SqL.of hh⟩, fun D nD => lc_list (K := K) (a := h) (xs := hs.map V.ref)
      (fun i H' => ∃ ls : List Addr, ObjsAt oD H H' D ls (List.replicate i [])) ⟨[], .start nD⟩ (fun i H' _ ⟨_, z⟩ => SqL.of (z.same _ _ hh)) ?_ ?_⟩
    · rintro i x H1 hx ⟨ls, hO⟩
      have hi := lt_of_at hx
      rw [List.length_map] at hi
      refine ⟨rfl, fun p np => ?_⟩
      refine ⟨_, same_new np _ _ hO.at_, ?_, ls ++ [p], ?_⟩
      · rw [List.length_map, hO.len, List.length_replicate]
        exact small5' (by omega)
      · rw [List.replicate_succ']
        exact hO.push (same_new np) np upd_same
    rintro H1 ⟨ls, hO⟩
    rw [List.length_map, hsl, hkl] at hO
    -- the doors
    have ddl := hm.dr.length
    have lth : ∀ i, ((M.ds.take i).foldl (tStep c hk) (List.replicate M.n [])).length = M.n := fun i => by
      rw [(tStepFold (M.ds.take i) (List.replicate M.n []) (fun q hq => by rw [List.length_replicate]; exact (ok.dr q (List.mem_of_mem_take hq)).2)).1, List.length_replicate]
    have gth : ∀ i, Gds ((mm : Int) + 3) ((M.ds.take i).foldl (tStep c hk) (List.replicate M.n [])) := fun i =>
      tStep_gds hgd _ _ (fun q hq => ok.co q (List.mem_of_mem_take hq)) (.blank _ _)
    refine ⟨.ref m, rfl, m, _, 4, .ref d, rfl, rfl, SqT.of (hO.same _ _ hm.all), atN (j := 4) rfl, d, rfl, ⟨_, SqT.of (hO.same _ _ hm.ds)⟩, for_tup (K := K) (a := d) (xs := as.map V.ref)
      (fun i σ H' => ∃ (y4 y5 y6 y7 y8 : Option V) (ls : List Addr), σ = [some (.ref m), some (.str (sg c)), some (.ref h), some (.ref D), y4, y5, y6, y7, y8, none] ∧ ObjsAt oD H H' D ls ((M.ds.take i).foldl (tStep c hk) (List.replicate M.n [])))
      ⟨none, none, none, none, none, ls, rfl, hO⟩ (fun i σ H' _ ⟨_, _, _, _, _, _, _, z⟩ => SqT.of (z.same _ _ hm.ds)) ?_ ?_⟩
    · rintro i x σ H2 hx ⟨y4, y5, y6, y7, y8, ls, rfl, hO⟩
      obtain ⟨q, hq, rfl⟩ := map_at hx
      obtain ⟨dr, hdr, hat⟩ := paired_get hm.dr hq
      have hmem := List.mem_of_getElem? hdr
      obtain ⟨hst, hgl⟩ := ok.dr dr hmem
      obtain ⟨co0, co3⟩ := ok.co dr hmem
      have hstep := foldl_take_succ (tStep c hk) (List.replicate M.n []) M.ds i dr hdr
      have gi := gth i
      have li := lth i
      generalize ht : (M.ds.take i).foldl (tStep c hk) (List.replicate M.n []) = t at hO hstep gi li
      refine ⟨q, doorV dr, rfl, SqT.of (hO.same _ _ hat), rfl, _, _, rfl, _, _, rfl, _, _, rfl, _, _, rfl, rfl, ?_⟩
      refine ⟨.str (sg dr.sg), rfl, .str (sg c), rfl, rfl, _, rfl, ?_⟩
      by_cases hc : dr.sg = c
      · refine iteY (by rw [hc]) ?_
        have hst' : dr.st < hk.length := by omega
        obtain ⟨dx, hdx, hdo⟩ := paired_at hP (List.getElem?_eq_getElem hst')
        have e0 : hk.getD dr.st [] = hk[dr.st] := getD_at _ _ _ hst'
        have hd2 : H2 dx = some (oD hk[dr.st]) := hO.same _ _ hdo
        refine ⟨dx, oD hk[dr.st], hd2, trivial, fun od => ?_⟩
        have hne : h ≠ dx := ne_of hh hdo (by intro z; cases z)
        have hlsd : ∀ y ∈ ls, y ≠ dx := fun y hy z => by
          have := hO.fresh y hy
          rw [z, hdo] at this
          cases this
        have hDd : D ≠ dx := fun z => by
          have := hO.freshD
          rw [z, hdo] at this
          cases this
        have hls : (hs.map V.ref)[dr.st]? = some (.ref dx) := at_map hdx
        refine ⟨.ref h, rfl, .int dr.st, rfl, h, _, dr.st, .ref dx, rfl, rfl, SqL.of (by rw [upd_ne hne]; exact hO.same _ _ hh), atN hls, dx, od, rfl, .inl ⟨kvO hk[dr.st], upd_same, ?_⟩⟩
        refine for_it walk_keys (fun j σ H' => ∃ (y8 : Option V), σ = [some (.ref m), some (.str (sg c)), some (.ref h), some (.ref D), some (.int dr.st), some (.str (sg dr.sg)), some (.int dr.gl), some (.int dr.co), y8, none] ∧ H' dx = some (.frz od (oD hk[dr.st])) ∧
            ObjsAt oD H (upd H' dx (oD hk[dr.st])) D ls ((hk[dr.st].take j).foldl (tInner dr) t)) ⟨_, rfl, upd_same, ?_⟩ (fun j σ H' _ ⟨_, _, z, _⟩ => z) ?_ ?_
        · rw [upd_upd, upd_own hd2]
          exact hO
        · rintro j x σ H3 H3' hj ⟨y8, rfl, hz, hO3⟩ ⟨rfl, kk, vv, hkv, rfl⟩
          rw [kvO_len] at hj
          have ekv : (kk, vv) = ((Sum.inl hk[dr.st][j] : Key), V.bl true) := by
            have e1 : (kvO hk[dr.st])[j]? = some ((Sum.inl hk[dr.st][j] : Key), V.bl true) := at_map (List.getElem?_eq_getElem hj)
            exact Option.some.inj (hkv.symm.trans e1)
          obtain ⟨rfl, rfl⟩ := Prod.mk.inj ekv
          have hrg := (hgd dr.st)
          rw [e0] at hrg
          have gj : Gds ((mm : Int) + 3) ((hk[dr.st].take j).foldl (tInner dr) t) := tInner_gds co0 co3 _ _ (fun s hs => hrg.rg s (List.mem_of_mem_take hs)) gi
          have lj : ((hk[dr.st].take j).foldl (tInner dr) t).length = M.n := by
            rw [(tInnerFold (d := dr) (hk[dr.st].take j) t (by omega)).1, li]
          have hstepj := foldl_take_succ (tInner dr) t hk[dr.st] j hk[dr.st][j] (List.getElem?_eq_getElem hj)
          generalize htj : (hk[dr.st].take j).foldl (tInner dr) t = tj at hO3 gj lj hstepj
          have hgl' : dr.gl < tj.length := by omega
          obtain ⟨x, hx, hrow⟩ := hO3.get hgl'
          have xd : x ≠ dx := hlsd x (List.mem_of_getElem? hx)
          have hrow3 : H3' x = some (oD tj[dr.gl]) := by
            rw [upd_ne xd] at hrow
            exact hrow
          have hD3 : H3' D = some (.lst (ls.map V.ref)) := by
            have := hO3.at_
            rw [upd_ne hDd] at this
            exact this
          have hlx : (ls.map V.ref)[dr.gl]? = some (.ref x) := at_map hx
          have hlen : (kvO tj[dr.gl]).length < sizeLine := by
            have g1 := gj dr.gl
            rw [getD_at _ _ _ hgl'] at g1
            have g2 : Gd (((mm + 3 : Nat)) : Int) tj[dr.gl] := g1
            have := g2.len
            rw [kvO_len]
            exact Nat.lt_of_le_of_lt (show _ ≤ 1004 by omega) (by decide)
          refine ⟨.ref D, rfl, .int dr.gl, rfl, D, _, dr.gl, .ref x, rfl, rfl, SqL.of hD3, atN hlx, .int hk[dr.st][j], rfl, .int dr.co, rfl, hk[dr.st][j], dr.co, rfl, rfl, x, _, rfl, DPut.k (k := Sum.inl (hk[dr.st][j] + dr.co)) hrow3 hlen, ?_⟩
          refine ⟨_, rfl, ?_, ?_⟩
          · rw [upd_ne xd.symm]
            exact hz
          · rw [upd_swap xd, putK_kvO, hstepj]
            have e2 : tInner dr tj hk[dr.st][j] = tj.set dr.gl (putI tj[dr.gl] (hk[dr.st][j] + dr.co)) := by
              unfold tInner putAt
              rw [getD_at _ _ _ hgl']
            rw [e2]
            exact hO3.write hx
        · rintro σ H3 ⟨y8, rfl, hz, hO3⟩
          rw [List.take_of_length_le (by rw [kvO_len]; exact Nat.le_refl _)] at hO3
          refine ⟨hz, _, _, _, _, _, ls, rfl, ?_⟩
          rw [hstep]
          have e1 : tStep c hk t dr = hk[dr.st].foldl (tInner dr) t := by
            unfold tStep
            rw [if_pos hc, e0]
          rw [e1]
          exact hO3
      · refine iteN (fun z => hc (sg_inj z)) ?_
        refine ⟨_, _, _, _, _, ls, rfl, ?_⟩
        rw [hstep]
        have e1 : tStep c hk t dr = t := if_neg hc
        rw [e1]
        exact hO
    · rintro σ H2 ⟨y4, y5, y6, y7, y8, ls, rfl, hO⟩
      have e1 : M.ds.take (as.map V.ref).length = M.ds := List.take_of_length_le (by rw [List.length_map]; omega)
      rw [e1] at hO
      exact ⟨.ref D, rfl, k H2 D ls hO⟩
/-! ### tolls -/
theorem kvO_keys (ks : List Int) : (kvO ks).map (·.1) = ks.map Sum.inl := by
  unfold kvO
  rw [List.map_map]
  rfl
def spTolls : Sp := fun vs H Q _ => ∃ (m : Addr) (M : Mach) (wd : List Nat), vs = [.ref m, .str (wS wd)] ∧ IsMach H m M ∧ M.Ok ∧ wd.length ≤ 100 ∧
  ∀ H' p (ys : List Int), Same H H' → ys.Pairwise (· ≤ ·) → (∀ c, c ∈ ys ↔ Rd M.ds M.bs M.es wd c) → H' p = some (.lst (ys.map V.int)) → Q (.ref p) H'
theorem ok_tolls {f fO : Addr} {fd fdO : FuncData} (F : Fun K "tolls" "tolls" sTolls f fd)
    (GO : FnOk P w K mg base CX0 1 fO fdO ["machine", "letter", "here"] spTollsOn) (kO : PySem.W.keepIn K (.ref fO) = true) (bO : Binds K fdO ["machine", "letter", "here"] []) (gO : mg "tolls_on" = some (.ref fO))
    (mr : mg "range" = none) (ms : mg "sorted" = none) : FnOk P w K mg base CX0 2 f fd ["machine", "word"] spTolls := by
  refine F.ok scTolls (fun vs H Q E h => ?_) (fun cdv A outer s H vs Q E hr h => ?_)
  · obtain ⟨m, M, wd, rfl, _⟩ := h
    rfl
  · obtain ⟨m, M, wd, rfl, him, ok, hlen, k⟩ := h
    obtain ⟨b, e, d, as, hm⟩ := id him
    have hn := num_small ok
    have e0 : ((M.n : Int)).toNat = M.n := Int.toNat_natCast _
    have n5 := ok.n5
    refine ⟨_, pss_cons (ps_setLc (i := 3) (own := [("room", 2)]) (g := gName 2) (tt := tYes) rfl scTolls.nd rfl rfl (sw_true rfl rfl rfl (by decide +kernel)) (pi_range1 (by rfl) mr (pa_cons (pe_ixT (K := K) rfl (pv 0) pe_int) pa_nil))
          (blkOk_by (N := nTolls) (sc := defScope sTolls) (by decide +kernel)) (fun _ _ _ _ _ => pg_name (i := 2) scTolls.nd rfl (Or.inl rfl)) (fun _ _ _ _ _ => pts_nil) (fun _ _ _ _ _ => pe_dnewK))
      (pss_cons (ps_for PassesOwn.never rfl (pi_tup (pe_ixT (K := K) rfl (pv 0) pe_int)) (pg_name (i := 2) scTolls.nd rfl (Or.inl rfl))
          (pss_one (ps_dput (hu_of hr) (pe_ixL (K := K) rfl (pv 3) (pv 2)) pe_int pe_bl rfl)))
      (pss_cons (ps_for PassesOwn.never rfl (pi_str (pv 1)) (pg_name (i := 4) scTolls.nd rfl (Or.inl rfl))
          (pss_one (ps_set (i := 3) scTolls.nd rfl (.inl rfl) (pe_call GO hr (by rfl) gO kO bO .nil pass0 (pa_cons (pv 0) (pa_cons (pv 4) (pa_cons (pv 3) pa_nil)))))))
      (pss_cons (ps_set (i := 5) scTolls.nd rfl (.inl rfl) pe_dnewK)
      (pss_cons (ps_for PassesOwn.never rfl (pi_tup (pe_ixT (K := K) rfl (pv 0) pe_int)) (pg_name (i := 2) scTolls.nd rfl (Or.inl rfl))
          (pss_one (ps_expr (pe_bm PySem.F.plainAttrs_dict PySem.F.slot_dict_update PySem.F.type_dict_update mt_update (pv 5) (pa_cons (pe_ixL (K := K) rfl (pv 3) (pv 2)) pa_nil)))))
      (pss_one (ps_ret (pe_callB (OwnR.call_sortedDI rfl) (by rfl) ms (by decide +kernel) (pa_cons (pv 5) pa_nil)))))))), ?_⟩
    -- here
    refine ⟨.ref m, rfl, m, _, 1, .int M.n, rfl, rfl, SqT.of hm.all, atN (j := 1) rfl, (M.n : Int), rfl, hn.1, hn.2, fun D nD => lc_range (lo := 0) (n := (M.n : Int).toNat)
      (fun i H' => ∃ ls : List Addr, ObjsAt oD H H' D ls (List.replicate i [])) ⟨[], .start nD⟩ ?_ ?_⟩
    · rintro i H1 hi ⟨ls, hO⟩
      rw [e0] at hi
      refine ⟨rfl, fun p np => ?_⟩
      refine ⟨_, same_new np _ _ hO.at_, ?_, ls ++ [p], ?_⟩
      · rw [List.length_map, hO.len, List.length_replicate]
        exact small5' (by omega)
      · rw [List.replicate_succ']
        exact hO.push (same_new np) np upd_same
    rintro H1 ⟨ls, hO⟩
    rw [e0] at hO
    -- the begins
    have t0 : ∀ i, ((M.bs.take i).foldl (fun th r => putAt th r 0) (List.replicate M.n [])).length = M.n ∧ Gds 0 ((M.bs.take i).foldl (fun th r => putAt th r 0) (List.replicate M.n [])) := fun i => by
      obtain ⟨a1, a2, _⟩ := tolls0Fold (M.bs.take i) (List.replicate M.n []) (fun r hr => by rw [List.length_replicate]; exact ok.bs r (List.mem_of_mem_take hr)) (.blank 0 _)
      exact ⟨by rw [a1, List.length_replicate], a2⟩
    refine ⟨.ref m, rfl, m, _, 2, .ref b, rfl, rfl, SqT.of (hO.same _ _ hm.all), atN (j := 2) rfl, b, rfl, ⟨_, SqT.of (hO.same _ _ hm.bs)⟩, for_tup (K := K) (a := b) (xs := roomsV M.bs)
      (fun i σ H' => ∃ (y2 : Option V) (ls : List Addr), σ = [some (.ref m), some (.str (wS wd)), y2, some (.ref D), none, none] ∧ ObjsAt oD H H' D ls ((M.bs.take i).foldl (fun th r => putAt th r 0) (List.replicate M.n [])))
      ⟨none, ls, rfl, hO⟩ (fun i σ H' _ ⟨_, _, _, z⟩ => SqT.of (z.same _ _ hm.bs)) ?_ ?_⟩
    · rintro i x σ H2 hx ⟨y2, ls, rfl, hO⟩
      obtain ⟨r, hr', rfl⟩ := map_at hx
      have hlt := ok.bs r (List.mem_of_getElem? hr')
      have hstep := foldl_take_succ (fun th r => putAt th r 0) (List.replicate M.n []) M.bs i r hr'
      obtain ⟨l1, g1⟩ := t0 i
      generalize ht : (M.bs.take i).foldl (fun th r => putAt th r 0) (List.replicate M.n []) = t at hO hstep l1 g1
      have hlt' : r < t.length := by omega
      obtain ⟨x, hx, hrow⟩ := hO.get hlt'
      have hlx : (ls.map V.ref)[r]? = some (.ref x) := at_map hx
      have hlen : (kvO t[r]).length < sizeLine := by
        have g2 := g1 r
        rw [getD_at _ _ _ hlt'] at g2
        have g3 : Gd ((0 : Nat) : Int) t[r] := g2
        have := g3.len
        rw [kvO_len]
        exact Nat.lt_of_le_of_lt this (by decide)
      refine ⟨.ref D, rfl, .int r, rfl, D, _, r, .ref x, rfl, rfl, SqL.of hO.at_, atN hlx, x, _, rfl, DPut.k (k := Sum.inl 0) hrow hlen, ?_⟩
      refine ⟨_, ls, rfl, ?_⟩
      rw [putK_kvO, hstep]
      have e2 : putAt t r 0 = t.set r (putI t[r] 0) := by
        unfold putAt
        rw [getD_at _ _ _ hlt']
      show ObjsAt oD H _ D ls (putAt t r 0)
      rw [e2]
      exact hO.write hx
    rintro σ H2 ⟨y2, ls, rfl, hO⟩
    have e1 : M.bs.take (roomsV M.bs).length = M.bs := List.take_of_length_le (by unfold roomsV; rw [List.length_map]; exact Nat.le_refl _)
    rw [e1] at hO
    have tw0 : TW M.n M.ds M.bs [] (tolls0 M.n M.bs) := TW.start ok.bs
    -- the word
    refine ⟨.str (wS wd), rfl, wS wd, rfl, for_word
      (fun i σ H' => ∃ (y2 y4 : Option V) (D : Addr) (ls : List Addr) (hk : List (List Int)), σ = [some (.ref m), some (.str (wS wd)), y2, some (.ref D), y4, none] ∧ Same H H' ∧ H' D = some (.lst (ls.map V.ref)) ∧ Paired (fun x ks => H' x = some (oD ks)) ls hk ∧ TW M.n M.ds M.bs (wd.take i) hk)
      ⟨_, none, D, ls, _, rfl, hO.same, hO.at_, hO.rows, tw0⟩ ?_ ?_⟩
    · rintro i c σ H3 hc ⟨y2, y4, D, ls, hk, rfl, s3, hD, hrows, tw⟩
      have hil := lt_of_at hc
      refine ⟨.ref m, rfl, .str (sg c), rfl, .ref D, rfl, m, M, c, D, ls, hk, 3 * (wd.take i).length, rfl, him.mono s3, ok, hD, hrows, tw.len, ?_, ?_, fun H4 D4 ls4 hO4 => ?_⟩
      · have := tw.gds
        have e2 : ((3 * (wd.take i).length : Nat) : Int) = 3 * ((wd.take i).length : Int) := by omega
        rw [e2]
        exact this
      · rw [List.length_take]
        omega
      · refine ⟨_, _, D4, ls4, _, rfl, s3.trans hO4.same, hO4.at_, hO4.rows, ?_⟩
        have h2 : wd.take (i + 1) = wd.take i ++ [c] := by
          rw [List.take_add_one, hc]
          rfl
        rw [h2]
        exact tw.on ok.dr ok.co
    rintro σ H3 ⟨y2, y4, D, ls, hk, rfl, s3, hD, hrows, tw⟩
    rw [List.take_length] at tw
    -- found
    refine fun Fd nF => ?_
    have s4 : Same H3 (upd H3 Fd (.dK [])) := same_new nF
    have hfo : ∀ i, Gd (3 * (wd.length : Int)) (tollsFound hk (M.es.take i)) := fun i => (foundFold tw.gds (M.es.take i) [] (.nil _)).1
    refine ⟨.ref m, rfl, m, _, 3, .ref e, rfl, rfl, SqT.of (s4 _ _ (s3 _ _ hm.all)), atN (j := 3) rfl, e, rfl, ⟨_, SqT.of (s4 _ _ (s3 _ _ hm.es))⟩, for_tup (K := K) (a := e) (xs := roomsV M.es)
      (fun i σ H' => ∃ (y2 : Option V), σ = [some (.ref m), some (.str (wS wd)), y2, some (.ref D), y4, some (.ref Fd)] ∧ Same H3 H' ∧ H' Fd = some (.dK (kvO (tollsFound hk (M.es.take i)))))
      ⟨_, rfl, s4, upd_same⟩ (fun i σ H' _ ⟨_, _, z, _⟩ => SqT.of (z _ _ (s3 _ _ hm.es))) ?_ ?_⟩
    · rintro i x σ H4 hx ⟨y2, rfl, s5, hF⟩
      obtain ⟨r, hr', rfl⟩ := map_at hx
      have hlt := ok.es r (List.mem_of_getElem? hr')
      have hlt' : r < hk.length := by rw [tw.len]; exact hlt
      obtain ⟨x, hx, hrow⟩ := paired_at hrows (List.getElem?_eq_getElem hlt')
      have hlx : (ls.map V.ref)[r]? = some (.ref x) := at_map hx
      have hne : Fd ≠ x := (ne_of_none hrow nF).symm
      have e2 : hk.getD r [] = hk[r] := getD_at _ _ _ hlt'
      have hstep : tollsFound hk (M.es.take (i + 1)) = updI (tollsFound hk (M.es.take i)) hk[r] := by
        unfold tollsFound
        rw [foldl_take_succ _ _ _ _ _ hr', e2]
      have hz : (kvO (tollsFound hk (M.es.take i))).length + (kvO hk[r]).length ≤ sizeLine := by
        have g1 : Gd (((3 * wd.length : Nat)) : Int) (tollsFound hk (M.es.take i)) := (hfo i).mono (by omega)
        have g2 := tw.gds r
        rw [e2] at g2
        have g3 : Gd (((3 * wd.length : Nat)) : Int) hk[r] := g2.mono (by omega)
        have := g1.len
        have := g3.len
        rw [kvO_len, kvO_len]
        exact Nat.le_trans (show _ ≤ 602 by omega) (by decide)
      refine ⟨.ref Fd, rfl, .inr (.inr (.inl ⟨rfl, .inl ⟨_, hF⟩⟩)), .ref D, rfl, .int r, rfl, D, _, r, .ref x, rfl, rfl, SqL.of (s5 _ _ hD), atN hlx, Fd, x, _, _, rfl, rfl, hF, s5 _ _ hrow, hne, hz, ?_⟩
      refine ⟨_, rfl, s5.put nF, ?_⟩
      rw [upd_same, mergeK_kvO, hstep]
    · rintro σ H4 ⟨y2, rfl, s5, hF⟩
      have e1 : M.es.take (roomsV M.es).length = M.es := List.take_of_length_le (by unfold roomsV; rw [List.length_map]; exact Nat.le_refl _)
      rw [e1] at hF
      obtain ⟨_, hmem⟩ := tollsFound_ok (es := M.es) tw
      refine ⟨.ref Fd, rfl, Fd, _, _, rfl, .inl hF, kvO_keys _, fun ys p hp hs np => ?_⟩
      refine k _ p ys ((s3.trans s5).new np) hs (fun c => ?_) upd_same
      rw [hp.mem_iff, hmem]
end
end LT
set_option Elab.async false
set_option linter.all false
set_option maxRecDepth 100000
set_option maxHeartbeats 1000000
/-! steps_on -/
namespace LT
open PySem PySem.Spec PyProof.Rows L2 OwnZ LamX
theorem extN_same {H H' : Hp} (s : Same H H') : ExtN H H' := fun b o e _ => s b o e
theorem extN_get {H H' : Hp} (e : ExtN H H') {a : Addr} {xs : List V} (h : H a = some (.tup xs)) : H' a = some (.tup xs) := e _ _ h fun ps z => by cases z
theorem extN_lst {H H' : Hp} (e : ExtN H H') {a : Addr} {xs : List V} (h : H a = some (.lst xs)) : H' a = some (.lst xs) := e _ _ h fun ps z => by cases z
theorem MachAt.monoN {H H' : Hp} {m : Addr} {M : Mach} {b e d : Addr} {as : List Addr} (h : MachAt H m M b e d as) (s : ExtN H H') : MachAt H' m M b e d as :=
  ⟨extN_get s h.all, extN_get s h.bs, extN_get s h.es, extN_get s h.ds, paired_map h.dr fun _ _ q => extN_get s q⟩
def optV : Option Nat → V
  | none => .non
  | some p => .int (p : Int)
/-- what stands at a room -/
def StnV (H : Hp) (v : V) : Stn → Prop
  | none => v = .non
  | some (c, q) => ∃ x, v = .ref x ∧ H x = some (.tup [.int c, optV q])
theorem StnV.monoN {H H' : Hp} (s : ExtN H H') {v : V} {t : Stn} (h : StnV H v t) : StnV H' v t := by
  cases t with
  | none => exact h
  | some cq =>
    obtain ⟨x, e, hx⟩ := h
    exact ⟨x, e, extN_get s hx⟩
def StandAt (H : Hp) (D : Addr) (t : List Stn) : Prop := ∃ vs : List V, H D = some (.lst vs) ∧ Paired (StnV H) vs t
theorem StandAt.monoN {H H' : Hp} (s : ExtN H H') {D : Addr} {t : List Stn} (h : StandAt H D t) : StandAt H' D t := by
  obtain ⟨vs, h1, h2⟩ := h
  exact ⟨vs, extN_lst s h1, paired_map h2 fun _ _ q => q.monoN s⟩
theorem paired_set2 {α β : Type} {F G : α → β → Prop} {a : α} {b : β} : ∀ {l₁ : List α} {l₂ : List β} (i : Nat), Paired F l₁ l₂ → G a b → (∀ x y, F x y → G x y) → Paired G (l₁.set i a) (l₂.set i b)
  | _, _, _, .nil, _, _ => .nil
  | _, _, 0, .cons r t, g, k => .cons g (paired_map t k)
  | _, _, i + 1, .cons r t, g, k => .cons (k _ _ r) (paired_set2 i t g k)
theorem sFold_snoc {x : Nat} {here : List Stn} {d : Dr} : ∀ (l : List Dr) (p : Nat) (th : List Stn), sFold x here (l ++ [d]) p th = sStep x here (sFold x here l p th) (p + l.length) d
  | [], p, th => rfl
  | q :: l, p, th => by
    show sFold x here (l ++ [d]) (p + 1) (sStep x here th p q) = sStep x here (sFold x here l (p + 1) (sStep x here th p q)) (p + (l.length + 1)) d
    rw [sFold_snoc l (p + 1) _]
    congr 1
    omega
theorem sFold_len {x : Nat} {here : List Stn} : ∀ (l : List Dr) (p : Nat) (th : List Stn), (sFold x here l p th).length = th.length
  | [], _, _ => rfl
  | d :: l, p, th => by
    show (sFold x here l (p + 1) (sStep x here th p d)).length = _
    rw [sFold_len l, sStep_len]
theorem walk_ET {K : PySem.W.Frag} {a : Addr} {xs : List V} {n : Nat} (hx : xs.length = n) : Walk (ItET K a) n (fun H => SqT K H a xs) (fun i H v H' => ∃ T x, v = .ref T ∧ H T = none ∧ H' = upd H T (.tup [.int (i : Nat), x]) ∧ xs[i]? = some x) where
  goes := fun i H hi h1 => ⟨xs, xs[i], h1, List.getElem?_eq_getElem (by omega)⟩
  stops := fun H h1 => ⟨xs, h1, hx⟩
  yields := fun i H v H' hi h1 ⟨T, x, e1, e2, e3, e4⟩ => ⟨T, x, e1, e2, e3, e4 xs h1⟩
abbrev sSteps : Stmt := topS 13
abbrev nSteps : List Str := ["machine", "letter", "here", "there", "place", "start", "sign", "goal", "cost", "so_far", "room"]
theorem scSteps : FnScope nSteps ["machine", "letter", "here"] (defScope sSteps) := ⟨rfl, rfl, rfl, by decide +kernel, rfl, by decide +kernel, by decide +kernel⟩
section
variable {P : Program} {w : World} {K : PySem.W.Frag} {mg : Str → Option Value} {base : Heap}
def spSteps : Sp := fun vs H Q _ => ∃ (m : Addr) (M : Mach) (c : Nat) (h : Addr) (hk : List Stn), vs = [.ref m, .str (sg c), .ref h] ∧ IsMach H m M ∧ M.Ok ∧ StandAt H h hk ∧ hk.length = M.n ∧
  ∀ H' D, Same H H' → H D = none → StandAt H' D (stepsOn M.n M.ds c hk) → Q (.ref D) H'
theorem ok_steps {f : Addr} {fd : FuncData} (F : Fun K "steps_on" "steps_on" sSteps f fd) (me : mg "enumerate" = none) : FnOk P w K mg base CX0 1 f fd ["machine", "letter", "here"] spSteps := by
  refine F.ok scSteps (fun vs H Q E h => ?_) (fun cdv A outer s H vs Q E hr h => ?_)
  · obtain ⟨m, M, c, h, hk, rfl, _⟩ := h
    rfl
  · obtain ⟨m, M, c, h, hk, rfl, ⟨b, e, d, as, hm⟩, ok, ⟨hv, hh, hP⟩, hkl, k⟩ := h
    have n5 := ok.n5
    have hvl := hP.length
    refine ⟨_, pss_cons (ps_setLc (i := 3) (own := [("room", 10)]) (g := gName 10) (tt := tYes) rfl scSteps.nd rfl rfl (sw_true rfl rfl rfl (by decide +kernel)) (pi_list (pv 2))
          (blkOk_by (N := nSteps) (sc := defScope sSteps) (by decide +kernel)) (fun _ _ _ _ _ => pg_name (i := 10) scSteps.nd rfl (Or.inl rfl)) (fun _ _ _ _ _ => pts_nil) (fun _ _ _ _ _ => pe_non))
      (pss_cons (ps_for PassesOwn.never rfl (pi_enumT (by rfl) me (pa_cons (pe_ixT (K := K) rfl (pv 0) pe_int) pa_nil))
          (pg_tup rfl (pgs_cons (pg_name (i := 4) scSteps.nd rfl (Or.inl rfl)) (pgs_cons (pg_tup rfl (pgs_cons (pg_name (i := 5) scSteps.nd rfl (Or.inl rfl)) (pgs_cons (pg_name (i := 6) scSteps.nd rfl (Or.inl rfl)) (pgs_cons (pg_name (i := 7) scSteps.nd rfl (Or.inl rfl)) (pgs_cons (pg_name (i := 8) scSteps.nd rfl (Or.inl rfl)) pgs_nil))))) pgs_nil)))
          (pss_one (ps_if (PW.pt (pw_and (pt_cmpR op_eq (pv 6) (pv 1) (nomark _)) (pw_and1 (pt_cmpR op_notN (pe_ixL (K := K) rfl (pv 2) (pv 5)) pe_non (nomark _)))))
            (pss_cons (ps_set (i := 9) scSteps.nd rfl (.inl rfl) (pe_op op_add (pe_ixT (K := K) rfl (pe_ixL (K := K) rfl (pv 2) (pv 5)) pe_int) (pv 8)))
              (pss_one (ps_if (PW.pt (pw_or (pt_cmpR op_isN (pe_ixL (K := K) rfl (pv 3) (pv 7)) pe_non (nomark _)) (pw_or1 (pt_cmpR op_lt (pv 9) (pe_ixT (K := K) rfl (pe_ixL (K := K) rfl (pv 3) (pv 7)) pe_int) (nomark _)))))
                (pss_one (ps_asg (pe_tup (pa_cons (pv 9) (pa_cons (pv 4) pa_nil))) (pg_sub (pv 3) (pv 7) set_list))) pss_nil)))
            pss_nil)))
      (pss_one (ps_ret (pv 3)))), ?_⟩
    -- there
    refine ⟨.ref h, rfl, h, rfl, ⟨_, SqL.of hh⟩, fun D nD => lc_list (K := K) (a := h) (xs := hv)
      (fun i H' => Same H H' ∧ H' D = some (.lst (List.replicate i .non))) ⟨same_new nD, upd_same⟩ (fun i H' _ z => SqL.of (z.1 _ _ hh)) ?_ ?_⟩
    · rintro i x H1 hx ⟨s1, hD⟩
      have hi := lt_of_at hx
      refine ⟨rfl, _, hD, by rw [List.length_replicate]; exact small5' (by omega), s1.put nD, ?_⟩
      rw [upd_same, List.replicate_succ']
    rintro H1 ⟨s1, hD⟩
    rw [hvl, hkl] at hD
    have ddl := hm.dr.length
    refine ⟨.ref m, rfl, m, _, 4, .ref d, rfl, rfl, SqT.of (s1 _ _ hm.all), atN (j := 4) rfl, d, as.map V.ref, rfl, SqT.of (s1 _ _ hm.ds), ?_⟩
    refine for_it (walk_ET (K := K) (a := d) (xs := as.map V.ref) (n := M.ds.length) (by rw [List.length_map]; exact ddl))
      (fun i σ H' => ∃ (y4 y5 y6 y7 y8 y9 : Option V) (vs : List V), σ = [some (.ref m), some (.str (sg c)), some (.ref h), some (.ref D), y4, y5, y6, y7, y8, y9, none] ∧ Same H H' ∧ H' D = some (.lst vs) ∧ Paired (StnV H') vs (sFold c hk (M.ds.take i) 0 (List.replicate M.n none)))
      ⟨none, none, none, none, none, none, _, rfl, s1, hD, ?_⟩ (fun i σ H' _ ⟨_, _, _, _, _, _, _, _, z, _⟩ => SqT.of (z _ _ hm.ds)) ?_ ?_
    · show Paired (StnV H1) (List.replicate M.n V.non) (List.replicate M.n none)
      generalize M.n = n
      induction n with
      | zero => exact .nil
      | succ n ih =>
        rw [List.replicate_succ, List.replicate_succ]
        exact .cons rfl ih
    · rintro i x σ H2 H2' hi ⟨y4, y5, y6, y7, y8, y9, vs, rfl, s2, hD2, hvs⟩ ⟨T, x, rfl, nT, rfl, hx⟩
      obtain ⟨q, hq, rfl⟩ := map_at hx
      obtain ⟨dr, hdr, hat⟩ := paired_get hm.dr hq
      have hmem := List.mem_of_getElem? hdr
      obtain ⟨hst, hgl⟩ := ok.dr dr hmem
      have hstep : sFold c hk (M.ds.take (i + 1)) 0 (List.replicate M.n none) = sStep c hk (sFold c hk (M.ds.take i) 0 (List.replicate M.n none)) i dr := by
        rw [List.take_add_one, hdr]
        show sFold c hk (M.ds.take i ++ [dr]) 0 _ = _
        rw [sFold_snoc, List.length_take]
        congr 1
        omega
      have lth : (sFold c hk (M.ds.take i) 0 (List.replicate M.n none)).length = M.n := by rw [sFold_len, List.length_replicate]
      generalize ht : sFold c hk (M.ds.take i) 0 (List.replicate M.n none) = t at hvs hstep lth
      have s3 : Same H (upd H2 T (.tup [.int (i : Nat), .ref q])) := s2.new nT
      have s23 : Same H2 (upd H2 T (.tup [.int (i : Nat), .ref q])) := same_new nT
      have hD3 := s23 _ _ hD2
      have hvs3 : Paired (StnV (upd H2 T (.tup [.int (i : Nat), .ref q]))) vs t := paired_map hvs fun _ _ z => z.monoN (extN_same s23)
      generalize hH3 : upd H2 T (.tup [.int (i : Nat), .ref q]) = H3 at s3 s23 hD3 hvs3
      have hT3 : H3 T = some (.tup [.int (i : Nat), .ref q]) := by rw [← hH3]; exact upd_same
      refine ⟨T, [.int (i : Nat), .ref q], rfl, SqT.of hT3, rfl, _, _, rfl, _, _, rfl, q, doorV dr, rfl, SqT.of (s3 _ _ hat), rfl, _, _, rfl, _, _, rfl, _, _, rfl, _, _, rfl, rfl, rfl, ?_⟩
      refine ⟨.str (sg dr.sg), rfl, .str (sg c), rfl, rfl, _, rfl, ?_⟩
      -- a turn that changes nothing
      have stay : sStep c hk t i dr = t → ∀ y9' : Option V, ∃ (y4 y5 y6 y7 y8 y9 : Option V) (vs : List V), [some (V.ref m), some (.str (sg c)), some (.ref h), some (.ref D), some (.int (i : Nat)), some (.int (dr.st : Int)), some (.str ⟨#[dr.sg]⟩), some (.int (dr.gl : Int)), some (.int dr.co), y9', none] = [some (V.ref m), some (.str (sg c)), some (.ref h), some (.ref D), y4, y5, y6, y7, y8, y9, none] ∧ Same H H3 ∧ H3 D = some (.lst vs) ∧ Paired (StnV H3) vs (sFold c hk (M.ds.take (i + 1)) 0 (List.replicate M.n none)) := fun e y9' =>
        ⟨_, _, _, _, _, y9', vs, rfl, s3, hD3, by rw [hstep, e]; exact hvs3⟩
      by_cases hc : dr.sg = c
      · refine iteY (by rw [hc]) ?_
        have hst' : dr.st < hk.length := by omega
        obtain ⟨v, hv1, hv2⟩ := paired_at hP (List.getElem?_eq_getElem hst')
        have eh : hk.getD dr.st none = hk[dr.st] := getD_at _ _ _ hst'
        have hsH : SqL K H3 h hv := SqL.of (s3 _ _ hh)
        refine ⟨.ref h, rfl, .int dr.st, rfl, h, _, dr.st, v, rfl, rfl, hsH, atN hv1, rfl, _, rfl, ?_⟩
        cases hs : hk[dr.st] with
        | none =>
          rw [hs] at hv2
          obtain rfl : v = .non := hv2
          refine iteNn rfl (stay ?_ _)
          unfold sStep
          rw [if_pos hc, eh, hs]
        | some aq =>
          obtain ⟨a, q'⟩ := aq
          rw [hs] at hv2
          obtain ⟨xa, rfl, hxa⟩ := hv2
          refine iteYn ref_non ?_
          refine ⟨.ref h, rfl, .int dr.st, rfl, h, _, dr.st, .ref xa, rfl, rfl, hsH, atN hv1, xa, _, 0, .int a, rfl, rfl, SqT.of (s3 _ _ hxa), atN (j := 0) rfl, .int dr.co, rfl, a, dr.co, rfl, rfl, ?_⟩
          have hgl' : dr.gl < t.length := by omega
          obtain ⟨v2, hv3, hv4⟩ := paired_at hvs3 (List.getElem?_eq_getElem hgl')
          have et : t.getD dr.gl none = t[dr.gl] := getD_at _ _ _ hgl'
          have hvl2 := hvs3.length
          refine ⟨.ref D, rfl, .int dr.gl, rfl, D, _, dr.gl, v2, rfl, rfl, SqL.of hD3, atN hv3, rfl, _, rfl, ?_⟩
          -- the store
          have store : sStep c hk t i dr = t.set dr.gl (some (a + dr.co, some i)) → ∃ v : V, (([some (V.ref m), some (.str (sg c)), some (.ref h), some (.ref D), some (.int (i : Nat)), some (.int (dr.st : Int)), some (.str ⟨#[dr.sg]⟩), some (.int (dr.gl : Int)), some (.int dr.co), some (.int (a + dr.co)), none] : L2.St)[9]? = some (some v)) ∧
              ∃ v' : V, (([some (V.ref m), some (.str (sg c)), some (.ref h), some (.ref D), some (.int (i : Nat)), some (.int (dr.st : Int)), some (.str ⟨#[dr.sg]⟩), some (.int (dr.gl : Int)), some (.int dr.co), some (.int (a + dr.co)), none] : L2.St)[4]? = some (some v')) ∧ [v, v'].length ≤ sizeLine ∧ ∀ p, H3 p = none → gSub (tVar 3) (tVar 7) rSetL (.ref p) [some (V.ref m), some (.str (sg c)), some (.ref h), some (.ref D), some (.int (i : Nat)), some (.int (dr.st : Int)), some (.str ⟨#[dr.sg]⟩), some (.int (dr.gl : Int)), some (.int dr.co), some (.int (a + dr.co)), none] (upd H3 p (.tup [v, v']))
                (fun σ H' => ∃ (y4 y5 y6 y7 y8 y9 : Option V) (vs : List V), σ = [some (V.ref m), some (.str (sg c)), some (.ref h), some (.ref D), y4, y5, y6, y7, y8, y9, none] ∧ Same H H' ∧ H' D = some (.lst vs) ∧ Paired (StnV H') vs (sFold c hk (M.ds.take (i + 1)) 0 (List.replicate M.n none))) := fun e => by
            refine ⟨.int (a + dr.co), rfl, .int (i : Nat), rfl, by show 2 ≤ sizeLine; decide, fun p np => ?_⟩
            have s4 := same_new (o := HO.tup [.int (a + dr.co), .int (i : Nat)]) np
            have hD4 := s4 _ _ hD3
            refine ⟨.ref D, rfl, .int dr.gl, rfl, D, vs, dr.gl, dr.gl, rfl, rfl, hD4, ixN_nat (by omega), ?_⟩
            refine ⟨_, _, _, _, _, _, _, rfl, (s3.trans s4).put nD, upd_same, ?_⟩
            rw [hstep, e]
            have nDt : ∀ x xs, H3 x = some (.tup xs) → upd (upd H3 p (.tup [.int (a + dr.co), .int (i : Nat)])) D (.lst (vs.set dr.gl (.ref p))) x = some (.tup xs) := fun x xs hx => by
              rw [upd_ne (ne_of hx hD3 (by intro z; cases z))]
              exact s4 _ _ hx
            refine paired_set2 dr.gl hvs3 ⟨p, rfl, ?_⟩ fun x y hxy => ?_
            · have hpD : p ≠ D := (ne_of_none hD3 np).symm
              rw [upd_ne hpD, upd_same]
              rfl
            · cases y with
              | none => exact hxy
              | some cq =>
                obtain ⟨z, ez, hz⟩ := hxy
                exact ⟨z, ez, nDt _ _ hz⟩
          cases ht2 : t[dr.gl] with
          | none =>
            rw [ht2] at hv4
            obtain rfl : v2 = .non := hv4
            refine iteY rfl (iteT (store ?_))
            unfold sStep
            rw [if_pos hc, eh, hs]
            show (match t.getD dr.gl none with | none => _ | some (b, _) => _) = _
            rw [et, ht2]
          | some bq =>
            obtain ⟨bb, q2⟩ := bq
            rw [ht2] at hv4
            obtain ⟨xb, rfl, hxb⟩ := hv4
            refine iteN ref_non ?_
            refine ⟨.int (a + dr.co), rfl, .ref D, rfl, .int dr.gl, rfl, D, _, dr.gl, .ref xb, rfl, rfl, SqL.of hD3, atN hv3, xb, _, 0, .int bb, rfl, rfl, SqT.of hxb, atN (j := 0) rfl, a + dr.co, bb, rfl, rfl, _, rfl, ?_⟩
            by_cases hlt : a + dr.co < bb
            · refine iteY hlt (store ?_)
              unfold sStep
              rw [if_pos hc, eh, hs]
              show (match t.getD dr.gl none with | none => _ | some (b, _) => _) = _
              rw [et, ht2]
              exact if_pos hlt
            · refine iteN hlt (stay ?_ _)
              unfold sStep
              rw [if_pos hc, eh, hs]
              show (match t.getD dr.gl none with | none => _ | some (b, _) => _) = _
              rw [et, ht2]
              exact if_neg hlt
      · refine iteN (fun z => hc (sg_inj z)) (iteF (stay (if_neg hc) _))
    · rintro σ H2 ⟨y4, y5, y6, y7, y8, y9, vs, rfl, s2, hD2, hvs⟩
      rw [List.take_length] at hvs
      exact ⟨.ref D, rfl, k H2 D s2 nD ⟨vs, hD2, hvs⟩⟩
end
end LT
set_option Elab.async false
set_option linter.all false
set_option maxRecDepth 100000
set_option maxHeartbeats 2000000
/-! road -/
namespace LT
open PySem PySem.Spec PyProof.Rows L2 OwnZ OwnR OwnK LamX NdefX
/-- a def whose code object is known -/
theorem okC {P : Program} {w : World} {K : PySem.W.Frag} {mg : Str → Option Value} {base : Heap} {x qual : Str} {st : Stmt} {f cc : Addr} {fd : FuncData} {N ps : List Str} {k : Nat} {sp : Sp} (F : Fun K x qual st f fd) (hc : fd.code = .ref cc) (S : FnScope N ps (defScope st)) (len : ∀ vs H Q E, sp vs H Q E → vs.length = ps.length)
    (hbody : ∀ (A : Around) (outer : List Env) (s : Shared) (H : Hp) (vs : List V) (Q : VK) (E : XK), Room k (A.deeper (envOfC qual (defScope st) s.heap.objs.size f (.ref cc))) → sp vs H Q E →
      ∃ t, PSs (cxOf CX0 P w K mg base N qual (defScope st) f (.ref cc) A outer s H E).nox (defBody st) t ∧ t { nx := fun _ H' => Q .non H', rt := Q } (start N vs) H) : FnOk P w K mg base CX0 (k + 1) f fd ps sp := by
  obtain ⟨oc, od, kV, doc, pm, an, cdv, ct, osl, rfl, lk, hcd⟩ := F.ex
  have e : cdv = .ref cc := hc
  subst e
  refine fn_of lk hcd S len fun A outer s H vs Q E hr hsp => ?_
  obtain ⟨t, h, q⟩ := hbody A outer s H vs Q E hr hsp
  exact ⟨t, h.nox, q⟩
def lamName : Str := (envOfC "road" (defScope (topS 14)) 0 0 .none).qual ++ "<lambda>"
abbrev sRoad : Stmt := topS 14
abbrev nRoad : List Str := ["machine", "word", "stands", "room", "letter", "goals", "places", "stand", "place"]
theorem scRoad : FnScope nRoad ["machine", "word"] (defScope sRoad) := ⟨rfl, rfl, rfl, by decide +kernel, rfl, by decide +kernel, by decide +kernel⟩
/-- the lambda's scope -/
def lamScope : Stmt → Scope
  | .Assign _ (.Call _ _ (kw :: _) _) _ => (match kw.value with
    | .Lambda _ _ sc _ => sc
    | _ => { kind := .function, names := [], isGenerator := false, isCoroutine := false })
  | _ => { kind := .function, names := [], isGenerator := false, isCoroutine := false }
theorem lamS : NScope ["one", "stands"] ["one"] ["stands"] (lamScope (bodyAt sRoad 4)) := nscope_by (by decide +kernel)
theorem lamD : ndefB (defScope sRoad) (lamScope (bodyAt sRoad 4)) ["stands"] = true := by decide +kernel
theorem atLast {l : List V} {v : V} (h : l[l.length - 1]? = some v) : atI l (-1) = some v := by
  have hl : l ≠ [] := fun e => by subst e; simp at h
  have e : l = l.dropLast ++ [v] := by
    have h2 := List.dropLast_concat_getLast hl
    have h3 : l.getLast? = some v := by rw [List.getLast?_eq_getElem?]; exact h
    rw [List.getLast?_eq_some_getLast hl] at h3
    rw [← Option.some.inj h3]
    exact h2.symm
  rw [e]
  exact atI_last _ _
section
variable {P : Program} {w : World} {K : PySem.W.Frag} {mg : Str → Option Value} {base : Heap}
/-- what road hands back -/
def spRoad (T : List (Addr × Str)) : Sp := fun vs H Q _ => ∃ (m : Addr) (M : Mach) (wd : List Nat), vs = [.ref m, .str (wS wd)] ∧ IsMach H m M ∧ M.Ok ∧ wd.length ≤ 1000 ∧ Tabs T H ∧
  (∀ H', ExtN H H' → Tabs T H' → (∀ c, ¬ LT.Rd M.ds M.bs M.es wd c) → Q .non H') ∧
  (∀ H' p (ps : List Nat) (c : Int) (i j : Nat), ExtN H H' → Tabs T H' → Lst (some c) (LT.Rd M.ds M.bs M.es wd) → i ∈ M.bs → j ∈ M.es → Ch M.ds wd ps i j c → H' p = some (.lst (roomsV ps)) → Q (.ref p) H')
theorem ok_road {f fS cc PT : Addr} {fd fdS : FuncData} (F : Fun K "road" "road" sRoad f fd) (hcode : fd.code = .ref cc) (TB : TabB base mg cc PT)
    (GS : FnOk P w K mg base CX0 1 fS fdS ["machine", "letter", "here"] spSteps) (kS : PySem.W.keepIn K (.ref fS) = true) (bS : Binds K fdS ["machine", "letter", "here"] []) (gS : mg "steps_on" = some (.ref fS))
    (mr : mg "range" = none) (ml : mg "len" = none) (mm : mg "min" = none) : FnOk P w K mg base CX0 3 f fd ["machine", "word"] (spRoad [(PT, lamName)]) := by
  refine okC F hcode scRoad (fun vs H Q E h => ?_) (fun A outer s H vs Q E hr h => ?_)
  · obtain ⟨m, M, wd, rfl, _⟩ := h
    rfl
  · obtain ⟨m, M, wd, rfl, him, ok, hlen, hT, kn, kr⟩ := h
    obtain ⟨b, e, d, as, hm⟩ := id him
    have hn := num_small ok
    have e0 : ((M.n : Int)).toNat = M.n := Int.toNat_natCast _
    have n5 := ok.n5
    refine ⟨_, pss_cons (ps_set (i := 2) scRoad.nd rfl (.inr rfl) (pe_lst (pa_cons (pe_lc (own := [("room", 3)]) (g := gName 3) (tt := tYes) rfl scRoad.nd (pi_range1 (by rfl) mr (pa_cons (pe_ixT (K := K) rfl (pv 0) pe_int) pa_nil))
          (blkOk_by (N := nRoad) (sc := defScope sRoad) (by decide +kernel)) (fun _ _ _ _ _ => pg_name (i := 3) scRoad.nd rfl (Or.inl rfl)) (fun _ _ _ _ _ => pts_nil)
          (fun _ _ _ _ _ => pe_ifExp (pt_inK (K := K) rfl (pv 3) (pe_ixT (K := K) rfl (pv 0) pe_int)) (pe_tup (pa_cons pe_int (pa_cons pe_non pa_nil))) pe_non)) pa_nil)))
      (pss_cons (ps_for PassesOwn.never rfl (pi_str (pv 1)) (pg_name (i := 4) scRoad.nd rfl (Or.inl rfl))
          (pss_one (ps_expr (pe_bm PySem.F.plainAttrs_list PySem.F.slot_list_append PySem.F.type_list_append mt_append (pv 2) (pa_cons (pe_call GS (hr.mono (by decide)) (by rfl) gS kS bS .nil pass0
            (pa_cons (pv 0) (pa_cons (pv 4) (pa_cons (pe_ixL (K := K) rfl (pv 2) (pe_un un_neg pe_int)) pa_nil)))) pa_nil)))))
      (pss_cons (ps_setLc (i := 5) (own := [("room", 3)]) (g := gName 3) (tt := tTest (tOp (fun x y H Q => y = .non ∧ Q (.bl (!decide (x = .non))) H) (tOp (rIxL K) (tOp (rIxL K) (tVar 2) (tUn (rU fun i => .int (-i)) (tC (.int 1)))) (tVar 3)) (tC .non)))
          rfl scRoad.nd rfl rfl (sw_true rfl rfl rfl (by decide +kernel)) (pi_tup (pe_ixT (K := K) rfl (pv 0) pe_int))
          (blkOk_by (N := nRoad) (sc := defScope sRoad) (by decide +kernel)) (fun _ _ _ _ _ => pg_name (i := 3) scRoad.nd rfl (Or.inl rfl))
          (fun _ _ _ _ _ => pts_one (pt_cmpR op_notN (pe_ixL (K := K) rfl (pe_ixL (K := K) rfl (pv 2) (pe_un un_neg pe_int)) (pv 3)) pe_non (nomark _))) (fun _ _ _ _ _ => pv 3))
      (pss_cons (ps_if (pt_cmpR op_eq (pe_callB call_len_seq (by rfl) ml PySem.boot_len (pa_cons (pv 5) pa_nil)) pe_int (nomark _)) (pss_one (ps_ret pe_non)) pss_nil)
      (pss_cons (ps_set (i := 3) scRoad.nd rfl (.inl rfl) (pe_minKey (T := [(PT, lamName)]) (k := 0) (j := 2) (x := "one") (y := "stands") (by rfl) mm (by decide +kernel) rfl (pa_cons (pv 5) pa_nil) TB rfl (List.mem_singleton.mpr rfl)
          (fun p hp _ => by rw [List.mem_singleton.mp hp]; rfl) rfl lamS (ndef_free lamD) (ndef_fr lamD _ (List.mem_singleton.mpr rfl)) rfl (fun _ _ _ _ _ _ => rfl) hr
          (fun f c' A outer s H E _ => pe_ixT (K := K) rfl (pe_ixL (K := K) rfl (pe_ixL (K := K) rfl (pv 1) (pe_un un_neg pe_int)) (pv 0)) pe_int)))
      (pss_cons (ps_set (i := 6) scRoad.nd rfl (.inl rfl) (pe_lst pa_nil))
      (pss_cons (ps_for PassesOwn.never rfl (pi_list (pe_tailRev (pv 2))) (pg_name (i := 7) scRoad.nd rfl (Or.inl rfl))
          (pss_cons (ps_set (i := 8) scRoad.nd rfl (.inl rfl) (pe_ixT (K := K) rfl (pe_ixL (K := K) rfl (pv 7) (pv 3)) pe_int))
          (pss_cons (ps_expr (pe_bm PySem.F.plainAttrs_list PySem.F.slot_list_append PySem.F.type_list_append mt_append (pv 6) (pa_cons (pv 8) pa_nil)))
          (pss_one (ps_set (i := 3) scRoad.nd rfl (.inl rfl) (pe_ixT (K := K) rfl (pe_ixT (K := K) rfl (pe_ixT (K := K) rfl (pv 0) pe_int) (pv 8)) pe_int))))))
      (pss_one (ps_ret (pe_revL (pv 6)))))))))), ?_⟩
    -- stands
    refine ⟨.ref m, rfl, m, _, 1, .int M.n, rfl, rfl, SqT.of hm.all, atN (j := 1) rfl, (M.n : Int), rfl, hn.1, hn.2, fun D nD => lc_range (lo := 0) (n := (M.n : Int).toNat)
      (fun i H' => Same H H' ∧ ∃ vs : List V, H' D = some (.lst vs) ∧ Paired (StnV H') vs ((stand0 M.n M.bs).take i)) ⟨same_new nD, [], upd_same, .nil⟩ ?_ ?_⟩
    · rintro i H1 hi ⟨s1, vs, hD, hvs⟩
      rw [e0] at hi
      have hat : (stand0 M.n M.bs)[i]? = some (if i ∈ M.bs then some (0, none) else none) := by
        unfold stand0
        rw [List.getElem?_map, List.getElem?_range hi]
        rfl
      have ei : (0 : Int) + (i : Int) = (i : Int) := Int.zero_add _
      rw [ei]
      have hvl := hvs.length
      have htk : (stand0 M.n M.bs).take (i + 1) = (stand0 M.n M.bs).take i ++ [if i ∈ M.bs then some (0, none) else none] := by
        rw [List.take_add_one, hat]
        rfl
      have hsz : vs.length < sizeLine := by
        rw [hvl, List.length_take]
        exact small5' (Nat.le_trans (Nat.min_le_left _ _) (by omega))
      refine ⟨rfl, .int i, rfl, .ref m, rfl, m, _, 2, .ref b, rfl, rfl, SqT.of (s1 _ _ hm.all), atN (j := 2) rfl, b, _, rfl, .inr (SqT.of (s1 _ _ hm.bs)), rfl, flat_rooms _, _, rfl, ?_⟩
      show if inV (.int (i : Int)) (roomsV M.bs) = true then _ else _
      rw [inV_rooms]
      by_cases h : i ∈ M.bs
      · refine iteY h ⟨by show 2 ≤ sizeLine; decide, fun p np => ?_⟩
        have s2 := same_new (o := HO.tup [.int 0, .non]) np
        have hD2 := s2 _ _ hD
        refine ⟨vs, hD2, hsz, (s1.trans s2).put nD, vs ++ [.ref p], upd_same, ?_⟩
        rw [htk, if_pos h]
        have key : ∀ x xs, (upd H1 p (.tup [.int 0, .non])) x = some (.tup xs) → upd (upd H1 p (.tup [.int 0, .non])) D (.lst (vs ++ [.ref p])) x = some (.tup xs) := fun x xs hx => by
          rw [upd_ne (ne_of hx hD2 (by intro z; cases z))]
          exact hx
        refine paired_snoc (paired_map hvs fun v t ht => ?_) ⟨p, rfl, key _ _ upd_same⟩
        cases t with
        | none => exact ht
        | some cq =>
          obtain ⟨x, ex, hx⟩ := ht
          exact ⟨x, ex, key _ _ (s2 _ _ hx)⟩
      · refine iteN h ⟨vs, hD, hsz, s1.put nD, vs ++ [.non], upd_same, ?_⟩
        rw [htk, if_neg h]
        refine paired_snoc (paired_map hvs fun v t ht => ?_) rfl
        cases t with
        | none => exact ht
        | some cq =>
          obtain ⟨x, ex, hx⟩ := ht
          exact ⟨x, ex, by rw [upd_ne (ne_of hx hD (by intro z; cases z))]; exact hx⟩
    rintro H1 ⟨s1, vs, hD, hvs⟩
    rw [e0, List.take_of_length_le (by unfold stand0; rw [List.length_map, List.length_range]; exact Nat.le_refl _)] at hvs
    refine ⟨by show 1 ≤ sizeLine; decide, fun Sd nSd => ?_⟩
    have s2 := same_new (o := HO.lst [V.ref D]) nSd
    have nSd0 : H Sd = none := s1.free nSd
    -- for letter in word
    refine ⟨.str (wS wd), rfl, wS wd, rfl, for_word
      (fun i σ H' => ∃ (y4 : Option V) (as : List Addr) (S : List (List Stn)), σ = [some (.ref m), some (.str (wS wd)), some (.ref Sd), none, y4, none, none, none, none] ∧ Same H H' ∧ H' Sd = some (.lst (as.map V.ref)) ∧ Sd ∉ as ∧ Paired (StandAt H') as S ∧ Sts M.n M.ds M.bs (wd.take i) S)
      ⟨none, [D], [stand0 M.n M.bs], rfl, s1.trans s2, upd_same, fun z => ?_, .cons ⟨vs, s2 _ _ hD, paired_map hvs fun v t ht => ht.monoN (extN_same s2)⟩ .nil, by rw [List.take_zero]; exact Sts.start _ _ _⟩ ?_ ?_⟩
    · rw [List.mem_singleton.mp z, hD] at nSd
      cases nSd
    · rintro i c σ H3 hc ⟨y4, as, S, rfl, s3, hS, hout, hP, hst⟩
      have hi := lt_of_at hc
      have hlw : (wd.take i).length = i := by rw [List.length_take]; omega
      have hSl : S.length = i + 1 := by rw [hst.len, hlw]
      have hal : as.length = i + 1 := by rw [hP.length, hSl]
      have hlast : S[i]? = some S[i] := List.getElem?_eq_getElem (by omega)
      obtain ⟨l, hl, hlS⟩ := paired_at hP hlast
      have hsw := hst.sw ok.dr i S[i] hlast
      have hls : (as.map V.ref)[(as.map V.ref).length - 1]? = some (.ref l) := by
        rw [List.length_map, hal]
        exact at_map hl
      refine ⟨.ref Sd, rfl, .inl ⟨rfl, _, SqL.of hS⟩, .ref m, rfl, .str (sg c), rfl, .ref Sd, rfl, 1, rfl, Sd, _, -1, .ref l, rfl, rfl, SqL.of hS, atLast hls, m, M, c, l, S[i], rfl, him.mono s3, ok, hlS, hsw.len, fun H4 D4 s4 n4 h4 => ?_⟩
      have hS4 := s4 _ _ hS
      have nD4 : D4 ≠ Sd := (ne_of_none hS n4).symm
      refine ⟨Sd, _, .ref D4, rfl, rfl, hS4, ?_, ?_⟩
      · rw [List.length_map, hal]
        exact Nat.lt_of_le_of_lt (show i + 1 ≤ 1001 by omega) (by decide)
      · refine ⟨_, as ++ [D4], S ++ [stepsOn M.n M.ds c S[i]], rfl, (s3.trans s4).put nSd0, ?_, ?_, ?_, ?_⟩
        · rw [upd_same, List.map_append]
          rfl
        · intro z
          rcases List.mem_append.mp z with z | z
          · exact hout z
          · exact nD4 (List.mem_singleton.mp z).symm
        · have keep : ∀ x, x ≠ Sd → ∀ t, StandAt H4 x t → StandAt (upd H4 Sd (.lst (as.map V.ref ++ [.ref D4]))) x t := fun x nx t ⟨us, h1, h2⟩ => by
            refine ⟨us, by rw [upd_ne nx]; exact h1, paired_map h2 fun v t ht => ?_⟩
            cases t with
            | none => exact ht
            | some cq =>
              obtain ⟨x, ex, hx⟩ := ht
              exact ⟨x, ex, by rw [upd_ne (ne_of hx hS4 (by intro z; cases z))]; exact hx⟩
          exact paired_snoc (paired_mapM hP fun x hx t ht => keep x (fun z => hout (z ▸ hx)) t (ht.monoN (extN_same s4))) (keep D4 nD4 _ h4)
        · have h2 : wd.take (i + 1) = wd.take i ++ [c] := by
            rw [List.take_add_one, hc]
            rfl
          rw [h2]
          exact hst.snoc (by rw [hlw]; exact hlast)
    rintro σ H3 ⟨y4, as, S, rfl, s3, hS, hout, hP, hst⟩
    rw [List.take_length] at hst
    have hSl := hst.len
    have hal : as.length = wd.length + 1 := by rw [hP.length, hSl]
    have hlast : S[wd.length]? = some S[wd.length] := List.getElem?_eq_getElem (by omega)
    obtain ⟨l, hl, hlS⟩ := paired_at hP hlast
    have hsw := hst.sw ok.dr _ _ hlast
    rw [List.take_length] at hsw
    have hlsd : (as.map V.ref)[(as.map V.ref).length - 1]? = some (.ref l) := by
      rw [List.length_map, hal]
      exact at_map hl
    generalize hL : S[wd.length] = L at hlast hlS hsw
    obtain ⟨lv, hlv, hlP⟩ := hlS
    -- goals
    refine ⟨.ref m, rfl, m, _, 3, .ref e, rfl, rfl, SqT.of (s3 _ _ hm.all), atN (j := 3) rfl, e, rfl, ⟨_, SqT.of (s3 _ _ hm.es)⟩, fun G nG => lc_tup (K := K) (a := e) (xs := roomsV M.es)
      (fun i H' => Same H3 H' ∧ H' G = some (.lst (roomsV ((M.es.take i).filter fun r => (L.getD r none).isSome)))) ⟨same_new nG, upd_same⟩ (fun i H' _ z => SqT.of (z.1 _ _ (s3 _ _ hm.es))) ?_ ?_⟩
    · rintro i x H4 hx ⟨s4, hG⟩
      obtain ⟨r, hr', rfl⟩ := map_at hx
      have hi : i < M.es.length := lt_of_at hr'
      have hlt := ok.es r (List.mem_of_getElem? hr')
      have hlt' : r < L.length := by rw [hsw.len]; exact hlt
      obtain ⟨v, hv1, hv2⟩ := paired_at hlP (List.getElem?_eq_getElem hlt')
      have eL : L.getD r none = L[r] := getD_at _ _ _ hlt'
      have htk : M.es.take (i + 1) = M.es.take i ++ [r] := by
        rw [List.take_add_one, hr']
        rfl
      refine ⟨rfl, .ref Sd, rfl, 1, rfl, Sd, _, -1, .ref l, rfl, rfl, SqL.of (s4 _ _ hS), atLast hlsd, .int r, rfl, l, _, r, v, rfl, rfl, SqL.of (s4 _ _ hlv), atN hv1, rfl, _, rfl, ?_⟩
      cases hs : L[r] with
      | none =>
        rw [hs] at hv2
        obtain rfl : v = .non := hv2
        refine iteNn rfl ⟨s4, ?_⟩
        rw [htk, List.filter_append, List.filter_cons_of_neg (by rw [eL, hs]; exact Bool.false_ne_true)]
        simpa using hG
      | some aq =>
        rw [hs] at hv2
        obtain ⟨x, rfl, _⟩ := hv2
        refine iteYn ref_non ⟨.int r, rfl, _, hG, ?_, s4.put nG, ?_⟩
        · unfold roomsV
          rw [List.length_map]
          refine small5' (Nat.le_trans (List.length_filter_le _ _) ?_)
          rw [List.length_take]
          have := ok.le
          omega
        · rw [upd_same, htk, List.filter_append, List.filter_cons_of_pos (by rw [eL, hs]; rfl)]
          unfold roomsV
          rw [List.map_append]
          rfl
    rintro H4 ⟨s4, hG⟩
    have e1 : M.es.take (roomsV M.es).length = M.es := List.take_of_length_le (by unfold roomsV; rw [List.length_map]; exact Nat.le_refl _)
    rw [e1] at hG
    have s34 : Same H H4 := s3.trans s4
    generalize hgl : (M.es.filter fun r => (L.getD r none).isSome) = gl at hG
    have memG : ∀ r, r ∈ gl ↔ r ∈ M.es ∧ (L.getD r none).isSome = true := fun r => by rw [← hgl, List.mem_filter]
    -- if len(goals) == 0
    refine ⟨.ref G, rfl, G, _, rfl, .inl (SqL.of hG), rfl, _, rfl, ?_⟩
    by_cases h0 : gl = []
    · subst h0
      refine iteY rfl ?_
      refine kn H4 (extN_same s34) (hT.ext s34) fun c ⟨i, j, hi, hj, hw⟩ => ?_
      have hlj := hsw.least j (ok.es j hj)
      cases q : L.getD j none with
      | none =>
        rw [q] at hlj
        exact hlj.1 rfl c ⟨i, hi, hw⟩
      | some aq => 
        have := (memG j).mpr ⟨hj, by rw [q]; rfl⟩
        cases this
    refine iteN (fun z => h0 ?_) ?_
    · have z1 : ((roomsV gl).length : Int) = 0 := V.int.inj z
      unfold roomsV at z1
      rw [List.length_map] at z1
      exact List.length_eq_zero_iff.mp (by omega)
    -- min
    have T4 : Tabs [(PT, lamName)] H4 := hT.ext s34
    have eInts : roomsV gl = (gl.map fun (r : Nat) => (r : Int)).map V.int := by
      unfold roomsV
      rw [List.map_map]
      rfl
    refine ⟨.ref G, rfl, G, gl.map fun (r : Nat) => (r : Int), rfl, SqL.of (by rw [← eInts]; exact hG), fun z => h0 (List.map_eq_nil_iff.mp z), T4, fun H5 x5 T5 => ?_⟩
    refine ⟨fun n => match L.getD n.toNat none with | some (a, _) => a | none => 0, fun n hn => ?_, fun n hn hmin => ?_⟩
    · obtain ⟨r, hr', rfl⟩ := List.mem_map.mp hn
      obtain ⟨hes, hsome⟩ := (memG r).mp hr'
      have hlt' : r < L.length := by rw [hsw.len]; exact ok.es r hes
      have eL : L.getD r none = L[r] := getD_at _ _ _ hlt'
      obtain ⟨v, hv1, hv2⟩ := paired_at hlP (List.getElem?_eq_getElem hlt')
      rw [eL] at hsome
      cases hs : L[r] with
      | none => rw [hs] at hsome; cases hsome
      | some aq =>
        obtain ⟨a, q⟩ := aq
        rw [hs] at hv2
        obtain ⟨x, rfl, hx⟩ := hv2
        have hk : (match L.getD ((r : Int)).toNat none with | some (a, _) => a | none => 0) = a := by
          rw [Int.toNat_natCast, eL, hs]
        exact ⟨.ref Sd, rfl, 1, rfl, Sd, _, -1, .ref l, rfl, rfl, SqL.of (extN_lst x5 (s4 _ _ hS)), atLast hlsd, .int r, rfl, l, _, r, .ref x, rfl, rfl, SqL.of (extN_lst x5 (s4 _ _ hlv)), atN hv1, x, _, 0, .int a, rfl, rfl, SqT.of (extN_get x5 (s4 _ _ hx)), atN (j := 0) rfl, congrArg V.int hk.symm, rfl⟩
    obtain ⟨r0, hr0, rfl⟩ := List.mem_map.mp hn
    obtain ⟨hes0, hsome0⟩ := (memG r0).mp hr0
    obtain ⟨c0, q0, hc0⟩ : ∃ c q, L.getD r0 none = some (c, q) := by
      cases q : L.getD r0 none with
      | none => rw [q] at hsome0; cases hsome0
      | some cq => exact ⟨cq.1, cq.2, rfl⟩
    have hl0 := hsw.least r0 (ok.es r0 hes0)
    rw [hc0] at hl0
    obtain ⟨⟨i0, hi0, hw0⟩, hle0⟩ := hl0.2 c0 rfl
    have hLst : Lst (some c0) (LT.Rd M.ds M.bs M.es wd) := by
      refine .one ⟨i0, r0, hi0, hes0, hw0⟩ fun c ⟨i, j, hi, hj, hw⟩ => ?_
      have hlj := hsw.least j (ok.es j hj)
      cases q : L.getD j none with
      | none =>
        rw [q] at hlj
        exact (hlj.1 rfl c ⟨i, hi, hw⟩).elim
      | some aq =>
        obtain ⟨a, qq⟩ := aq
        rw [q] at hlj
        have h1 := (hlj.2 a rfl).2 c ⟨i, hi, hw⟩
        have h2 := hmin (j : Int) (List.mem_map.mpr ⟨j, (memG j).mpr ⟨hj, by rw [q]; rfl⟩, rfl⟩)
        simp only [Int.toNat_natCast, hc0, q] at h2
        omega
    -- places = []
    refine ⟨Nat.zero_le _, fun Pl nP => ?_⟩
    have nPS : Sd ≠ Pl := fun z => by
      have := extN_lst x5 (s4 _ _ hS)
      rw [z, nP] at this
      cases this
    refine ⟨.ref Sd, rfl, Sd, as.map V.ref, rfl, SqL.of (by rw [upd_ne nPS]; exact extN_lst x5 (s4 _ _ hS)), fun R nR => ?_⟩
    have nPR : Pl ≠ R := fun z => by
      subst z
      rw [upd_same] at nR
      cases nR
    have hlR : ((as.map V.ref).drop 1).reverse.length = wd.length := by
      rw [List.length_reverse, List.length_drop, List.length_map, hal]
      omega
    have sR : Same H5 (upd (upd H5 Pl (.lst [])) R (.lst ((as.map V.ref).drop 1).reverse)) := (same_new nP).trans (same_new nR)
    refine ⟨R, rfl, ⟨_, SqL.of upd_same⟩, for_list (xs := ((as.map V.ref).drop 1).reverse)
      (fun t σ H' => ∃ (r : Nat) (a : Int) (q : Option Nat) (h : List Stn) (qs : List Nat) (y7 y8 : Option V), σ = [some (.ref m), some (.str (wS wd)), some (.ref Sd), some (.int (r : Int)), y4, some (.ref G), some (.ref Pl), y7, y8] ∧ Same H5 H' ∧ H' R = some (.lst ((as.map V.ref).drop 1).reverse) ∧ H' Pl = some (.lst (roomsV qs)) ∧ qs.length = t ∧ S[wd.length - t]? = some h ∧ h.getD r none = some (a, q) ∧ Ch M.ds (wd.drop (wd.length - t)) qs.reverse r r0 (c0 - a))
      ⟨r0, c0, q0, L, [], none, none, rfl, sR, upd_same, ?_, rfl, hlast, hc0, ?_⟩ (fun i σ H' _ z => ?_) ?_ ?_⟩
    · rw [upd_ne nPR]
      exact upd_same
    · rw [Nat.sub_zero, List.drop_length]
      exact ⟨rfl, by omega⟩
    · obtain ⟨_, _, _, _, _, _, _, _, _, z, _⟩ := z
      exact SqL.of z
    · rintro t x σ H7 hx ⟨r, a, q, h, qs, y7, y8, rfl, s7, hR, hPl, hqs, hSt, hr7, hch⟩
      have ht : t < wd.length := by
        rw [← hlR]
        exact lt_of_at hx
      obtain ⟨k, hk⟩ : ∃ k, wd.length - t = k + 1 := ⟨wd.length - t - 1, by omega⟩
      have hk1 : wd.length - (t + 1) = k := by omega
      rw [hk] at hSt hch
      rw [List.getElem?_reverse (by rw [List.length_reverse] at hlR; omega), List.getElem?_drop] at hx
      have ei : 1 + (((as.map V.ref).drop 1).length - 1 - t) = k + 1 := by
        rw [List.length_reverse] at hlR
        rw [hlR]
        omega
      rw [ei] at hx
      obtain ⟨a', ha', hst'⟩ := paired_at hP hSt
      rw [at_map ha'] at hx
      cases hx
      obtain ⟨vs', hvs', hvp⟩ := hst'
      obtain ⟨hrl, hrat⟩ := getD_some hr7
      obtain ⟨v, hv1, hv2⟩ := paired_at hvp hrat
      obtain ⟨x, rfl, hxx⟩ := hv2
      obtain ⟨p, dd, g, a1, q1, rfl, hdp, hwk, rfl, hSk, hg, rfl⟩ := hst.back ok.dr hSt hr7
      have x37 : ExtN H3 H7 := ((extN_same s4).trans x5).trans (extN_same s7)
      have m7 := (hm.monoN (((extN_same s34).trans x5).trans (extN_same s7)))
      obtain ⟨xd, hxd1, hxd2⟩ := paired_at m7.dr hdp
      have nM : ∀ b xs, H7 b = some (.tup xs) → (upd H7 Pl (.lst (roomsV qs ++ [V.int (p : Int)]))) b = some (.tup xs) := fun b xs hb => by
        rw [upd_ne (ne_of hb hPl (by intro z; cases z))]
        exact hb
      refine ⟨.ref a', rfl, .int (dd.gl : Int), rfl, a', _, dd.gl, .ref x, rfl, rfl, SqL.of (extN_lst x37 hvs'), atN hv1, x, _, 1, .int (p : Int), rfl, rfl, SqT.of (extN_get x37 hxx), atN (j := 1) rfl, ?_⟩
      refine ⟨.ref Pl, rfl, .inl ⟨rfl, _, SqL.of hPl⟩, .int (p : Int), rfl, Pl, _, .int (p : Int), rfl, rfl, hPl, ?_, ?_⟩
      · unfold roomsV
        rw [List.length_map, hqs]
        exact Nat.lt_of_le_of_lt (show t ≤ 1000 by omega) (by decide)
      refine ⟨.ref m, rfl, m, _, 4, .ref d, rfl, rfl, SqT.of (nM _ _ m7.all), atN (j := 4) rfl, .int (p : Int), rfl, d, _, p, .ref xd, rfl, rfl, SqT.of (nM _ _ m7.ds), atN (at_map hxd1), xd, _, 0, .int (dd.st : Int), rfl, rfl, SqT.of (nM _ _ hxd2), atN (j := 0) rfl, ?_⟩
      refine ⟨dd.st, a1, q1, g, qs ++ [p], _, _, rfl, s7.put nP, ?_, ?_, ?_, ?_, hg, ?_⟩
      · rw [upd_ne (Ne.symm nPR)]
        exact hR
      · rw [upd_same]
        unfold roomsV
        rw [List.map_append]
        rfl
      · rw [List.length_append, hqs]
        rfl
      · rw [hk1]
        exact hSk
      · rw [hk1, List.reverse_append]
        have hkl : k < wd.length := lt_of_at hwk
        have ew : wd.drop k = dd.sg :: wd.drop (k + 1) := by
          rw [List.drop_eq_getElem_cons hkl]
          rw [List.getElem?_eq_getElem hkl] at hwk
          rw [Option.some.inj hwk]
        rw [ew]
        exact ⟨dd, hdp, rfl, rfl, _, hch, by omega⟩
    rintro σ H7 ⟨r, a, q, h, qs, y7, y8, rfl, s7, hR, hPl, hqs, hSt, hr7, hch⟩
    rw [hlR, Nat.sub_self] at hSt hch
    have hh : stand0 M.n M.bs = h := Option.some.inj (hst.zero.symm.trans hSt)
    subst hh
    obtain ⟨hrb, rfl⟩ := stand0_at hr7
    rw [List.drop_zero, Int.sub_zero] at hch
    refine ⟨.ref Pl, rfl, Pl, _, rfl, SqL.of hPl, fun p np => ?_⟩
    have s8 := s7.trans (same_new (o := HO.lst (roomsV qs).reverse) np)
    refine kr _ p qs.reverse c0 r r0 (((extN_same s34).trans x5).trans (extN_same s8)) (T5.ext s8) hLst hrb hes0 hch ?_
    rw [upd_same]
    unfold roomsV
    rw [List.map_reverse]
end
end LT
set_option Elab.async false
set_option linter.all false
set_option maxRecDepth 100000
set_option maxHeartbeats 2000000
/-! the law's bag -/
namespace LT
open PySem PySem.Spec PyProof.Rows L2 OwnZ OwnR OwnK LamX NdefX
/-- all but the bag stays -/
def But (a : Addr) (H H' : Hp) : Prop := ∀ b o, b ≠ a → H b = some o → H' b = some o
theorem But.refl (a : Addr) (H : Hp) : But a H H := fun _ _ _ h => h
theorem But.trans {a : Addr} {H H1 H2 : Hp} (s : But a H H1) (t : But a H1 H2) : But a H H2 := fun b o n h => t b o n (s b o n h)
theorem But.of {a : Addr} {H H' : Hp} (s : Same H H') : But a H H' := fun b o _ h => s b o h
theorem But.set {a : Addr} {H : Hp} {o : HO} : But a H (upd H a o) := fun b u n h => by
  rw [upd_ne n]
  exact h
/-- a write to what is younger -/
theorem But.put {a : Addr} {H H1 : Hp} {p : Addr} {o : HO} (s : But a H H1) (h : H p = none) : But a H (upd H1 p o) := fun b u n e => by
  rw [upd_ne (ne_of_none e h)]
  exact s _ _ n e
theorem But.new {a : Addr} {H H1 : Hp} {p : Addr} {o : HO} (s : But a H H1) (h : H1 p = none) : But a H (upd H1 p o) := s.trans (.of (same_new h))
def BagAt (H : Hp) (a : Addr) : Prop := ∃ c m : Int, H a = some (.lst [.int c, .int m])
theorem Tabs.but {T : List (Addr × Str)} {H H' : Hp} {a : Addr} (t : Tabs T H) (b : BagAt H a) (s : But a H H') : Tabs T H' := fun p hp => by
  obtain ⟨c, m, hb⟩ := b
  obtain ⟨ps, h1, h2, h3⟩ := t p hp
  refine ⟨ps, s _ _ (ne_of h1 hb (by intro z; cases z)) h1, h2, fun pos cv hc => ?_⟩
  obtain ⟨x, e1, e2⟩ := h3 pos cv hc
  exact ⟨x, e1, s _ _ (ne_of e2 hb (by intro z; cases z)) e2⟩
theorem But.tup {a x : Addr} {H H' : Hp} {xs : List V} (s : But a H H') (b : BagAt H a) (h : H x = some (.tup xs)) : H' x = some (.tup xs) := by
  obtain ⟨c, m, hb⟩ := b
  exact s _ _ (ne_of h hb (by intro z; cases z)) h
abbrev sBag : Stmt := topS 16
abbrev sTake : Stmt := topS 17
abbrev nBag : List Str := ["_law_script", "_law_at", "_law_cell", "_law_mix", "_law_k"]
abbrev nTake : List Str := ["_law_bag_here", "_law_many", "_law_digit", "_law_number", "_law_room"]
theorem scBag : FnScope nBag ["_law_script", "_law_at"] (defScope sBag) := ⟨rfl, rfl, rfl, by decide +kernel, rfl, by decide +kernel, by decide +kernel⟩
theorem scTake : FnScope nTake ["_law_bag_here", "_law_many"] (defScope sTake) := ⟨rfl, rfl, rfl, by decide +kernel, rfl, by decide +kernel, by decide +kernel⟩
theorem pos1 : (0 : Int) < 2147483647 := by decide
theorem pos2 : (0 : Int) < 2147483629 := by decide
theorem pos3 : (0 : Int) < 1073741789 := by decide
theorem cmulR {i j : Int} (h1 : -(2 ^ 64) < j) (h2 : j < 2 ^ 64) : CMul i j := .inr ⟨h1, h2⟩
section
variable {P : Program} {w : World} {K : PySem.W.Frag} {mg : Str → Option Value} {base : Heap}
/-- the bag -/
def spBag (K : PySem.W.Frag) : Sp := fun vs H Q _ => ∃ (l : Addr) (ns : List Int) (k : Nat), vs = [.ref l, .int (k : Int)] ∧ SqL K H l (ns.map V.int) ∧ k ≤ 3 ∧
  ∀ p (c m : Int), H p = none → Q (.ref p) (upd H p (.lst [.int c, .int m]))
theorem ok_bag {f : Addr} {fd : FuncData} (F : Fun K "_law_bag" "_law_bag" sBag f fd) (ml : mg "len" = none) (ma : mg "abs" = none) (mn : mg "min" = none) (mr : mg "range" = none) : FnOk P w K mg base CX0 1 f fd ["_law_script", "_law_at"] (spBag K) := by
  refine F.ok scBag (fun vs H Q E h => ?_) (fun cdv A outer s H vs Q E hr h => ?_)
  · obtain ⟨l, ns, k, rfl, _⟩ := h
    rfl
  · obtain ⟨l, ns, k, rfl, hs, hk, q⟩ := h
    refine ⟨_, pss_cons (ps_set (i := 2) scBag.nd rfl (.inl rfl) pe_int)
      (pss_cons (ps_if (pt_cmpR op_lt (pv 1) (pe_callB call_len_seq (by rfl) ml PySem.boot_len (pa_cons (pv 0) pa_nil)) (nomark _)) (pss_one (ps_set (i := 2) scBag.nd rfl (.inl rfl) (pe_callB call_abs (by rfl) ma (by decide +kernel) (pa_cons (pe_ixL (K := K) rfl (pv 0) (pv 1)) pa_nil)))) pss_nil)
      (pss_cons (ps_set (i := 3) scBag.nd rfl (.inl rfl) (pe_op op_add (pe_op op_mulW pe_int (pv 1)) pe_int))
      (pss_cons (ps_for PassesOwn.never rfl (pi_range1 (by rfl) mr (pa_cons (pe_callB (call_min2 rfl) (by rfl) mn (by decide +kernel) (pa_cons (pe_callB call_len_seq (by rfl) ml PySem.boot_len (pa_cons (pv 0) pa_nil)) (pa_cons pe_int pa_nil))) pa_nil)) (pg_name (i := 4) scBag.nd rfl (Or.inl rfl))
        (pss_one (ps_set (i := 3) scBag.nd rfl (.inl rfl) (pe_op op_mod (pe_op op_add (pe_op op_add (pe_op op_mul (pv 3) pe_int) (pe_op op_mod (pe_ixL (K := K) rfl (pv 0) (pv 4)) pe_int)) (pv 4)) pe_int))))
      (pss_cons (ps_if (pt_cmpR op_lt (pv 2) (pe_op op_pow pe_int pe_int) (nomark _)) (pss_one (ps_set (i := 2) scBag.nd rfl (.inl rfl) pe_int)) pss_nil)
      (pss_one (ps_ret (pe_lst (pa_cons (pv 2) (pa_cons (pv 3) pa_nil))))))))), ?_⟩
    have hlen : ((ns.map V.int).length : Int) = (ns.length : Int) := by rw [List.length_map]
    refine ⟨.int (k : Int), rfl, .ref l, rfl, l, _, rfl, .inl hs, (k : Int), ((ns.map V.int).length : Int), rfl, rfl, _, rfl, ?_⟩
    by_cases h1 : (k : Int) < ((ns.map V.int).length : Int)
    all_goals first
      | (have hk' : k < ns.length := by omega
         refine iteY h1 ⟨.ref l, rfl, .int (k : Int), rfl, l, _, k, .int ns[k], rfl, rfl, hs, atN (by rw [List.getElem?_map, List.getElem?_eq_getElem hk']; rfl), ns[k], rfl, ?_⟩)
      | refine iteN h1 ?_
    all_goals
      refine ⟨.int (k : Int), rfl, 7919, (k : Int), rfl, rfl, ?_, _, _, rfl, rfl, ?_⟩
      · refine wide_mul (a := 20) (b := 20) (by decide) (Nat.lt_of_le_of_lt (show ((k : Int)).natAbs ≤ 3 by omega) (by decide)) (by decide) (by decide) (by decide)
      refine ⟨.ref l, rfl, l, _, rfl, .inl hs, _, _, rfl, ?_⟩
      have hj : ∃ j : Nat, (j : Int) = (if (60 : Int) < ((ns.map V.int).length : Int) then (60 : Int) else ((ns.map V.int).length : Int)) ∧ j ≤ 60 ∧ j ≤ ns.length := by
        rw [hlen]
        split
        · exact ⟨60, rfl, by omega, by omega⟩
        · exact ⟨ns.length, rfl, by omega, by omega⟩
      obtain ⟨j, ej, hj60, hjn⟩ := hj
      refine ⟨(j : Int), congrArg (fun z => [V.int z]) ej.symm, by omega, by omega, for_range (lo := 0) (n := (j : Int).toNat)
        (fun i σ H' => H' = H ∧ ∃ (c m : Int) (y4 : Option V), σ = [some (.ref l), some (.int (k : Int)), some (.int c), some (.int m), y4]) ⟨rfl, _, _, _, rfl⟩ ?_ ?_⟩
      · rintro i σ H' hi ⟨rfl, c, m, y4, rfl⟩
        have ei : (0 : Int) + (i : Int) = (i : Int) := Int.zero_add _
        rw [ei]
        have hi' : i < ns.length := by omega
        refine ⟨.int m, rfl, m, 48271, rfl, rfl, cmulR (by decide) (by decide), .ref l, rfl, .int (i : Int), rfl, l, _, i, .int ns[i], rfl, rfl, hs, atN (by rw [List.getElem?_map, List.getElem?_eq_getElem hi']; rfl), _, _, rfl, rfl, pos1, _, _, rfl, rfl, .int (i : Int), rfl, _, _, rfl, rfl, _, _, rfl, rfl, pos2, rfl, _, _, _, rfl⟩
      · rintro σ H' ⟨rfl, c, m, y4, rfl⟩
        refine ⟨.int c, rfl, 10, 18, rfl, rfl, ⟨by decide, by decide, by decide⟩, _, _, rfl, rfl, _, rfl, ?_⟩
        by_cases h2 : c < 10 ^ (18 : Int).toNat
        · exact iteY h2 ⟨.int 0, rfl, .int m, rfl, by show 2 ≤ sizeLine; decide, fun p np => q p 0 m np⟩
        · exact iteN h2 ⟨.int c, rfl, .int m, rfl, by show 2 ≤ sizeLine; decide, fun p np => q p c m np⟩
/-- a digit of the bag -/
def spTake : Sp := fun vs H Q _ => ∃ (a : Addr) (n : Nat), vs = [.ref a, .int (n : Int)] ∧ BagAt H a ∧ 1 ≤ n ∧ n ≤ 1000 ∧ ∀ H' (d : Nat), But a H H' → BagAt H' a → d < n → Q (.int (d : Int)) H'
theorem ok_take {f : Addr} {fd : FuncData} (F : Fun K "_law_take" "_law_take" sTake f fd) : FnOk P w K mg base CX0 1 f fd ["_law_bag_here", "_law_many"] spTake := by
  refine F.ok scTake (fun vs H Q E h => ?_) (fun cdv A outer s H vs Q E hr h => ?_)
  · obtain ⟨a, n, rfl, _⟩ := h
    rfl
  · obtain ⟨a, n, rfl, ⟨c, m, hb⟩, h1, h2, q⟩ := h
    have hn : (0 : Int) < (n : Int) := by omega
    refine ⟨_, pss_cons (ps_if (pt_cmpR op_gt (pe_ixL (K := K) rfl (pv 0) pe_int) pe_int (nomark _))
        (pss_cons (ps_set (i := 2) scTake.nd rfl (.inl rfl) (pe_op op_mod (pe_ixL (K := K) rfl (pv 0) pe_int) (pv 1)))
        (pss_cons (ps_asg (pe_op op_fdivW (pe_ixL (K := K) rfl (pv 0) pe_int) (pv 1)) (pg_sub (pv 0) pe_int set_list))
        (pss_one (ps_ret (pv 2))))) pss_nil)
      (pss_cons (ps_set (i := 3) scTake.nd rfl (.inl rfl) pe_int)
      (pss_cons (ps_set (i := 4) scTake.nd rfl (.inl rfl) pe_int)
      (pss_cons (ps_while PassesOwn.never (pt_cmpR op_lt (pv 4) (pv 1) (nomark _))
        (pss_cons (ps_asg (pe_op op_mod (pe_op op_add (pe_op op_mul (pe_ixL (K := K) rfl (pv 0) pe_int) pe_int) pe_int) pe_int) (pg_sub (pv 0) pe_int set_list))
        (pss_cons (ps_set (i := 3) scTake.nd rfl (.inl rfl) (pe_op op_add (pe_op op_mul (pv 3) pe_int) (pe_op op_mod (pe_op op_mul (pe_op op_fdivW (pe_ixL (K := K) rfl (pv 0) pe_int) pe_int) pe_int) pe_int)))
        (pss_one (ps_set (i := 4) scTake.nd rfl (.inl rfl) (pe_op op_mul (pv 4) pe_int))))))
      (pss_one (ps_ret (pe_op op_mod (pv 3) (pv 1))))))), ?_⟩
    have digit : ∀ x : Int, ∃ d : Nat, (d : Int) = x % (n : Int) ∧ d < n := fun x => by
      have a1 := Int.emod_nonneg x (Int.ne_of_gt hn)
      have a2 := Int.emod_lt_of_pos x hn
      exact ⟨(x % (n : Int)).toNat, Int.toNat_of_nonneg a1, by omega⟩
    refine ⟨.ref a, rfl, a, _, 0, .int c, rfl, rfl, SqL.of hb, atN (j := 0) rfl, c, 0, rfl, rfl, _, rfl, ?_⟩
    by_cases hc : 0 < c
    · refine iteY hc ⟨.ref a, rfl, a, _, 0, .int c, rfl, rfl, SqL.of hb, atN (j := 0) rfl, .int (n : Int), rfl, c, (n : Int), rfl, rfl, hn, ?_⟩
      refine ⟨.ref a, rfl, a, _, 0, .int c, rfl, rfl, SqL.of hb, atN (j := 0) rfl, .int (n : Int), rfl, c, (n : Int), rfl, rfl, wide_div (b := 10) hn (Nat.lt_of_le_of_lt (show ((n : Int)).natAbs ≤ 1000 by omega) (by decide)) (by decide) (by decide), ?_⟩
      refine ⟨.ref a, rfl, a, _, 0, 0, rfl, rfl, hb, rfl, .int (c % (n : Int)), rfl, ?_⟩
      obtain ⟨d, e, hd⟩ := digit c
      rw [← e]
      exact q _ d .set ⟨_, _, upd_same⟩ hd
    · refine iteN hc (while_by (fun σ H' => But a H H' ∧ BagAt H' a ∧ ∃ (x r : Int), σ = [some (.ref a), some (.int (n : Int)), none, some (.int x), some (.int r)] ∧ 1 ≤ r)
        (fun σ _ => match σ with | [_, _, _, _, some (.int r)] => ((n : Int) - r).toNat | _ => 0) ⟨.refl _ _, ⟨c, m, hb⟩, 0, 1, rfl, by decide⟩ ?_ ?_)
      · rintro σ H1 ⟨b1, ⟨c1, m1, hb1⟩, x, r, rfl, hr1⟩
        refine ⟨.int r, rfl, .int (n : Int), rfl, r, (n : Int), rfl, rfl, _, rfl, ?_⟩
        by_cases hlt : r < (n : Int)
        · refine iteY hlt ⟨.ref a, rfl, a, _, 1, .int m1, rfl, rfl, SqL.of hb1, atN (j := 1) rfl, m1, 48271, rfl, rfl, cmulR (by decide) (by decide), _, _, rfl, rfl, _, _, rfl, rfl, pos1, ?_⟩
          refine ⟨.ref a, rfl, a, _, 1, 1, rfl, rfl, hb1, rfl, ?_⟩
          have hb2 : (upd H1 a (.lst ([V.int c1, V.int m1].set 1 (.int ((m1 * 48271 + 7919) % 2147483647))))) a = some (.lst [.int c1, .int ((m1 * 48271 + 7919) % 2147483647)]) := upd_same
          refine ⟨.int x, rfl, x, 1073741789, rfl, rfl, cmulR (by decide) (by decide), .ref a, rfl, a, _, 1, .int ((m1 * 48271 + 7919) % 2147483647), rfl, rfl, SqL.of hb2, atN (j := 1) rfl, _, 8, rfl, rfl, wide_div (b := 10) (by decide) (by decide) (by decide) (by decide), _, 69621, rfl, rfl, cmulR (by decide) (by decide), _, _, rfl, rfl, pos3, _, _, rfl, rfl, ?_⟩
          refine ⟨.int r, rfl, r, 1073741789, rfl, rfl, cmulR (by decide) (by decide), ?_⟩
          refine ⟨⟨b1.trans .set, ⟨_, _, hb2⟩, _, _, rfl, by omega⟩, ?_⟩
          show ((n : Int) - r * 1073741789).toNat < ((n : Int) - r).toNat
          omega
        · refine iteN hlt ⟨.int x, rfl, .int (n : Int), rfl, x, (n : Int), rfl, rfl, hn, ?_⟩
          obtain ⟨d, e, hd⟩ := digit x
          show Q (.int (x % (n : Int))) H1
          rw [← e]
          exact q _ d b1 ⟨_, _, hb1⟩ hd
      · rintro σ H1 Q1 Q2 h ⟨x, e1, y, e2, i, j, e3, e4, b, e5, z⟩
        exact ⟨x, e1, y, e2, i, j, e3, e4, b, e5, h _ _ z⟩
end
end LT
set_option Elab.async false
set_option linter.all false
set_option maxRecDepth 100000
set_option maxHeartbeats 2000000
/-! the law's rooms, words, machines -/
namespace LT
open PySem PySem.Spec PyProof.Rows L2 OwnZ OwnR OwnK LamX NdefX
theorem But.free {a p : Addr} {H H1 : Hp} (s : But a H H1) (b : BagAt H1 a) (n : H1 p = none) : H p = none := by
  obtain ⟨c, m, hb⟩ := b
  cases q : H p with
  | none => rfl
  | some o =>
    rw [s p o (fun z => by rw [z, hb] at n; cases n) q] at n
    cases n
theorem BagAt.ne {a p : Addr} {H : Hp} (b : BagAt H a) (n : H p = none) : a ≠ p := fun z => by
  obtain ⟨c, m, hb⟩ := b
  rw [z, n] at hb
  cases hb
theorem BagAt.mono {a : Addr} {H H' : Hp} (b : BagAt H a) (s : Same H H') : BagAt H' a := by
  obtain ⟨c, m, hb⟩ := b
  exact ⟨c, m, s _ _ hb⟩
theorem BagAt.upd {a p : Addr} {H : Hp} {o : HO} (b : BagAt H a) (n : a ≠ p) : BagAt (upd H p o) a := by
  obtain ⟨c, m, hb⟩ := b
  exact ⟨c, m, by rw [upd_ne n]; exact hb⟩
theorem IsMach.but {a m : Addr} {M : Mach} {H H' : Hp} (h : IsMach H m M) (b : BagAt H a) (s : But a H H') : IsMach H' m M := by
  obtain ⟨x, e, d, as, h⟩ := h
  exact ⟨x, e, d, as, s.tup b h.all, s.tup b h.bs, s.tup b h.es, s.tup b h.ds, paired_map h.dr fun _ _ q => s.tup b q⟩
abbrev sRooms : Stmt := topS 18
abbrev sMach : Stmt := topS 19
abbrev sLWord : Stmt := topS 20
abbrev nRooms : List Str := ["_law_bag_here", "_law_many", "_law_bits", "_law_room"]
abbrev nMach : List Str := ["_law_bag_here", "_law_letters", "_law_rooms_here", "_law_many", "_law_doors", "_law_k"]
abbrev nLWord : List Str := ["_law_bag_here", "_law_letters", "_law_most", "_law_word_here", "_law_k"]
theorem scRooms : FnScope nRooms ["_law_bag_here", "_law_many"] (defScope sRooms) := ⟨rfl, rfl, rfl, by decide +kernel, rfl, by decide +kernel, by decide +kernel⟩
theorem scMach : FnScope nMach ["_law_bag_here"] (defScope sMach) := ⟨rfl, rfl, rfl, by decide +kernel, rfl, by decide +kernel, by decide +kernel⟩
theorem scLWord : FnScope nLWord ["_law_bag_here", "_law_letters", "_law_most"] (defScope sLWord) := ⟨rfl, rfl, rfl, by decide +kernel, rfl, by decide +kernel, by decide +kernel⟩
theorem pos0 : (0 : Int) < 2 := by decide
theorem shl1 (n : Nat) : (1 : Int) * 2 ^ ((n : Int)).toNat = ((2 ^ n : Nat) : Int) := by
  rw [Int.one_mul, Int.toNat_natCast, Int.natCast_pow]
  rfl
theorem pow5 {n : Nat} (h : n ≤ 5) : 1 ≤ 2 ^ n ∧ 2 ^ n ≤ 32 := ⟨Nat.one_le_two_pow, Nat.le_trans (Nat.pow_le_pow_right (by decide) h) (by decide)⟩
theorem cpow1 {n : Nat} (h : n ≤ 5) : CPow 1 (n : Int) := ⟨by omega, by omega, by decide⟩
theorem cdiv1 {r : Nat} {i : Int} (h : r ≤ 5) : CDivW i ((1 : Int) * 2 ^ ((r : Int)).toNat) := by
  rw [shl1]
  obtain ⟨h1, h2⟩ := pow5 h
  generalize 2 ^ r = k at h1 h2
  exact wide_div (b := 10) (by omega) (Nat.lt_of_le_of_lt (show ((k : Int)).natAbs ≤ 32 by omega) (by decide)) (by decide) (by decide)
section
variable {P : Program} {w : World} {K : PySem.W.Frag} {mg : Str → Option Value} {base : Heap}
def spLRooms : Sp := fun vs H Q _ => ∃ (a : Addr) (n : Nat), vs = [.ref a, .int (n : Int)] ∧ BagAt H a ∧ n ≤ 5 ∧
  ∀ H' t (rs : List Nat), But a H H' → BagAt H' a → (∀ r ∈ rs, r < n) → rs.length ≤ n → H' t = some (.tup (roomsV rs)) → Q (.ref t) H'
theorem ok_rooms {f fT : Addr} {fd fdT : FuncData} (F : Fun K "_law_rooms" "_law_rooms" sRooms f fd)
    (GT : FnOk P w K mg base CX0 1 fT fdT ["_law_bag_here", "_law_many"] spTake) (kT : PySem.W.keepIn K (.ref fT) = true) (bT : Binds K fdT ["_law_bag_here", "_law_many"] []) (gT : mg "_law_take" = some (.ref fT))
    (mt : mg "tuple" = none) (mr : mg "range" = none) : FnOk P w K mg base CX0 2 f fd ["_law_bag_here", "_law_many"] spLRooms := by
  refine F.ok scRooms (fun vs H Q E h => ?_) (fun cdv A outer s H vs Q E hr h => ?_)
  · obtain ⟨a, n, rfl, _⟩ := h
    rfl
  · obtain ⟨a, n, rfl, hb, h5, k⟩ := h
    refine ⟨_, pss_cons (ps_set (i := 2) scRooms.nd rfl (.inr rfl) (pe_call GT hr (by rfl) gT kT bT .nil pass0 (pa_cons (pv 0) (pa_cons (pe_op op_shl pe_int (pv 1)) pa_nil))))
      (pss_one (ps_ret (pe_callTy call_tuple_of (by rfl) mt (by decide +kernel) (pa_cons (pe_lc (own := [("_law_room", 3)]) (g := gName 3)
          rfl scRooms.nd (pi_range1 (by rfl) mr (pa_cons (pv 1) pa_nil))
          (blkOk_by (N := nRooms) (sc := defScope sRooms) (by decide +kernel)) (fun _ _ _ _ _ => pg_name (i := 3) scRooms.nd rfl (Or.inl rfl))
          (fun _ _ _ _ _ => pts_one (pt_cmpR op_eq (pe_op op_mod (pe_op op_fdivW (pv 2) (pe_op op_shl pe_int (pv 3))) pe_int) pe_int (nomark _)))
          (fun _ _ _ _ _ => pv 3)) pa_nil)))), ?_⟩
    refine ⟨.ref a, rfl, .int (n : Int), rfl, 1, (n : Int), rfl, rfl, cpow1 h5, a, 2 ^ n, ?_, hb, (pow5 h5).1, by have := (pow5 h5).2; omega, fun H1 d s1 b1 hd => ?_⟩
    · show [V.ref a, V.int (1 * 2 ^ ((n : Int)).toNat)] = _
      rw [shl1]
    have e0 : ((n : Int)).toNat = n := Int.toNat_natCast _
    refine ⟨.int (n : Int), rfl, (n : Int), rfl, by omega, by omega, fun D nD => lc_range (lo := 0) (n := ((n : Int)).toNat)
      (fun i H' => Same H1 H' ∧ ∃ rs : List Nat, H' D = some (.lst (roomsV rs)) ∧ (∀ r ∈ rs, r < i) ∧ rs.length ≤ i) ⟨same_new nD, [], upd_same, (fun r z => absurd z List.not_mem_nil), Nat.le_refl _⟩ ?_ ?_⟩
    · rintro i H2 hi ⟨s2, rs, hD, hlt, hle⟩
      have ei : (0 : Int) + (i : Int) = (i : Int) := Int.zero_add _
      rw [ei]
      have hi5 : i ≤ 5 := by omega
      refine ⟨rfl, .int (d : Int), rfl, .int (i : Int), rfl, 1, (i : Int), rfl, rfl, cpow1 hi5, _, _, rfl, rfl, cdiv1 hi5, _, 2, rfl, rfl, pos0, rfl, _, rfl, ?_⟩
      show if decide (_ = _) = true then _ else _
      by_cases h : V.int ((d : Int) / (1 * 2 ^ ((i : Int)).toNat) % 2) = V.int 1
      · refine iteY h ⟨.int (i : Int), rfl, _, hD, ?_, s2.put nD, rs ++ [i], ?_, ?_, ?_⟩
        · unfold roomsV
          rw [List.length_map]
          exact small5' (by omega)
        · rw [upd_same]
          unfold roomsV
          rw [List.map_append]
          rfl
        · intro r hr'
          rcases List.mem_append.mp hr' with z | z
          · exact Nat.lt_succ_of_lt (hlt r z)
          · rw [List.mem_singleton.mp z]
            exact Nat.lt_succ_self _
        · rw [List.length_append, List.length_singleton]
          omega
      · exact iteN h ⟨s2, rs, hD, fun r z => Nat.lt_succ_of_lt (hlt r z), by omega⟩
    · rintro H2 ⟨s2, rs, hD, hlt, hle⟩
      rw [e0] at hlt hle
      refine ⟨D, _, rfl, .inl ⟨SqL.of hD, fun p np => ?_⟩⟩
      have s3 := s2.trans (same_new (o := HO.tup (roomsV rs)) np)
      exact k _ p rs (s1.trans (.of s3)) (b1.mono s3) hlt hle upd_same
def spLWord : Sp := fun vs H Q _ => ∃ (a : Addr) (l : Nat), vs = [.ref a, .int (l : Int), .int 10] ∧ BagAt H a ∧ 1 ≤ l ∧ l ≤ 3 ∧
  ∀ H' (wd : List Nat), But a H H' → BagAt H' a → wd.length ≤ 10 → Q (.str (wS wd)) H'
theorem abc_at {d : Nat} (h : d < 3) : ∃ c, ("abc" : Str).cps[d]? = some c := by
  match d, h with
  | 0, _ => exact ⟨_, rfl⟩
  | 1, _ => exact ⟨_, rfl⟩
  | 2, _ => exact ⟨_, rfl⟩
theorem wS_snoc (wd : List Nat) (c : Nat) : wS wd ++ (⟨#[c]⟩ : Str) = wS (wd ++ [c]) := by
  show (⟨wd.toArray ++ #[c]⟩ : Str) = ⟨(wd ++ [c]).toArray⟩
  congr 1
  simp
theorem ok_lword {f fT : Addr} {fd fdT : FuncData} (F : Fun K "_law_word" "_law_word" sLWord f fd)
    (GT : FnOk P w K mg base CX0 1 fT fdT ["_law_bag_here", "_law_many"] spTake) (kT : PySem.W.keepIn K (.ref fT) = true) (bT : Binds K fdT ["_law_bag_here", "_law_many"] []) (gT : mg "_law_take" = some (.ref fT))
    (mr : mg "range" = none) : FnOk P w K mg base CX0 2 f fd ["_law_bag_here", "_law_letters", "_law_most"] spLWord := by
  refine F.ok scLWord (fun vs H Q E h => ?_) (fun cdv A outer s H vs Q E hr h => ?_)
  · obtain ⟨a, n, rfl, _⟩ := h
    rfl
  · obtain ⟨a, l, rfl, hb, h1, h3, k⟩ := h
    refine ⟨_, pss_cons (ps_set (i := 3) scLWord.nd rfl (.inl rfl) pe_str)
      (pss_cons (ps_for PassesOwn.never rfl (pi_range1 (by rfl) mr (pa_cons (pe_call GT hr (by rfl) gT kT bT .nil pass0 (pa_cons (pv 0) (pa_cons (pe_op op_add (pv 2) pe_int) pa_nil))) pa_nil)) (pg_name (i := 4) scLWord.nd rfl (Or.inl rfl))
        (pss_one (ps_set (i := 3) scLWord.nd rfl (.inl rfl) (pe_op op_add_str (pv 3) (pe_item_str pe_str (pe_call GT hr (by rfl) gT kT bT .nil pass0 (pa_cons (pv 0) (pa_cons (pv 1) pa_nil))) (by intro _ _; rfl))))))
      (pss_one (ps_ret (pv 3)))), ?_⟩
    refine ⟨.ref a, rfl, .int 10, rfl, 10, 1, rfl, rfl, a, 11, rfl, hb, by decide, by decide, fun H1 d s1 b1 hd => ?_⟩
    refine ⟨(d : Int), rfl, by omega, by omega, for_range (lo := 0) (n := ((d : Int)).toNat)
      (fun i σ H' => ∃ (wd : List Nat) (y4 : Option V), σ = [some (.ref a), some (.int (l : Int)), some (.int 10), some (.str (wS wd)), y4] ∧ But a H H' ∧ BagAt H' a ∧ wd.length = i) ⟨[], _, rfl, s1, b1, rfl⟩ ?_ ?_⟩
    · rintro i σ H2 hi ⟨wd, y4, rfl, s2, b2, hl⟩
      refine ⟨.str (wS wd), rfl, .ref a, rfl, .int (l : Int), rfl, a, l, rfl, b2, h1, by omega, fun H3 e s3 b3 he => ?_⟩
      obtain ⟨c, hc⟩ := abc_at (show e < 3 by omega)
      refine ⟨"abc", (e : Int), c, rfl, rfl, by omega, by omega, ?_, ?_, wS wd, ⟨#[c]⟩, rfl, rfl, ?_, ?_⟩
      · show (e : Int) < ((3 : Nat) : Int)
        omega
      · rw [Int.toNat_natCast]
        exact hc
      · show wd.toArray.size + 1 ≤ sizeLine
        rw [List.size_toArray, hl]
        exact Nat.le_trans (show i + 1 ≤ 12 by omega) (by decide)
      · exact ⟨wd ++ [c], _, congrArg (fun z => [some (V.ref a), some (V.int (l : Int)), some (V.int 10), some (V.str z), some (V.int (0 + (i : Int)))]) (wS_snoc wd c), s2.trans s3, b3, by rw [List.length_append, hl]; rfl⟩
    · rintro σ H2 ⟨wd, y4, rfl, s2, b2, hl⟩
      rw [Int.toNat_natCast] at hl
      exact ⟨_, rfl, k H2 wd s2 b2 (by omega)⟩
def spMach : Sp := fun vs H Q _ => ∃ a : Addr, vs = [.ref a] ∧ BagAt H a ∧
  ∀ H' m (M : Mach) (l : Nat), But a H H' → BagAt H' a → IsMach H' m M → M.Ok → 1 ≤ l → l ≤ 3 → M.l = (l : Int) → 1 ≤ M.n → Q (.ref m) H'
theorem ok_mach {f fT fR : Addr} {fd fdT fdR : FuncData} (F : Fun K "_law_machine" "_law_machine" sMach f fd)
    (GT : FnOk P w K mg base CX0 1 fT fdT ["_law_bag_here", "_law_many"] spTake) (kT : PySem.W.keepIn K (.ref fT) = true) (bT : Binds K fdT ["_law_bag_here", "_law_many"] []) (gT : mg "_law_take" = some (.ref fT))
    (GR : FnOk P w K mg base CX0 2 fR fdR ["_law_bag_here", "_law_many"] spLRooms) (kR : PySem.W.keepIn K (.ref fR) = true) (bR : Binds K fdR ["_law_bag_here", "_law_many"] []) (gR : mg "_law_rooms" = some (.ref fR))
    (mt : mg "tuple" = none) (mr : mg "range" = none) : FnOk P w K mg base CX0 3 f fd ["_law_bag_here"] spMach := by
  refine F.ok scMach (fun vs H Q E h => ?_) (fun cdv A outer s H vs Q E hr h => ?_)
  · obtain ⟨a, rfl, _⟩ := h
    rfl
  · obtain ⟨a, rfl, hb, k⟩ := h
    have hr1 := hr.mono (show 1 ≤ 2 by decide)
    refine ⟨_, pss_cons (ps_set (i := 1) scMach.nd rfl (.inl rfl) (pe_op op_add pe_int (pe_call GT hr1 (by rfl) gT kT bT .nil pass0 (pa_cons (pv 0) (pa_cons pe_int pa_nil)))))
      (pss_cons (ps_set (i := 2) scMach.nd rfl (.inl rfl) (pe_op op_add pe_int (pe_call GT hr1 (by rfl) gT kT bT .nil pass0 (pa_cons (pv 0) (pa_cons pe_int pa_nil)))))
      (pss_cons (ps_set (i := 3) scMach.nd rfl (.inl rfl) (pe_call GT hr1 (by rfl) gT kT bT .nil pass0 (pa_cons (pv 0) (pa_cons pe_int pa_nil))))
      (pss_cons (ps_if (pt_cmpR op_eq (pe_call GT hr1 (by rfl) gT kT bT .nil pass0 (pa_cons (pv 0) (pa_cons pe_int pa_nil))) pe_int (nomark _))
        (pss_one (ps_set (i := 3) scMach.nd rfl (.inl rfl) (pe_call GT hr1 (by rfl) gT kT bT .nil pass0 (pa_cons (pv 0) (pa_cons pe_int pa_nil))))) pss_nil)
      (pss_cons (ps_set (i := 4) scMach.nd rfl (.inl rfl) (pe_lst pa_nil))
      (pss_cons (ps_for PassesOwn.never rfl (pi_range1 (by rfl) mr (pa_cons (pv 3) pa_nil)) (pg_name (i := 5) scMach.nd rfl (Or.inl rfl))
        (pss_one (ps_expr (pe_bm PySem.F.plainAttrs_list PySem.F.slot_list_append PySem.F.type_list_append mt_append (pv 4) (pa_cons (pe_tup
          (pa_cons (pe_call GT hr1 (by rfl) gT kT bT .nil pass0 (pa_cons (pv 0) (pa_cons (pv 2) pa_nil)))
          (pa_cons (pe_item_str pe_str (pe_call GT hr1 (by rfl) gT kT bT .nil pass0 (pa_cons (pv 0) (pa_cons (pv 1) pa_nil))) (by intro _ _; rfl))
          (pa_cons (pe_call GT hr1 (by rfl) gT kT bT .nil pass0 (pa_cons (pv 0) (pa_cons (pv 2) pa_nil)))
          (pa_cons (pe_call GT hr1 (by rfl) gT kT bT .nil pass0 (pa_cons (pv 0) (pa_cons pe_int pa_nil))) pa_nil))))) pa_nil)))))
      (pss_one (ps_ret (pe_tup (pa_cons (pv 1) (pa_cons (pv 2)
          (pa_cons (pe_call GR hr (by rfl) gR kR bR .nil pass0 (pa_cons (pv 0) (pa_cons (pv 2) pa_nil)))
          (pa_cons (pe_call GR hr (by rfl) gR kR bR .nil pass0 (pa_cons (pv 0) (pa_cons (pv 2) pa_nil)))
          (pa_cons (pe_callTy call_tuple_of (by rfl) mt (by decide +kernel) (pa_cons (pv 4) pa_nil)) pa_nil))))))))))))), ?_⟩
    refine ⟨.ref a, rfl, a, 3, rfl, hb, by decide, by decide, fun H1 l0 s1 b1 hl0 => ?_⟩
    refine ⟨1, (l0 : Int), rfl, rfl, .ref a, rfl, a, 5, rfl, b1, by decide, by decide, fun H2 n0 s2 b2 hn0 => ?_⟩
    refine ⟨1, (n0 : Int), rfl, rfl, .ref a, rfl, a, 13, rfl, b2, by decide, by decide, fun H3 d3 s3 b3 hd3 => ?_⟩
    refine ⟨.ref a, rfl, a, 8, rfl, b3, by decide, by decide, fun H4 d4 s4 b4 hd4 => ?_⟩
    have el : (1 : Int) + (l0 : Int) = ((1 + l0 : Nat) : Int) := by omega
    have en : (1 : Int) + (n0 : Int) = ((1 + n0 : Nat) : Int) := by omega
    have s04 : But a H H4 := ((s1.trans s2).trans s3).trans s4
    refine ⟨rfl, _, rfl, ?_⟩
    by_cases h7 : V.int (d4 : Int) = V.int 7
    all_goals first
      | (refine iteY h7 ⟨.ref a, rfl, a, 76, rfl, b4, by decide, by decide, fun H5 md s5 b5 hmd => ?_⟩
         have s05 := s04.trans s5)
      | (refine iteN h7 ?_
         have s05 := s04
         have b5 := b4
         have hmd : d3 < 76 := by omega
         revert s05 b5 hmd
         generalize H4 = H5
         generalize d3 = md
         intro s05 b5 hmd)
    all_goals
      refine ⟨by decide, fun D nD => ?_⟩
      have nD0 : H D = none := s05.free b5 nD
      have naD : a ≠ D := b5.ne nD
      refine ⟨.int (md : Int), rfl, (md : Int), rfl, by omega, by omega, for_range (lo := 0) (n := ((md : Int)).toNat)
        (fun i σ H' => ∃ (y5 : Option V) (as : List Addr) (ds : List Dr), σ = [some (.ref a), some (.int (1 + (l0 : Int))), some (.int (1 + (n0 : Int))), some (.int (md : Int)), some (.ref D), y5] ∧ But a H H' ∧ BagAt H' a ∧ H' D = some (.lst (as.map V.ref)) ∧
          Paired (fun x q => H' x = some (.tup (doorV q))) as ds ∧ ds.length = i ∧ ∀ q ∈ ds, (q.st < 1 + n0 ∧ q.gl < 1 + n0) ∧ (0 ≤ q.co ∧ q.co ≤ 3))
        ⟨none, [], [], rfl, s05.new nD, b5.upd naD, upd_same, .nil, rfl, fun q z => absurd z List.not_mem_nil⟩ ?_ ?_⟩
      · rintro i σ H6 hi ⟨y5, as, ds, rfl, s6, b6, hD6, hP, hl, hok⟩
        have hi' : i < md := by omega
        refine ⟨.ref D, rfl, .inl ⟨rfl, _, SqL.of hD6⟩, .ref a, rfl, .int (1 + (n0 : Int)), rfl, a, 1 + n0, congrArg (fun z => [V.ref a, V.int z]) en, b6, by omega, by omega, fun H7 st s7 b7 hst => ?_⟩
        refine ⟨.ref a, rfl, .int (1 + (l0 : Int)), rfl, a, 1 + l0, congrArg (fun z => [V.ref a, V.int z]) el, b7, by omega, by omega, fun H8 e s8 b8 he => ?_⟩
        obtain ⟨c, hc⟩ := abc_at (show e < 3 by omega)
        refine ⟨"abc", (e : Int), c, rfl, rfl, by omega, by omega, ?_, ?_, ?_⟩
        · show (e : Int) < ((3 : Nat) : Int)
          omega
        · rw [Int.toNat_natCast]
          exact hc
        refine ⟨.ref a, rfl, .int (1 + (n0 : Int)), rfl, a, 1 + n0, congrArg (fun z => [V.ref a, V.int z]) en, b8, by omega, by omega, fun H9 gl s9 b9 hgl => ?_⟩
        refine ⟨.ref a, rfl, a, 4, rfl, b9, by decide, by decide, fun H10 co s10 b10 hco => ?_⟩
        refine ⟨by show 4 ≤ sizeLine; decide, fun p np => ?_⟩
        have s610 := ((s7.trans s8).trans s9).trans s10
        have hD10 := s610 _ _ (Ne.symm naD) hD6
        have npD : p ≠ D := (ne_of_none hD10 np).symm
        have hDp : (upd H10 p (.tup [.int (st : Int), .str ⟨#[c]⟩, .int (gl : Int), .int (co : Int)])) D = some (.lst (as.map V.ref)) := same_new np _ _ hD10
        refine ⟨D, _, .ref p, rfl, rfl, hDp, ?_, ?_⟩
        · rw [List.length_map, hP.length, hl]
          exact Nat.lt_of_le_of_lt (show i ≤ 76 by omega) (by decide)
        refine ⟨_, as ++ [p], ds ++ [⟨st, c, gl, (co : Int)⟩], rfl, ((s6.trans s610).new np).put nD0, (b10.upd (b10.ne np)).upd naD, ?_, ?_, ?_, ?_⟩
        · rw [upd_same, List.map_append]
          rfl
        · have keep : ∀ x q, (upd H10 p (.tup [.int (st : Int), .str ⟨#[c]⟩, .int (gl : Int), .int (co : Int)])) x = some (.tup (doorV q)) → upd (upd H10 p (.tup [.int (st : Int), .str ⟨#[c]⟩, .int (gl : Int), .int (co : Int)])) D (.lst (as.map V.ref ++ [.ref p])) x = some (.tup (doorV q)) := fun x q hx => by
            rw [upd_ne (ne_of hx hDp (by intro z; cases z))]
            exact hx
          refine paired_snoc (paired_map hP fun x q hx => keep x q (same_new np _ _ (s610.tup b6 hx))) (keep p _ upd_same)
        · rw [List.length_append, hl]
          rfl
        · intro q hq
          rcases List.mem_append.mp hq with z | z
          · exact hok q z
          · rw [List.mem_singleton.mp z]
            exact ⟨⟨hst, hgl⟩, by show (0 : Int) ≤ (co : Int); omega, by show (co : Int) ≤ 3; omega⟩
      · rintro σ H6 ⟨y5, as, ds, rfl, s6, b6, hD6, hP, hl, hok⟩
        rw [Int.toNat_natCast] at hl
        refine ⟨_, rfl, _, rfl, .ref a, rfl, .int (1 + (n0 : Int)), rfl, a, 1 + n0, congrArg (fun z => [V.ref a, V.int z]) en, b6, by omega, fun H7 B bs s7 b7 hbs hbl hB => ?_⟩
        refine ⟨.ref a, rfl, .int (1 + (n0 : Int)), rfl, a, 1 + n0, congrArg (fun z => [V.ref a, V.int z]) en, b7, by omega, fun H8 E' es s8 b8 hes hel hE => ?_⟩
        have s68 := s7.trans s8
        refine ⟨.ref D, rfl, D, _, rfl, .inl ⟨SqL.of (s68 _ _ (Ne.symm naD) hD6), fun T nT => ?_⟩⟩
        refine ⟨by show 5 ≤ sizeLine; decide, fun m nm => ?_⟩
        have sT := same_new (o := HO.tup (as.map V.ref)) nT
        have sm := same_new (o := HO.tup [.int (1 + (l0 : Int)), .int (1 + (n0 : Int)), .ref B, .ref E', .ref T]) nm
        have sTm := sT.trans sm
        refine k _ m ⟨((1 + l0 : Nat) : Int), 1 + n0, bs, es, ds⟩ (1 + l0) ((s6.trans s68).trans (.of sTm)) (b8.mono sTm) ⟨B, E', T, as, ?_, ?_, ?_, ?_, ?_⟩ ⟨by show 1 + n0 ≤ 5; omega, hbs, hes, fun q hq => (hok q hq).1, fun q hq => (hok q hq).2, by show bs.length ≤ 5; omega, by show es.length ≤ 5; omega, by show ds.length ≤ 75; omega⟩ (by omega) (by omega) rfl (by show 1 ≤ 1 + n0; omega)
        · rw [upd_same, el, en]
        · exact sTm _ _ (s8.tup b7 hB)
        · exact sTm _ _ hE
        · exact sm _ _ upd_same
        · exact paired_map hP fun x q hx => sTm _ _ (s68.tup b6 hx)
end
end LT
set_option Elab.async false
set_option linter.all false
set_option maxRecDepth 100000
set_option maxHeartbeats 2000000
/-! the law's product, sameness -/
namespace LT
open PySem PySem.Spec PyProof.Rows L2 OwnZ OwnR OwnK LamX NdefX
abbrev sLProd : Stmt := topS 21
abbrev sSame : Stmt := topS 22
abbrev nLProd : List Str := ["_law_one", "_law_other", "_law_rows", "_law_i", "_law_row", "_law_j", "_law_least", "_law_k"]
abbrev nSame : List Str := ["_law_found", "_law_due", "_law_i", "_law_entry"]
theorem scLProd : FnScope nLProd ["_law_one", "_law_other"] (defScope sLProd) := ⟨rfl, rfl, rfl, by decide +kernel, rfl, by decide +kernel, by decide +kernel⟩
theorem scSame : FnScope nSame ["_law_found", "_law_due"] (defScope sSame) := ⟨rfl, rfl, rfl, by decide +kernel, rfl, by decide +kernel, by decide +kernel⟩
/-- an entry of a table -/
theorem TabAt.ix {H : Hp} {a : Addr} {t : List (List Pr)} {n i j : Nat} (h : TabAt H a t) (sq : Sq n t) (hi : i < n) (hj : j < n) :
    ∃ (xs : List V) (l : Addr) (ys : List V), H a = some (.tup xs) ∧ atI xs (i : Int) = some (.ref l) ∧ H l = some (.tup ys) ∧ atI ys (j : Int) = some (pV (ent t i j)) := by
  obtain ⟨as, hA, hP⟩ := h
  have hi' : i < t.length := by rw [sq.len]; exact hi
  obtain ⟨l, h1, h2⟩ := paired_at hP (List.getElem?_eq_getElem hi')
  have hl : t[i].length = n := sq.row _ (List.getElem_mem hi')
  refine ⟨_, l, _, hA, atN (at_map h1), h2, atN ?_⟩
  have e : ent t i j = t[i][j] := by
    show (t.getD i []).getD j none = _
    rw [getD_at _ _ _ hi', getD_at _ _ _ (by rw [hl]; exact hj)]
  rw [e, List.getElem?_map, List.getElem?_eq_getElem (by rw [hl]; exact hj)]
  rfl
section
variable {P : Program} {w : World} {K : PySem.W.Frag} {mg : Str → Option Value} {base : Heap}
def spLProd : Sp := fun vs H Q _ => ∃ (a b : Addr) (n : Nat) (t u : List (List Pr)), vs = [.ref a, .ref b] ∧ TabAt H a t ∧ TabAt H b u ∧ Sq n t ∧ Sq n u ∧ n ≤ 5 ∧
  ∀ H' p, Same H H' → TabAt H' p (lawProd t u n) → Q (.ref p) H'
theorem ok_lprod {f : Addr} {fd : FuncData} (F : Fun K "_law_product" "_law_product" sLProd f fd) (mt : mg "tuple" = none) (mr : mg "range" = none) (ml : mg "len" = none) : FnOk P w K mg base CX0 1 f fd ["_law_one", "_law_other"] spLProd := by
  refine F.ok scLProd (fun vs H Q E h => ?_) (fun cdv A outer s H vs Q E hr h => ?_)
  · obtain ⟨a, b, n, t, u, rfl, _⟩ := h
    rfl
  · obtain ⟨a, b, n, t, u, rfl, hA, hB, ht, hu, h5, k⟩ := h
    refine ⟨_, pss_cons (ps_set (i := 2) scLProd.nd rfl (.inl rfl) (pe_lst pa_nil))
      (pss_cons (ps_for PassesOwn.never rfl (pi_range1 (by rfl) mr (pa_cons (pe_callB call_len_seq (by rfl) ml PySem.boot_len (pa_cons (pv 0) pa_nil)) pa_nil)) (pg_name (i := 3) scLProd.nd rfl (Or.inl rfl))
        (pss_cons (ps_set (i := 4) scLProd.nd rfl (.inl rfl) (pe_tup pa_nil))
        (pss_cons (ps_for PassesOwn.never rfl (pi_range1 (by rfl) mr (pa_cons (pe_callB call_len_seq (by rfl) ml PySem.boot_len (pa_cons (pv 0) pa_nil)) pa_nil)) (pg_name (i := 5) scLProd.nd rfl (Or.inl rfl))
          (pss_cons (ps_set (i := 6) scLProd.nd rfl (.inl rfl) pe_non)
          (pss_cons (ps_for PassesOwn.never rfl (pi_range1 (by rfl) mr (pa_cons (pe_callB call_len_seq (by rfl) ml PySem.boot_len (pa_cons (pv 0) pa_nil)) pa_nil)) (pg_name (i := 7) scLProd.nd rfl (Or.inl rfl))
            (pss_one (ps_if (PW.pt (pw_and (pt_cmpR op_notN (pe_ixT (K := K) rfl (pe_ixT (K := K) rfl (pv 0) (pv 3)) (pv 7)) pe_non (nomark _)) (pw_and1 (pt_cmpR op_notN (pe_ixT (K := K) rfl (pe_ixT (K := K) rfl (pv 1) (pv 7)) (pv 5)) pe_non (nomark _)))))
              (pss_one (ps_if (PW.pt (pw_or (pt_cmpR op_isN (pv 6) pe_non (nomark _)) (pw_or1 (pt_cmpR op_lt (pe_op op_add (pe_ixT (K := K) rfl (pe_ixT (K := K) rfl (pv 0) (pv 3)) (pv 7)) (pe_ixT (K := K) rfl (pe_ixT (K := K) rfl (pv 1) (pv 7)) (pv 5))) (pv 6) (nomark _)))))
                (pss_one (ps_set (i := 6) scLProd.nd rfl (.inl rfl) (pe_op op_add (pe_ixT (K := K) rfl (pe_ixT (K := K) rfl (pv 0) (pv 3)) (pv 7)) (pe_ixT (K := K) rfl (pe_ixT (K := K) rfl (pv 1) (pv 7)) (pv 5))))) pss_nil)) pss_nil)))
          (pss_one (ps_set (i := 4) scLProd.nd rfl (.inl rfl) (pe_op op_catA (pv 4) (pe_tup (pa_cons (pv 6) pa_nil))))))))
        (pss_one (ps_expr (pe_bm PySem.F.plainAttrs_list PySem.F.slot_list_append PySem.F.type_list_append mt_append (pv 2) (pa_cons (pv 4) pa_nil)))))))
      (pss_one (ps_ret (pe_callTy call_tuple_of (by rfl) mt (by decide +kernel) (pa_cons (pv 2) pa_nil))))), ?_⟩
    refine ⟨by decide, fun D nD => ?_⟩
    have lenA : ∀ {H' : Hp}, Same H H' → ∃ xs : List V, SqT K H' a xs ∧ xs.length = n := fun s => by
      obtain ⟨as, h1, h2⟩ := hA
      exact ⟨_, SqT.of (s _ _ h1), by rw [List.length_map, h2.length, ht.len]⟩
    have en : ((n : Int)).toNat = n := Int.toNat_natCast _
    have ei : ∀ i : Nat, (0 : Int) + (i : Int) = (i : Int) := fun i => Int.zero_add _
    obtain ⟨xs, hx1, hx2⟩ := lenA (same_new (o := HO.lst []) nD)
    refine ⟨.ref a, rfl, a, xs, rfl, .inr hx1, (n : Int), by rw [hx2], by omega, by omega, for_range (lo := 0) (n := ((n : Int)).toNat)
      (fun i σ H' => ∃ (y3 y4 y5 y6 y7 : Option V) (ps : List Addr), σ = [some (.ref a), some (.ref b), some (.ref D), y3, y4, y5, y6, y7] ∧ Same H H' ∧ H' D = some (.lst (ps.map V.ref)) ∧
        Paired (RowAt H') ps ((List.range i).map fun i => (List.range n).map fun j => lawEnt t u n i j)) ⟨none, none, none, none, none, [], rfl, same_new nD, upd_same, .nil⟩ ?_ ?_⟩
    · rintro i σ H1 hi ⟨y3, y4, y5, y6, y7, ps, rfl, s1, hD1, hP1⟩
      rw [en] at hi
      rw [ei]
      refine ⟨Nat.zero_le _, fun r0 nr0 => ?_⟩
      have s1' := s1.trans (same_new (o := HO.tup []) nr0)
      obtain ⟨xs, hx1, hx2⟩ := lenA s1'
      refine ⟨.ref a, rfl, a, xs, rfl, .inr hx1, (n : Int), by rw [hx2], by omega, by omega, for_range (lo := 0) (n := ((n : Int)).toNat)
        (fun j σ H' => ∃ (y5 y6 y7 : Option V) (rp : Addr), σ = [some (.ref a), some (.ref b), some (.ref D), some (.int (i : Int)), some (.ref rp), y5, y6, y7] ∧ Same H1 H' ∧ RowAt H' rp ((List.range j).map fun j => lawEnt t u n i j))
        ⟨y5, y6, y7, r0, rfl, same_new nr0, upd_same⟩ ?_ ?_⟩
      · rintro j σ H2 hj ⟨y5, y6, y7, rp, rfl, s2, hrp⟩
        rw [en] at hj
        rw [ei]
        have s02 := s1.trans s2
        obtain ⟨xs, hx1, hx2⟩ := lenA s02
        refine ⟨.ref a, rfl, a, xs, rfl, .inr hx1, (n : Int), by rw [hx2], by omega, by omega, for_range (lo := 0) (n := ((n : Int)).toNat)
          (fun kk σ H' => ∃ (y7 : Option V), σ = [some (.ref a), some (.ref b), some (.ref D), some (.int (i : Int)), some (.ref rp), some (.int (j : Int)), some (pV ((List.range kk).foldl (lawStep t u i j) none)), y7] ∧ H' = H2)
          ⟨y7, rfl, rfl⟩ ?_ ?_⟩
        · rintro kk σ H3 hk ⟨y7, rfl, rfl⟩
          rw [en] at hk
          rw [ei]
          obtain ⟨xa, la, ya, ha1, ha2, ha3, ha4⟩ := (hA.mono s02).ix ht hi hk
          obtain ⟨xb, lb, yb, hb1, hb2, hb3, hb4⟩ := (hB.mono s02).ix hu hk hj
          have est : (List.range (kk + 1)).foldl (lawStep t u i j) none = lawStep t u i j ((List.range kk).foldl (lawStep t u i j) none) kk := by
            rw [List.range_succ, List.foldl_append]
            rfl
          refine ⟨.ref a, rfl, .int (i : Int), rfl, a, _, i, .ref la, rfl, rfl, SqT.of ha1, ha2, .int (kk : Int), rfl, la, _, kk, _, rfl, rfl, SqT.of ha3, ha4, rfl, _, rfl, ?_⟩
          rw [est]
          generalize (List.range kk).foldl (lawStep t u i j) none = f0
          unfold lawStep
          cases ea : ent t i kk with
          | none => exact iteNn rfl ⟨_, rfl, rfl⟩
          | some x =>
            refine iteYn int_non ?_
            refine ⟨.ref b, rfl, .int (kk : Int), rfl, b, _, kk, .ref lb, rfl, rfl, SqT.of hb1, hb2, .int (j : Int), rfl, lb, _, j, _, rfl, rfl, SqT.of hb3, hb4, rfl, _, rfl, ?_⟩
            cases eb : ent u kk j with
            | none => exact iteNn rfl ⟨_, rfl, rfl⟩
            | some y =>
              refine iteYn int_non ?_
              rw [ea] at ha4
              rw [eb] at hb4
              cases f0 with
              | none =>
                refine ⟨.non, rfl, rfl, _, rfl, iteY rfl ?_⟩
                exact iteT ⟨.ref a, rfl, .int (i : Int), rfl, a, _, i, .ref la, rfl, rfl, SqT.of ha1, ha2, .int (kk : Int), rfl, la, _, kk, .int x, rfl, rfl, SqT.of ha3, ha4, .ref b, rfl, .int (kk : Int), rfl, b, _, kk, .ref lb, rfl, rfl, SqT.of hb1, hb2, .int (j : Int), rfl, lb, _, j, .int y, rfl, rfl, SqT.of hb3, hb4, x, y, rfl, rfl, _, rfl, rfl⟩
              | some l =>
                refine ⟨.int l, rfl, rfl, _, rfl, iteN int_non ?_⟩
                refine ⟨.ref a, rfl, .int (i : Int), rfl, a, _, i, .ref la, rfl, rfl, SqT.of ha1, ha2, .int (kk : Int), rfl, la, _, kk, .int x, rfl, rfl, SqT.of ha3, ha4, .ref b, rfl, .int (kk : Int), rfl, b, _, kk, .ref lb, rfl, rfl, SqT.of hb1, hb2, .int (j : Int), rfl, lb, _, j, .int y, rfl, rfl, SqT.of hb3, hb4, x, y, rfl, rfl, .int l, rfl, _, _, rfl, rfl, _, rfl, ?_⟩
                by_cases hlt : x + y < l
                · refine iteY hlt ⟨.ref a, rfl, .int (i : Int), rfl, a, _, i, .ref la, rfl, rfl, SqT.of ha1, ha2, .int (kk : Int), rfl, la, _, kk, .int x, rfl, rfl, SqT.of ha3, ha4, .ref b, rfl, .int (kk : Int), rfl, b, _, kk, .ref lb, rfl, rfl, SqT.of hb1, hb2, .int (j : Int), rfl, lb, _, j, .int y, rfl, rfl, SqT.of hb3, hb4, x, y, rfl, rfl, some (.int (kk : Int)), ?_, rfl⟩
                  show _ = [some (V.ref a), some (V.ref b), some (V.ref D), some (V.int (i : Int)), some (V.ref rp), some (V.int (j : Int)), some (pV (if x + y < l then some (x + y) else some l)), some (V.int (kk : Int))]
                  rw [if_pos hlt]
                  rfl
                · refine iteN hlt ⟨some (.int (kk : Int)), ?_, rfl⟩
                  show _ = [some (V.ref a), some (V.ref b), some (V.ref D), some (V.int (i : Int)), some (V.ref rp), some (V.int (j : Int)), some (pV (if x + y < l then some (x + y) else some l)), some (V.int (kk : Int))]
                  rw [if_neg hlt]
                  rfl
        · rintro σ H3 ⟨y7, rfl, rfl⟩
          rw [en]
          have er : (List.range (j + 1)).map (fun j => lawEnt t u n i j) = (List.range j).map (fun j => lawEnt t u n i j) ++ [lawEnt t u n i j] := by
            rw [List.range_succ, List.map_append]
            rfl
          have hlen : ((List.range j).map fun j => lawEnt t u n i j).length = j := by rw [List.length_map, List.length_range]
          refine ⟨.ref rp, rfl, _, rfl, by show 1 ≤ sizeLine; decide, fun q nq => ?_⟩
          have sq := same_new (o := HO.tup [pV ((List.range n).foldl (lawStep t u i j) none)]) nq
          refine ⟨rp, q, _, _, rfl, rfl, SqT.of (sq _ _ hrp), SqT.of upd_same, ?_, fun he => ?_, fun _ he => ?_, fun _ _ z nz => ?_⟩
          · rw [List.length_map, hlen]
            exact Nat.le_trans (show j + 1 ≤ 6 by omega) (by decide)
          · refine ⟨_, _, _, q, rfl, s2.trans sq, ?_⟩
            have e0 : (List.range j).map (fun j => lawEnt t u n i j) = [] := List.map_eq_nil_iff.mp he
            show _ = some (HO.tup (List.map pV _))
            rw [er, e0]
            exact upd_same
          · cases he
          · have sz := same_new (o := HO.tup (((List.range j).map fun j => lawEnt t u n i j).map pV ++ [pV ((List.range n).foldl (lawStep t u i j) none)])) nz
            refine ⟨_, _, _, z, rfl, (s2.trans sq).trans sz, ?_⟩
            show _ = some (HO.tup (List.map pV _))
            rw [upd_same, er, List.map_append]
            rfl
      · rintro σ H2 ⟨y5, y6, y7, rp, rfl, s2, hrp⟩
        rw [en] at hrp
        have hD2 := s2 _ _ hD1
        have hrl : ((List.range i).map fun i => (List.range n).map fun j => lawEnt t u n i j).length = i := by rw [List.length_map, List.length_range]
        refine ⟨.ref D, rfl, .inl ⟨rfl, _, SqL.of hD2⟩, .ref rp, rfl, D, _, .ref rp, rfl, rfl, hD2, ?_, _, _, _, _, _, ps ++ [rp], rfl, (s1.trans s2).put nD, ?_, ?_⟩
        · rw [List.length_map, hP1.length, hrl]
          exact small5' (by omega)
        · rw [upd_same, List.map_append]
          rfl
        · have er : (List.range (i + 1)).map (fun i => (List.range n).map fun j => lawEnt t u n i j) = (List.range i).map (fun i => (List.range n).map fun j => lawEnt t u n i j) ++ [(List.range n).map fun j => lawEnt t u n i j] := by
            rw [List.range_succ, List.map_append]
            rfl
          rw [er]
          have keep : ∀ q r, RowAt H2 q r → RowAt (upd H2 D (.lst (ps.map V.ref ++ [.ref rp]))) q r := fun q r e => by
            show upd H2 D _ q = _
            rw [upd_ne (ne_of e hD2 (by intro z; cases z))]
            exact e
          exact paired_snoc (paired_map hP1 fun q r e => keep q r (s2 _ _ e)) (keep rp _ hrp)
    · rintro σ H1 ⟨y3, y4, y5, y6, y7, ps, rfl, s1, hD1, hP1⟩
      rw [en] at hP1
      refine ⟨.ref D, rfl, D, _, rfl, .inl ⟨SqL.of hD1, fun p np => ?_⟩⟩
      exact k _ p (s1.new np) ⟨ps, upd_same, paired_map hP1 fun q r e => same_new np _ _ e⟩
end
end LT
set_option Elab.async false
set_option linter.all false
set_option maxRecDepth 100000
set_option maxHeartbeats 2000000
/-! the law's sameness -/
namespace LT
open PySem PySem.Spec PyProof.Rows L2 OwnZ OwnR OwnK LamX NdefX
def prD : Pr → PyData
  | none => .none
  | some i => .int i
def rowD (r : List Pr) : PyData := .tuple (r.map prD)
def tabD (t : List (List Pr)) : PyData := .tuple (t.map rowD)
theorem dp_pr {K : PySem.W.Frag} {H : Hp} (p : Pr) : Dp K H (pV p) (prD p) := by
  cases p with
  | none => exact .non
  | some i => exact .int i
theorem dp_row {K : PySem.W.Frag} {H : Hp} : ∀ r : List Pr, DpAll K H (r.map pV) (r.map prD)
  | [] => .nil
  | p :: r => .cons (dp_pr p) (dp_row r)
theorem dp_rows {K : PySem.W.Frag} {H : Hp} : ∀ {as : List Addr} {t : List (List Pr)}, Paired (RowAt H) as t → DpAll K H (as.map V.ref) (t.map rowD)
  | _, _, .nil => .nil
  | _, _, .cons h k => .cons (.tup (SqT.of h) (dp_row _)) (dp_rows k)
theorem TabAt.dp {K : PySem.W.Frag} {H : Hp} {a : Addr} {t : List (List Pr)} (h : TabAt H a t) : Dp K H (.ref a) (tabD t) := by
  obtain ⟨as, h1, h2⟩ := h
  exact .tup (SqT.of h1) (dp_rows h2)
theorem lay_row : ∀ r : List Pr, PyData.canLayAll0 (r.map prD) = true
  | [] => rfl
  | none :: r => by
    show (true && PyData.canLayAll0 (r.map prD)) = true
    rw [lay_row r]
    rfl
  | some i :: r => by
    show (true && PyData.canLayAll0 (r.map prD)) = true
    rw [lay_row r]
    rfl
theorem lay_rows : ∀ t : List (List Pr), PyData.canLayAll0 (t.map rowD) = true
  | [] => rfl
  | r :: t => by
    show (PyData.canLayAll0 (r.map prD) && PyData.canLayAll0 (t.map rowD)) = true
    rw [lay_row r, lay_rows t]
    rfl
theorem dep_row : ∀ r : List Pr, PyData.depthAll (r.map prD) = 0
  | [] => by simp [PyData.depthAll]
  | none :: r => by simp [PyData.depthAll, PyData.depth, prD, dep_row r]
  | some i :: r => by simp [PyData.depthAll, PyData.depth, prD, dep_row r]
theorem dep_rows : ∀ t : List (List Pr), PyData.depthAll (t.map rowD) ≤ 1
  | [] => by simp [PyData.depthAll]
  | r :: t => by
    have h1 := dep_row r
    have h2 := dep_rows t
    simp only [List.map_cons, PyData.depthAll, rowD, PyData.depth, h1]
    omega
theorem lay_tab (t : List (List Pr)) : (tabD t).canLay0 = true := by
  show PyData.canLayAll0 (t.map rowD) = true
  exact lay_rows t
theorem shaped_tab (t : List (List Pr)) : SeqAt.shaped (tabD t) = true := by
  unfold SeqAt.shaped
  rw [lay_tab, Bool.true_and]
  refine decide_eq_true ?_
  have h := dep_rows t
  show PyData.depth (.tuple (t.map rowD)) ≤ 64
  simp only [PyData.depth]
  omega
section
variable {P : Program} {w : World} {K : PySem.W.Frag} {mg : Str → Option Value} {base : Heap}
theorem kit_tt {K : PySem.W.Frag} : PySem.W.kitOne K (.type "tuple") (.type "tuple") = some true := kit_ty (by decide +kernel)
theorem kit_ii {K : PySem.W.Frag} : PySem.W.kitOne K (.type "int") (.type "int") = some true := kit_ty (by decide +kernel)
theorem kit_ib {K : PySem.W.Frag} : PySem.W.kitOne K (.type "int") (.type "bool") = some false := kit_ty (by decide +kernel)
theorem kit_ll {K : PySem.W.Frag} : PySem.W.kitOne K (.type "list") (.type "list") = some true := kit_ty (by decide +kernel)
def spSame : Sp := fun vs H Q _ => ∃ (a b : Addr) (n : Nat) (t : List (List Pr)), vs = [.ref a, .ref b] ∧ TabAt H a t ∧ TabAt H b t ∧ Sq n t ∧ n ≤ 5 ∧ Q (.bl true) H
theorem ok_same {f : Addr} {fd : FuncData} (F : Fun K "_law_same" "_law_same" sSame f fd) (mi : mg "isinstance" = none) (mt : mg "tuple" = none) (mI : mg "int" = none) (mB : mg "bool" = none) (mr : mg "range" = none) (ml : mg "len" = none) :
    FnOk P w K mg base CX0 1 f fd ["_law_found", "_law_due"] spSame := by
  refine F.ok scSame (fun vs H Q E h => ?_) (fun cdv A outer s H vs Q E hr h => ?_)
  · obtain ⟨a, b, n, t, rfl, _⟩ := h
    rfl
  · obtain ⟨a, b, n, t, rfl, hA, hB, ht, h5, k⟩ := h
    refine ⟨_, pss_cons (ps_if (PW.pt (pw_or (pt_not (pt_val (pe_callB call_isi (by rfl) mi boot_isinstance (pa_cons (pv 0) (pa_cons (pe_bltn (v := .ty "tuple") (by rfl) mt boot_tuple rfl) pa_nil)))))
          (pw_or1 (pt_cmpR op_ne (pe_callB call_len_seq (by rfl) ml PySem.boot_len (pa_cons (pv 0) pa_nil)) (pe_callB call_len_seq (by rfl) ml PySem.boot_len (pa_cons (pv 1) pa_nil)) (nomark _)))))
        (pss_one (ps_ret pe_bl)) pss_nil)
      (pss_cons (ps_for PassesOwn.never rfl (pi_range1 (by rfl) mr (pa_cons (pe_callB call_len_seq (by rfl) ml PySem.boot_len (pa_cons (pv 1) pa_nil)) pa_nil)) (pg_name (i := 2) scSame.nd rfl (Or.inl rfl))
        (pss_cons (ps_if (PW.pt (pw_or (pt_not (pt_val (pe_callB call_isi (by rfl) mi boot_isinstance (pa_cons (pe_ixT (K := K) rfl (pv 0) (pv 2)) (pa_cons (pe_bltn (v := .ty "tuple") (by rfl) mt boot_tuple rfl) pa_nil)))))
            (pw_or1 (pt_cmpR op_ne (pe_callB call_len_seq (by rfl) ml PySem.boot_len (pa_cons (pe_ixT (K := K) rfl (pv 0) (pv 2)) pa_nil)) (pe_callB call_len_seq (by rfl) ml PySem.boot_len (pa_cons (pv 1) pa_nil)) (nomark _)))))
          (pss_one (ps_ret pe_bl)) pss_nil)
        (pss_one (ps_for PassesOwn.never rfl (pi_tup (pe_ixT (K := K) rfl (pv 0) (pv 2))) (pg_name (i := 3) scSame.nd rfl (Or.inl rfl))
          (pss_one (ps_if (PW.pt (pw_and (pt_cmpR op_notN (pv 3) pe_non (nomark _)) (pw_and1 (PW.pt (pw_or (pt_not (pt_val (pe_callB call_isi (by rfl) mi boot_isinstance (pa_cons (pv 3) (pa_cons (pe_bltn (v := .ty "int") (by rfl) mI boot_int rfl) pa_nil)))))
              (pw_or1 (pt_val (pe_callB call_isi (by rfl) mi boot_isinstance (pa_cons (pv 3) (pa_cons (pe_bltn (v := .ty "bool") (by rfl) mB boot_bool rfl) pa_nil))))))))))
            (pss_one (ps_ret pe_bl)) pss_nil))))))
      (pss_one (ps_ret (pe_cmpR (op_eqD hr.units) (pv 0) (pv 1) (nomark _))))), ?_⟩
    have len : ∀ {x : Addr}, TabAt H x t → ∃ xs : List V, H x = some (.tup xs) ∧ xs.length = n := fun h => by
      obtain ⟨as, h1, h2⟩ := h
      exact ⟨_, h1, by rw [List.length_map, h2.length, ht.len]⟩
    obtain ⟨xa, ha1, ha2⟩ := len hA
    obtain ⟨xb, hb1, hb2⟩ := len hB
    have en : ((n : Int)).toNat = n := Int.toNat_natCast _
    have iteNe : ∀ {x y : Int} {A B : Prop}, x = y → B → if (!decide (V.int x = V.int y)) = true then A else B := fun e h => by
      rw [decide_eq_true (congrArg V.int e)]
      exact iteF h
    refine ⟨.ref a, rfl, .ref a, .ty "tuple", _, _, true, rfl, .ty _, .base (.tup ha1), kit_tt, true, rfl, iteF ?_⟩
    refine ⟨.ref a, rfl, a, xa, rfl, .inr (SqT.of ha1), .ref b, rfl, b, xb, rfl, .inr (SqT.of hb1), rfl, _, rfl, iteNe (by rw [ha2, hb2]) ?_⟩
    refine ⟨.ref b, rfl, b, xb, rfl, .inr (SqT.of hb1), (n : Int), by rw [hb2], by omega, by omega, for_range (lo := 0) (n := ((n : Int)).toNat)
      (fun i σ H' => H' = H ∧ ∃ (y2 y3 : Option V), σ = [some (.ref a), some (.ref b), y2, y3]) ⟨rfl, none, none, rfl⟩ ?_ ?_⟩
    · rintro i σ H' hi ⟨rfl, y2, y3, rfl⟩
      rw [en] at hi
      have ei : (0 : Int) + (i : Int) = (i : Int) := Int.zero_add _
      rw [ei]
      obtain ⟨as, hA1, hA2⟩ := id hA
      have hi' : i < t.length := by rw [ht.len]; exact hi
      obtain ⟨l, hl1, hl2⟩ := paired_at hA2 (List.getElem?_eq_getElem hi')
      have hrl : t[i].length = n := ht.row _ (List.getElem_mem hi')
      refine ⟨.ref a, rfl, .int (i : Int), rfl, a, _, i, .ref l, rfl, rfl, SqT.of hA1, atN (at_map hl1), .ref l, .ty "tuple", _, _, true, rfl, .ty _, .base (.tup hl2), kit_tt, true, rfl, iteF ?_⟩
      refine ⟨.ref a, rfl, .int (i : Int), rfl, a, _, i, .ref l, rfl, rfl, SqT.of hA1, atN (at_map hl1), l, _, rfl, .inr (SqT.of hl2), .ref b, rfl, b, xb, rfl, .inr (SqT.of hb1), rfl, _, rfl, iteNe (by rw [hb2, List.length_map, hrl]) ?_⟩
      refine ⟨.ref a, rfl, .int (i : Int), rfl, a, _, i, .ref l, rfl, rfl, SqT.of hA1, atN (at_map hl1), l, rfl, ⟨_, SqT.of hl2⟩, for_tup (K := K) (a := l) (xs := t[i].map pV)
        (fun j σ H2 => H2 = H' ∧ ∃ (y3 : Option V), σ = [some (.ref a), some (.ref b), some (.int (i : Int)), y3]) ⟨rfl, y3, rfl⟩ (fun j σ H2 _ z => by obtain ⟨rfl, _⟩ := z; exact SqT.of hl2) ?_ ?_⟩
      · rintro j x σ H2 hx ⟨rfl, y3, rfl⟩
        obtain ⟨p, hp, rfl⟩ := map_at hx
        cases p with
        | none => exact ⟨.non, rfl, rfl, _, rfl, iteNn rfl ⟨rfl, _, rfl⟩⟩
        | some z => exact ⟨.int z, rfl, rfl, _, rfl, iteYn int_non ⟨.int z, rfl, .int z, .ty "int", _, _, true, rfl, .ty _, .base (.int z), kit_ii, true, rfl, iteF ⟨.int z, rfl, .int z, .ty "bool", _, _, false, rfl, .ty _, .base (.int z), kit_ib, false, rfl, iteF ⟨rfl, _, rfl⟩⟩⟩⟩
      · rintro σ H2 ⟨rfl, y3, rfl⟩
        exact ⟨rfl, _, _, rfl⟩
    · rintro σ H' ⟨rfl, y2, y3, rfl⟩
      refine ⟨.ref a, rfl, .ref b, rfl, tabD t, tabD t, hA.dp, hB.dp, shaped_tab t, shaped_tab t, ?_⟩
      rw [PySem.SeqAt.eqv_refl _ (lay_tab t)]
      exact k
end
end LT
set_option Elab.async false
set_option linter.all false
set_option maxRecDepth 100000
set_option maxHeartbeats 2000000
/-! the law's cost of a road -/
namespace LT
open PySem PySem.Spec PyProof.Rows L2 OwnZ OwnR OwnK LamX NdefX
abbrev sCost : Stmt := topS 23
abbrev nCost : List Str := ["_law_machine_here", "_law_word_here", "_law_places", "_law_here", "_law_cost_here", "_law_k", "_law_door", "_law_room"]
theorem scCost : FnScope nCost ["_law_machine_here", "_law_word_here", "_law_places"] (defScope sCost) := ⟨rfl, rfl, rfl, by decide +kernel, rfl, by decide +kernel, by decide +kernel⟩
theorem flat_int (i : Int) : flatV (.int i) = true := rfl
section
variable {P : Program} {w : World} {K : PySem.W.Frag} {mg : Str → Option Value} {base : Heap}
def spCost : Sp := fun vs H Q _ => ∃ (m pl : Addr) (M : Mach) (wd ps : List Nat) (i j : Nat) (c : Int), vs = [.ref m, .str (wS wd), .ref pl] ∧ IsMach H m M ∧ M.Ok ∧ H pl = some (.lst (roomsV ps)) ∧ wd.length ≤ 1000 ∧ i ∈ M.bs ∧ j ∈ M.es ∧ Ch M.ds wd ps i j c ∧
  ∀ H', Same H H' → Q (.int c) H'
theorem ok_cost {f : Addr} {fd : FuncData} (F : Fun K "_law_cost" "_law_cost" sCost f fd) (mi : mg "isinstance" = none) (mL : mg "list" = none) (mI : mg "int" = none) (mB : mg "bool" = none) (mr : mg "range" = none) (ml : mg "len" = none) :
    FnOk P w K mg base CX0 1 f fd ["_law_machine_here", "_law_word_here", "_law_places"] spCost := by
  refine F.ok scCost (fun vs H Q E h => ?_) (fun cdv A outer s H vs Q E hr h => ?_)
  · obtain ⟨m, pl, M, wd, ps, i, j, c, rfl, _⟩ := h
    rfl
  · obtain ⟨m, pl, M, wd, ps, i, j, c, rfl, him, ok, hpl, hwl, hi, hj, hch, q⟩ := h
    obtain ⟨b, e, d, as, hm⟩ := id him
    refine ⟨_, pss_cons (ps_if (PW.pt (pw_or (pt_not (pt_val (pe_callB call_isi (by rfl) mi boot_isinstance (pa_cons (pv 2) (pa_cons (pe_bltn (v := .ty "list") (by rfl) mL boot_list rfl) pa_nil)))))
          (pw_or1 (pt_cmpR op_ne (pe_callB call_len_seq (by rfl) ml PySem.boot_len (pa_cons (pv 2) pa_nil)) (pe_callB call_len_str (by rfl) ml PySem.boot_len (pa_cons (pv 1) pa_nil)) (nomark _)))))
        (pss_one (ps_ret pe_non)) pss_nil)
      (pss_cons (ps_setLc (i := 3) (own := [("_law_room", 7)]) (g := gName 7) (tt := tYes) rfl scCost.nd rfl rfl (sw_true rfl rfl rfl (by decide +kernel)) (pi_tup (pe_ixT (K := K) rfl (pv 0) pe_int))
          (blkOk_by (N := nCost) (sc := defScope sCost) (by decide +kernel)) (fun _ _ _ _ _ => pg_name (i := 7) scCost.nd rfl (Or.inl rfl)) (fun _ _ _ _ _ => pts_nil) (fun _ _ _ _ _ => pv 7))
      (pss_cons (ps_set (i := 4) scCost.nd rfl (.inl rfl) pe_int)
      (pss_cons (ps_for PassesOwn.never rfl (pi_range1 (by rfl) mr (pa_cons (pe_callB call_len_str (by rfl) ml PySem.boot_len (pa_cons (pv 1) pa_nil)) pa_nil)) (pg_name (i := 5) scCost.nd rfl (Or.inl rfl))
        (pss_cons (ps_if (PW.pt (pw_or (pt_not (pt_val (pe_callB call_isi (by rfl) mi boot_isinstance (pa_cons (pe_ixL (K := K) rfl (pv 2) (pv 5)) (pa_cons (pe_bltn (v := .ty "int") (by rfl) mI boot_int rfl) pa_nil)))))
            (pw_or (pt_val (pe_callB call_isi (by rfl) mi boot_isinstance (pa_cons (pe_ixL (K := K) rfl (pv 2) (pv 5)) (pa_cons (pe_bltn (v := .ty "bool") (by rfl) mB boot_bool rfl) pa_nil))))
            (pw_or1 (pt_not (pt_chain op_le op_lt pe_int (pe_ixL (K := K) rfl (pv 2) (pv 5)) (pe_callB call_len_seq (by rfl) ml PySem.boot_len (pa_cons (pe_ixT (K := K) rfl (pv 0) pe_int) pa_nil))))))))
          (pss_one (ps_ret pe_non)) pss_nil)
        (pss_cons (ps_set (i := 6) scCost.nd rfl (.inl rfl) (pe_ixT (K := K) rfl (pe_ixT (K := K) rfl (pv 0) pe_int) (pe_ixL (K := K) rfl (pv 2) (pv 5))))
        (pss_cons (ps_if (PW.pt (pw_or (pt_notinK (K := K) rfl (pe_ixT (K := K) rfl (pv 6) pe_int) (pv 3)) (pw_or1 (pt_cmpR op_ne (pe_ixT (K := K) rfl (pv 6) pe_int) (pe_item_str (pv 1) (pv 5) (by intro _ _; rfl)) (nomark _)))))
          (pss_one (ps_ret pe_non)) pss_nil)
        (pss_cons (ps_set (i := 3) scCost.nd rfl (.inl rfl) (pe_lst (pa_cons (pe_ixT (K := K) rfl (pv 6) pe_int) pa_nil)))
        (pss_one (ps_set (i := 4) scCost.nd rfl (.inl rfl) (pe_op op_add (pv 4) (pe_ixT (K := K) rfl (pv 6) pe_int)))))))))
      (pss_cons (ps_if (pt_cmpR op_eq (pe_callB call_len_seq (by rfl) ml PySem.boot_len (pa_cons (pe_lc (own := [("_law_room", 7)]) (g := gName 7) (tt := tTest (tOp (rIn K false) (tVar 7) (tOp (rIxT K) (tVar 0) (tC (.int 3)))))
            rfl scCost.nd (pi_list (pv 3)) (blkOk_by (N := nCost) (sc := defScope sCost) (by decide +kernel)) (fun _ _ _ _ _ => pg_name (i := 7) scCost.nd rfl (Or.inl rfl))
            (fun _ _ _ _ _ => pts_one (pt_inK (K := K) rfl (pv 7) (pe_ixT (K := K) rfl (pv 0) pe_int))) (fun _ _ _ _ _ => pv 7)) pa_nil)) pe_int (nomark _))
          (pss_one (ps_ret pe_non)) pss_nil)
      (pss_one (ps_ret (pv 4))))))), ?_⟩
    have hpsl := hch.len
    have hws : (wS wd).length = wd.length := List.size_toArray (as := wd)
    have hpl' : (roomsV ps).length = wd.length := by
      unfold roomsV
      rw [List.length_map, hpsl]
    have hsz : (wS wd).length ≤ sizeLine := by
      rw [hws]
      exact Nat.le_trans hwl (by decide)
    have iteNe : ∀ {x y : Int} {A B : Prop}, x = y → B → if (!decide (V.int x = V.int y)) = true then A else B := fun e h => by
      rw [decide_eq_true (congrArg V.int e)]
      exact iteF h
    refine ⟨.ref pl, rfl, .ref pl, .ty "list", _, _, true, rfl, .ty _, .base (.lst hpl), kit_ll, true, rfl, iteF ?_⟩
    refine ⟨.ref pl, rfl, pl, _, rfl, .inl (SqL.of hpl), .str (wS wd), rfl, wS wd, rfl, hsz, rfl, _, rfl, iteNe (by rw [hpl', hws]) ?_⟩
    refine ⟨.ref m, rfl, m, _, 2, .ref b, rfl, rfl, SqT.of hm.all, atN (j := 2) rfl, b, rfl, ⟨_, SqT.of hm.bs⟩, fun D nD => lc_tup (K := K) (a := b) (xs := roomsV M.bs)
      (fun i H' => Same H H' ∧ H' D = some (.lst (roomsV (M.bs.take i)))) ⟨same_new nD, upd_same⟩ (fun i H' _ z => SqT.of (z.1 _ _ hm.bs)) ?_ ?_⟩
    · rintro i x H1 hx ⟨s1, hD⟩
      obtain ⟨r, hr', rfl⟩ := map_at hx
      refine ⟨rfl, .int r, rfl, _, hD, ?_, s1.put nD, ?_⟩
      · unfold roomsV
        rw [List.length_map, List.length_take]
        have := ok.lb
        exact small5' (by omega)
      · rw [upd_same, List.take_add_one, hr']
        unfold roomsV
        rw [List.map_append]
        rfl
    rintro H1 ⟨s1, hD⟩
    have e1 : M.bs.take (roomsV M.bs).length = M.bs := List.take_of_length_le (by unfold roomsV; rw [List.length_map]; exact Nat.le_refl _)
    rw [e1] at hD
    have ew : (((wd.length : Nat) : Int)).toNat = wd.length := Int.toNat_natCast _
    refine ⟨.str (wS wd), rfl, wS wd, rfl, hsz, ((wd.length : Nat) : Int), by rw [hws], by omega, by omega, for_range (lo := 0) (n := (((wd.length : Nat) : Int)).toNat)
      (fun k σ H' => ∃ (h : Addr) (rs : List Nat) (ik : Nat) (co ck : Int) (y5 y6 : Option V), σ = [some (.ref m), some (.str (wS wd)), some (.ref pl), some (.ref h), some (.int co), y5, y6, none] ∧ Same H H' ∧ H' h = some (.lst (roomsV rs)) ∧ rs.length ≤ 5 ∧ ik ∈ rs ∧ Ch M.ds (wd.drop k) (ps.drop k) ik j ck ∧ co + ck = c)
      ⟨D, M.bs, i, 0, c, none, none, rfl, s1, hD, ok.lb, hi, hch, Int.zero_add _⟩ ?_ ?_⟩
    · rintro k σ H2 hk ⟨h, rs, ik, co, ck, y5, y6, rfl, s2, hh, hrl, hik, hck, hco⟩
      rw [ew] at hk
      have ei : (0 : Int) + (k : Int) = (k : Int) := Int.zero_add _
      rw [ei]
      have hkp : k < ps.length := by omega
      rw [List.drop_eq_getElem_cons hk, List.drop_eq_getElem_cons hkp] at hck
      obtain ⟨dd, hdp, hsg, rfl, c', hch', rfl⟩ := hck
      generalize hp : ps[k] = p at hdp
      have hpa : (roomsV ps)[k]? = some (.int (p : Int)) := by
        unfold roomsV
        rw [List.getElem?_map, List.getElem?_eq_getElem hkp, hp]
        rfl
      have m2 := hm.mono s2
      have hpl2 := SqL.of (K := K) (s2 _ _ hpl)
      obtain ⟨xd, hxd1, hxd2⟩ := paired_at m2.dr hdp
      have hpd : p < (as.map V.ref).length := lt_of_at (at_map hxd1)
      refine ⟨.ref pl, rfl, .int (k : Int), rfl, pl, _, k, .int (p : Int), rfl, rfl, hpl2, atN hpa, .int (p : Int), .ty "int", _, _, true, rfl, .ty _, .base (.int _), kit_ii, true, rfl, iteF ?_⟩
      refine ⟨.ref pl, rfl, .int (k : Int), rfl, pl, _, k, .int (p : Int), rfl, rfl, hpl2, atN hpa, .int (p : Int), .ty "bool", _, _, false, rfl, .ty _, .base (.int _), kit_ib, false, rfl, iteF ?_⟩
      refine ⟨.ref pl, rfl, .int (k : Int), rfl, pl, _, k, .int (p : Int), rfl, rfl, hpl2, atN hpa, 0, (p : Int), rfl, rfl, _, rfl, iteY (by omega) ?_⟩
      refine ⟨.ref m, rfl, m, _, 4, .ref d, rfl, rfl, SqT.of m2.all, atN (j := 4) rfl, d, _, rfl, .inr (SqT.of m2.ds), (p : Int), ((as.map V.ref).length : Int), rfl, rfl, _, rfl, iteNn (by omega) ?_⟩
      refine ⟨.ref m, rfl, m, _, 4, .ref d, rfl, rfl, SqT.of m2.all, atN (j := 4) rfl, .ref pl, rfl, .int (k : Int), rfl, pl, _, k, .int (p : Int), rfl, rfl, hpl2, atN hpa, d, _, p, .ref xd, rfl, rfl, SqT.of m2.ds, atN (at_map hxd1), ?_⟩
      refine ⟨.ref xd, rfl, xd, _, 0, .int (dd.st : Int), rfl, rfl, SqT.of hxd2, atN (j := 0) rfl, .ref h, rfl, h, _, rfl, .inl (SqL.of hh), rfl, flat_rooms _, _, rfl, ?_⟩
      show if (!inV (.int (dd.st : Int)) (roomsV rs)) = true then _ else _
      rw [inV_rooms]
      refine iteNn hik ?_
      refine ⟨.ref xd, rfl, xd, _, 1, .str ⟨#[dd.sg]⟩, rfl, rfl, SqT.of hxd2, atN (j := 1) rfl, .str (wS wd), rfl, .int (k : Int), rfl, wS wd, (k : Int), wd[k], rfl, rfl, by omega, by omega, by rw [hws]; omega, ?_, rfl, _, rfl, ?_⟩
      · show wd.toArray[((k : Int)).toNat]? = _
        rw [Int.toNat_natCast, List.getElem?_toArray, List.getElem?_eq_getElem hk]
      rw [← hsg]
      refine iteNn rfl ?_
      refine ⟨.ref xd, rfl, xd, _, 2, .int (dd.gl : Int), rfl, rfl, SqT.of hxd2, atN (j := 2) rfl, by show 1 ≤ sizeLine; decide, fun h2 nh2 => ?_⟩
      have s3 := same_new (o := HO.lst [V.int (dd.gl : Int)]) nh2
      refine ⟨.int co, rfl, .ref xd, rfl, xd, _, 3, .int dd.co, rfl, rfl, SqT.of (s3 _ _ hxd2), atN (j := 3) rfl, co, dd.co, rfl, rfl, ?_⟩
      exact ⟨h2, [dd.gl], dd.gl, co + dd.co, c', _, _, rfl, s2.trans s3, upd_same, (by show 1 ≤ 5; decide), List.mem_singleton.mpr rfl, hch', by omega⟩
    rintro σ H2 ⟨h, rs, ik, co, ck, y5, y6, rfl, s2, hh, hrl, hik, hck, hco⟩
    rw [ew, List.drop_length, ← hpsl, List.drop_length] at hck
    obtain ⟨rfl, rfl⟩ := hck
    have hcc : co = c := by omega
    subst hcc
    refine ⟨.ref h, rfl, h, rfl, ⟨_, SqL.of hh⟩, fun D2 nD2 => lc_list (K := K) (a := h) (xs := roomsV rs)
      (fun i H' => Same H2 H' ∧ H' D2 = some (.lst (roomsV ((rs.take i).filter fun r => decide (r ∈ M.es))))) ⟨same_new nD2, upd_same⟩ (fun i H' _ z => SqL.of (z.1 _ _ hh)) ?_ ?_⟩
    · rintro i x H4 hx ⟨s4, hG⟩
      obtain ⟨r, hr', rfl⟩ := map_at hx
      have htk : rs.take (i + 1) = rs.take i ++ [r] := by
        rw [List.take_add_one, hr']
        rfl
      refine ⟨rfl, .int r, rfl, .ref m, rfl, m, _, 3, .ref e, rfl, rfl, SqT.of (s4 _ _ (s2 _ _ hm.all)), atN (j := 3) rfl, e, _, rfl, .inr (SqT.of (s4 _ _ (s2 _ _ hm.es))), rfl, flat_rooms _, _, rfl, ?_⟩
      show if inV (.int (r : Int)) (roomsV M.es) = true then _ else _
      rw [inV_rooms]
      by_cases hre : r ∈ M.es
      · refine iteY hre ⟨.int r, rfl, _, hG, ?_, s4.put nD2, ?_⟩
        · unfold roomsV
          rw [List.length_map]
          refine small5' (Nat.le_trans (List.length_filter_le _ _) ?_)
          rw [List.length_take]
          omega
        · have ef : ([r].filter fun r => decide (r ∈ M.es)) = [r] := by simp [hre]
          rw [upd_same, htk, List.filter_append, ef]
          unfold roomsV
          rw [List.map_append]
          rfl
      · refine iteN hre ⟨s4, ?_⟩
        have ef : ([r].filter fun r => decide (r ∈ M.es)) = [] := by simp [hre]
        rw [htk, List.filter_append, ef, List.append_nil]
        exact hG
    rintro H4 ⟨s4, hG⟩
    have e2 : rs.take (roomsV rs).length = rs := List.take_of_length_le (by unfold roomsV; rw [List.length_map]; exact Nat.le_refl _)
    rw [e2] at hG
    have hne : ik ∈ rs.filter fun r => decide (r ∈ M.es) := List.mem_filter.mpr ⟨hik, decide_eq_true hj⟩
    refine ⟨D2, _, rfl, .inl (SqL.of hG), rfl, _, rfl, iteN (fun z => ?_) ⟨_, rfl, q H4 (s2.trans s4)⟩⟩
    have z1 : ((roomsV (rs.filter fun r => decide (r ∈ M.es))).length : Int) = 0 := V.int.inj z
    unfold roomsV at z1
    rw [List.length_map] at z1
    have z2 : (rs.filter fun r => decide (r ∈ M.es)) = [] := List.length_eq_zero_iff.mp (by omega)
    rw [z2] at hne
    cases hne
end
end LT
set_option Elab.async false
set_option linter.all false
set_option maxRecDepth 100000
set_option maxHeartbeats 2000000
/-! the law -/
namespace LT
open PySem PySem.Spec PyProof.Rows L2 OwnZ OwnR OwnK LamX NdefX
abbrev sLaw : Stmt := topS 24
abbrev nLaw : List Str := ["_law_script", "_law_at", "_law_bag_here", "_law_machine_here", "_law_one", "_law_other", "_law_table", "_law_some", "_law_start", "_law_least", "_law_costs", "_law_found", "_law_goal"]
theorem scLaw : FnScope nLaw ["_law_script"] (defScope sLaw) := ⟨rfl, rfl, rfl, by decide +kernel, rfl, by decide +kernel, by decide +kernel⟩
theorem _root_.LamX.ExtN.seqL {K : PySem.W.Frag} {H H' : Hp} {a : Addr} {xs : List V} (e : ExtN H H') (h : SqL K H a xs) : SqL K H' a xs := by
  rcases h with (h | ⟨o, h⟩) | h
  · exact .inl (.inl (e _ _ h fun ps z => by cases z))
  · exact .inl (.inr ⟨o, e _ _ h fun ps z => by cases z⟩)
  · exact .inr h
theorem But.same {a : Addr} {G0 G1 G2 : Hp} (s : Same G0 G1) (t : But a G1 G2) (n : G0 a = none) : Same G0 G2 := fun b o h => t b o (ne_of_none h n) (s b o h)
theorem iteBang {b : Bool} {A B : Prop} (h : b = true) (x : B) : if (!b) = true then A else B := by
  subst h
  exact iteF x
/-- a def that another calls -/
structure Own (P : Program) (w : World) (K : PySem.W.Frag) (mg : Str → Option Value) (base : Heap) (k : Nat) (x : Str) (ps : List Str) (sp : Sp) (f : Addr) (fd : FuncData) : Prop where
  G : FnOk P w K mg base CX0 k f fd ps sp
  kp : PySem.W.keepIn K (.ref f) = true
  b : Binds K fd ps []
  g : mg x = some (.ref f)
theorem wS_app (u v : List Nat) : wS u ++ wS v = wS (u ++ v) := by
  show (⟨u.toArray ++ v.toArray⟩ : Str) = ⟨(u ++ v).toArray⟩
  congr 1
  simp
section
variable {P : Program} {w : World} {K : PySem.W.Frag} {mg : Str → Option Value} {base : Heap}
def spLaw (K : PySem.W.Frag) (T : List (Addr × Str)) : Sp := fun vs H Q _ => ∃ (l : Addr) (ns : List Int), vs = [.ref l] ∧ SqL K H l (ns.map V.int) ∧ Tabs T H ∧ ∀ H', Q (.bl true) H'
theorem ok_law {T : List (Addr × Str)} {f f1 f2 f3 f4 f5 f6 f7 f8 f9 fA : Addr} {fd d1 d2 d3 d4 d5 d6 d7 d8 d9 dA : FuncData} (F : Fun K "law" "law" sLaw f fd)
    (c1 : Own P w K mg base 1 "_law_bag" ["_law_script", "_law_at"] (spBag K) f1 d1) (c2 : Own P w K mg base 3 "_law_machine" ["_law_bag_here"] spMach f2 d2) (c3 : Own P w K mg base 2 "_law_word" ["_law_bag_here", "_law_letters", "_law_most"] spLWord f3 d3)
    (c4 : Own P w K mg base 4 "word_table" ["machine", "word"] spWord f4 d4) (c5 : Own P w K mg base 1 "_law_same" ["_law_found", "_law_due"] spSame f5 d5) (c6 : Own P w K mg base 1 "_law_product" ["_law_one", "_law_other"] spLProd f6 d6)
    (c7 : Own P w K mg base 2 "tolls" ["machine", "word"] spTolls f7 d7) (c8 : Own P w K mg base 3 "road" ["machine", "word"] (spRoad T) f8 d8) (c9 : Own P w K mg base 3 "price" ["machine", "word"] spPrice f9 d9) (cA : Own P w K mg base 1 "_law_cost" ["_law_machine_here", "_law_word_here", "_law_places"] spCost fA dA)
    (mr : mg "range" = none) (ml : mg "len" = none) (mm : mg "min" = none) (mi : mg "isinstance" = none) (mL : mg "list" = none) : FnOk P w K mg base CX0 5 f fd ["_law_script"] (spLaw K T) := by
  refine F.ok scLaw (fun vs H Q E h => ?_) (fun cdv A outer s H vs Q E hr h => ?_)
  · obtain ⟨l, ns, rfl, _⟩ := h
    rfl
  · obtain ⟨l, ns, rfl, hs, hT, q⟩ := h
    have r1 := hr.mono (show 1 ≤ 4 by decide)
    have r2 := hr.mono (show 2 ≤ 4 by decide)
    have r3 := hr.mono (show 3 ≤ 4 by decide)
    refine ⟨_, pss_cons (ps_for PassesOwn.never rfl (pi_range1 (by rfl) mr (pa_cons (pe_op op_add (pe_callB (call_min2 rfl) (by rfl) mm (by decide +kernel) (pa_cons (pe_callB call_len_seq (by rfl) ml PySem.boot_len (pa_cons (pv 0) pa_nil)) (pa_cons pe_int pa_nil))) pe_int) pa_nil)) (pg_name (i := 1) scLaw.nd rfl (Or.inl rfl))
        (pss_cons (ps_set (i := 2) scLaw.nd rfl (.inl rfl) (pe_call c1.G r1 (by rfl) c1.g c1.kp c1.b .nil pass0 (pa_cons (pv 0) (pa_cons (pv 1) pa_nil))))
        (pss_cons (ps_set (i := 3) scLaw.nd rfl (.inl rfl) (pe_call c2.G r3 (by rfl) c2.g c2.kp c2.b .nil pass0 (pa_cons (pv 2) pa_nil)))
        (pss_cons (ps_set (i := 4) scLaw.nd rfl (.inl rfl) (pe_call c3.G r2 (by rfl) c3.g c3.kp c3.b .nil pass0 (pa_cons (pv 2) (pa_cons (pe_ixT (K := K) rfl (pv 3) pe_int) (pa_cons pe_int pa_nil)))))
        (pss_cons (ps_set (i := 5) scLaw.nd rfl (.inl rfl) (pe_call c3.G r2 (by rfl) c3.g c3.kp c3.b .nil pass0 (pa_cons (pv 2) (pa_cons (pe_ixT (K := K) rfl (pv 3) pe_int) (pa_cons pe_int pa_nil)))))
        (pss_cons (ps_set (i := 6) scLaw.nd rfl (.inr rfl) (pe_call c4.G hr (by rfl) c4.g c4.kp c4.b .nil pass0 (pa_cons (pv 3) (pa_cons (pe_op op_add_str (pv 4) (pv 5)) pa_nil))))
        (pss_cons (ps_if (pt_not (pt_val (pe_call c5.G r1 (by rfl) c5.g c5.kp c5.b .nil pass0 (pa_cons (pv 6) (pa_cons (pe_call c6.G r1 (by rfl) c6.g c6.kp c6.b .nil pass0
            (pa_cons (pe_call c4.G hr (by rfl) c4.g c4.kp c4.b .nil pass0 (pa_cons (pv 3) (pa_cons (pv 4) pa_nil))) (pa_cons (pe_call c4.G hr (by rfl) c4.g c4.kp c4.b .nil pass0 (pa_cons (pv 3) (pa_cons (pv 5) pa_nil))) pa_nil))) pa_nil)))))
          (pss_one (ps_ret pe_bl)) pss_nil)
        (pss_cons (ps_set (i := 7) scLaw.nd rfl (.inl rfl) (pe_lst pa_nil))
        (pss_cons (ps_for PassesOwn.never rfl (pi_tup (pe_ixT (K := K) rfl (pv 3) pe_int)) (pg_name (i := 8) scLaw.nd rfl (Or.inr rfl))
          (pss_one (ps_set (i := 7) scLaw.nd rfl (.inl rfl) (pe_op op_cat (pv 7) (pe_lc (own := [("_law_goal", 12)]) (g := gName 12) (tt := tTest (tOp (fun x y H Q => y = .non ∧ Q (.bl (!decide (x = .non))) H) (tOp (rIxT K) (tOp (rIxT K) (tVar 6) (tVar 8)) (tVar 12)) (tC .non)))
              (te := tOp (rIxT K) (tOp (rIxT K) (tVar 6) (tVar 8)) (tVar 12))
              rfl scLaw.nd (pi_tup (pe_ixT (K := K) rfl (pv 3) pe_int)) (blkOk_by (N := nLaw) (sc := defScope sLaw) (by decide +kernel)) (fun _ _ _ _ _ => pg_name (i := 12) scLaw.nd rfl (Or.inl rfl))
              (fun _ _ _ _ _ => pts_one (pt_cmpR op_notN (pe_ixT (K := K) rfl (pe_ixT (K := K) rfl (pv 6) (pv 8)) (pv 12)) pe_non (nomark _)))
              (fun _ _ _ _ _ => pe_ixT (K := K) rfl (pe_ixT (K := K) rfl (pv 6) (pv 8)) (pv 12)))))))
        (pss_cons (ps_set (i := 9) scLaw.nd rfl (.inl rfl) (pe_callBK (cr_minD rfl (hu_of hr)) (by rfl) mm (by decide +kernel) (pa_cons (pv 7) pa_nil) (pk_cons pe_non pk_nil)))
        (pss_cons (ps_set (i := 10) scLaw.nd rfl (.inl rfl) (pe_call c7.G r2 (by rfl) c7.g c7.kp c7.b .nil pass0 (pa_cons (pv 3) (pa_cons (pe_op op_add_str (pv 4) (pv 5)) pa_nil))))
        (pss_cons (ps_set (i := 11) scLaw.nd rfl (.inl rfl) (pe_call c8.G r3 (by rfl) c8.g c8.kp c8.b .nil pass0 (pa_cons (pv 3) (pa_cons (pe_op op_add_str (pv 4) (pv 5)) pa_nil))))
        (pss_cons (ps_if (PW.pt (pw_or (pt_cmpR op_ne (pe_call c9.G r3 (by rfl) c9.g c9.kp c9.b .nil pass0 (pa_cons (pv 3) (pa_cons (pe_op op_add_str (pv 4) (pv 5)) pa_nil))) (pv 9) (nomark _))
            (pw_or1 (pt_not (pt_val (pe_callB call_isi (by rfl) mi boot_isinstance (pa_cons (pv 10) (pa_cons (pe_bltn (v := .ty "list") (by rfl) mL boot_list rfl) pa_nil))))))))
          (pss_one (ps_ret pe_bl)) pss_nil)
        (pss_one (ps_if (pt_cmpR op_isN (pv 9) pe_non (nomark _))
          (pss_one (ps_if (PW.pt (pw_or (pt_cmpR (op_neD hr.units) (pv 10) (pe_lst pa_nil) (nomark _)) (pw_or1 (pt_cmpR op_notN (pv 11) pe_non (nomark _))))) (pss_one (ps_ret pe_bl)) pss_nil))
          (pss_one (ps_if (PW.pt (pw_or (pt_cmpR (op_neD hr.units) (pe_slice sl_list (pv 10) po_none (po_some pe_int)) (pe_lst (pa_cons (pv 9) pa_nil)) (nomark _))
              (pw_or1 (pt_cmpR op_ne (pe_call cA.G r1 (by rfl) cA.g cA.kp cA.b .nil pass0 (pa_cons (pv 3) (pa_cons (pe_op op_add_str (pv 4) (pv 5)) (pa_cons (pv 11) pa_nil)))) (pv 9) (nomark _)))))
            (pss_one (ps_ret pe_bl)) pss_nil)))))))))))))))))
      (pss_one (ps_ret pe_bl)), ?_⟩
    have hlen : ((ns.map V.int).length : Int) = (ns.length : Int) := by rw [List.length_map]
    have hj : ∃ j : Nat, (j : Int) = (if (3 : Int) < ((ns.map V.int).length : Int) then (3 : Int) else ((ns.map V.int).length : Int)) + 1 ∧ j ≤ 4 := by
      rw [hlen]
      split
      · exact ⟨4, rfl, by omega⟩
      · exact ⟨ns.length + 1, rfl, by omega⟩
    obtain ⟨jj, ej, hj4⟩ := hj
    refine ⟨.ref l, rfl, l, _, rfl, .inl hs, _, _, rfl, _, _, rfl, rfl, (jj : Int), congrArg (fun z => [V.int z]) ej.symm, by omega, by omega, for_range (lo := 0) (n := ((jj : Int)).toNat)
      (fun _ σ H' => ∃ (y1 y2 y3 y4 y5 y6 y7 y8 y9 y10 y11 : Option V), σ = [some (.ref l), y1, y2, y3, y4, y5, y6, y7, y8, y9, y10, y11, none] ∧ ExtN H H' ∧ Tabs T H')
      ⟨none, none, none, none, none, none, none, none, none, none, none, rfl, ExtN.refl _, hT⟩ ?_ (fun σ H' _ => q H')⟩
    rintro i σ G0 hi ⟨y1, y2, y3, y4, y5, y6, y7, y8, y9, y10, y11, rfl, x0, T0⟩
    have ei : (0 : Int) + (i : Int) = (i : Int) := Int.zero_add _
    rw [ei]
    refine ⟨.ref l, rfl, .int (i : Int), rfl, l, ns, i, rfl, x0.seqL hs, by omega, fun a c0 m0 na => ?_⟩
    have s01 : Same G0 (upd G0 a (.lst [.int c0, .int m0])) := same_new na
    have bag1 : BagAt (upd G0 a (.lst [.int c0, .int m0])) a := ⟨_, _, upd_same⟩
    generalize upd G0 a (.lst [.int c0, .int m0]) = G1 at s01 bag1
    refine ⟨.ref a, rfl, a, rfl, bag1, fun G2 m M lN b2 bag2 him2 ok hl1 hl3 hl hn1 => ?_⟩
    obtain ⟨bB, eE, dD, as, hm2⟩ := id him2
    refine ⟨.ref a, rfl, .ref m, rfl, m, _, 0, .int M.l, rfl, rfl, SqT.of hm2.all, atN (j := 0) rfl, a, lN, congrArg (fun z => [V.ref a, V.int z, V.int 10]) hl, bag2, hl1, hl3, fun G3 w1 b3 bag3 hw1 => ?_⟩
    have hall3 := b3.tup bag2 hm2.all
    refine ⟨.ref a, rfl, .ref m, rfl, m, _, 0, .int M.l, rfl, rfl, SqT.of hall3, atN (j := 0) rfl, a, lN, congrArg (fun z => [V.ref a, V.int z, V.int 10]) hl, bag3, hl1, hl3, fun G4 w2 b4 bag4 hw2 => ?_⟩
    have him4 := him2.but bag2 (b3.trans b4)
    have s04 : Same G0 G4 := But.same s01 ((b2.trans b3).trans b4) na
    have T4 : Tabs T G4 := T0.ext s04
    have x4 : ExtN H G4 := x0.trans (extN_same s04)
    clear him2 hm2 hall3 bag2 bag3 b2 b3 b4 s01 bag1 bag4
    obtain ⟨bB, eE, dD, as, hm4⟩ := id him4
    have hcat : (wS w1).length + (wS w2).length ≤ sizeLine := by
      show w1.toArray.size + w2.toArray.size ≤ sizeLine
      rw [List.size_toArray, List.size_toArray]
      exact Nat.le_trans (show w1.length + w2.length ≤ 20 by omega) (by decide)
    have hvs : [V.ref m, V.str (wS w1 ++ wS w2)] = [V.ref m, V.str (wS (w1 ++ w2))] := congrArg (fun z => [V.ref m, V.str z]) (wS_app w1 w2)
    have hwl : (w1 ++ w2).length ≤ 20 := by
      rw [List.length_append]
      omega
    have sq := fun u => (wordTable_least ok.dr u).1
    refine ⟨.ref m, rfl, .str (wS w1), rfl, .str (wS w2), rfl, wS w1, wS w2, rfl, rfl, hcat, m, M, w1 ++ w2, hvs, him4, ok, fun G5 t s5 hT5 => ?_⟩
    refine ⟨.ref t, rfl, .ref m, rfl, .str (wS w1), rfl, m, M, w1, rfl, him4.mono s5, ok, fun G6 p1 s6 hp1 => ?_⟩
    refine ⟨.ref m, rfl, .str (wS w2), rfl, m, M, w2, rfl, him4.mono (s5.trans s6), ok, fun G7 p2 s7 hp2 => ?_⟩
    refine ⟨p1, p2, M.n, _, _, rfl, hp1.mono s7, hp2, sq w1, sq w2, ok.n5, fun G8 p3 s8 hp3 => ?_⟩
    rw [lawProd_eq ok.dr] at hp3
    have hT8 := hT5.mono ((s6.trans s7).trans s8)
    refine ⟨t, p3, M.n, _, rfl, hT8, hp3, sq (w1 ++ w2), ok.n5, true, rfl, iteF ?_⟩
    have s48 : Same G4 G8 := ((s5.trans s6).trans s7).trans s8
    have m8 := hm4.mono s48
    have him8 := him4.mono s48
    have T8 := T4.ext s48
    have x8 := x4.trans (extN_same s48)
    clear hp1 hp2 hp3 hT5
    generalize hW : wordTable M.n M.ds (w1 ++ w2) = W at hT8
    have sqW : Sq M.n W := hW ▸ sq (w1 ++ w2)
    refine ⟨Nat.zero_le _, fun L0 nL0 => ?_⟩
    have m9 := m8.mono (same_new (o := HO.lst []) nL0)
    refine ⟨.ref m, rfl, m, _, 2, .ref bB, rfl, rfl, SqT.of m9.all, atN (j := 2) rfl, bB, rfl, ⟨_, SqT.of m9.bs⟩, for_tup (K := K) (a := bB) (xs := roomsV M.bs)
      (fun k σ H' => ∃ (L : Addr) (y8 : Option V), σ = [some (.ref l), some (.int (i : Int)), some (.ref a), some (.ref m), some (.str (wS w1)), some (.str (wS w2)), some (.ref t), some (.ref L), y8, y9, y10, y11, none] ∧ Same G8 H' ∧ H' L = some (.lst ((allSome W (M.bs.take k) M.es).map V.int)))
      ⟨L0, y8, rfl, same_new nL0, upd_same⟩ (fun k σ H' _ z => by obtain ⟨_, _, _, z, _⟩ := z; exact SqT.of (z _ _ m8.bs)) ?_ ?_⟩
    · rintro k x σ H1 hx ⟨L, y8, rfl, s1, hL⟩
      obtain ⟨r, hr', rfl⟩ := map_at hx
      have hrn := ok.bs r (List.mem_of_getElem? hr')
      have mH := m8.mono s1
      refine ⟨.ref L, rfl, .ref m, rfl, m, _, 3, .ref eE, rfl, rfl, SqT.of mH.all, atN (j := 3) rfl, eE, rfl, ⟨_, SqT.of mH.es⟩, fun D nD => lc_tup (K := K) (a := eE) (xs := roomsV M.es)
        (fun j H' => Same H1 H' ∧ H' D = some (.lst ((rowSome W (M.es.take j) r).map V.int))) ⟨same_new nD, upd_same⟩ (fun j H' _ z => SqT.of (z.1 _ _ mH.es)) ?_ ?_⟩
      · rintro j x2 H2 hx2 ⟨s2, hD⟩
        obtain ⟨g, hg, rfl⟩ := map_at hx2
        have hgn := ok.es g (List.mem_of_getElem? hg)
        obtain ⟨xs, la, ys, h1, h2, h3, h4⟩ := (hT8.mono (s1.trans s2)).ix sqW hrn hgn
        have htk : M.es.take (j + 1) = M.es.take j ++ [g] := by
          rw [List.take_add_one, hg]
          rfl
        refine ⟨rfl, .ref t, rfl, .int (r : Int), rfl, t, _, r, .ref la, rfl, rfl, SqT.of h1, h2, .int (g : Int), rfl, la, _, g, _, rfl, rfl, SqT.of h3, h4, rfl, _, rfl, ?_⟩
        have es := rowSome_snoc W (M.es.take j) r g
        cases ec : ent W r g with
        | none =>
          rw [ec] at es
          refine iteNn rfl ⟨s2, ?_⟩
          rw [htk, es]
          show _ = some (HO.lst (List.map V.int (_ ++ [])))
          rw [List.append_nil]
          exact hD
        | some c =>
          rw [ec] at es h4
          refine iteYn int_non ⟨.ref t, rfl, .int (r : Int), rfl, t, _, r, .ref la, rfl, rfl, SqT.of h1, h2, .int (g : Int), rfl, la, _, g, _, rfl, rfl, SqT.of h3, h4, _, hD, ?_, s2.put nD, ?_⟩
          · rw [List.length_map]
            refine small5' (Nat.le_trans (rowSome_len _ _ _) ?_)
            rw [List.length_take]
            have := ok.le
            omega
          · rw [upd_same, htk, es, List.map_append]
            rfl
      · rintro H2 ⟨s2, hD⟩
        have e1 : M.es.take (roomsV M.es).length = M.es := List.take_of_length_le (by unfold roomsV; rw [List.length_map]; exact Nat.le_refl _)
        rw [e1] at hD
        refine ⟨L, D, _, _, rfl, rfl, s2 _ _ hL, hD, ?_, fun p np => ?_⟩
        · rw [List.length_map, List.length_map]
          have h1 := allSome_len W M.es (M.bs.take k)
          have h2 := rowSome_len W M.es r
          have h3 : (M.bs.take k).length ≤ 5 := by rw [List.length_take]; have := ok.lb; omega
          have h4 := ok.le
          have h5 : (M.bs.take k).length * M.es.length ≤ 5 * 5 := Nat.mul_le_mul h3 h4
          exact Nat.le_trans (show _ ≤ 30 by omega) (by decide)
        · refine ⟨p, _, rfl, (s1.trans s2).trans (same_new np), ?_⟩
          have htk : M.bs.take (k + 1) = M.bs.take k ++ [r] := by
            rw [List.take_add_one, hr']
            rfl
          rw [upd_same, htk, allSome_snoc, List.map_append]
    rintro σ H1 ⟨L, y8', rfl, s1, hL⟩
    have e1 : M.bs.take (roomsV M.bs).length = M.bs := List.take_of_length_le (by unfold roomsV; rw [List.length_map]; exact Nat.le_refl _)
    rw [e1] at hL
    have him9 := him8.mono s1
    have T9 := T8.ext s1
    have x9 := x8.trans (extN_same s1)
    have least : ∀ p, Lst p (fun c => c ∈ allSome W M.bs M.es) → Lst p (LT.Rd M.ds M.bs M.es (w1 ++ w2)) := fun p h => allSome_least ok.dr ok.bs ok.es (by rw [hW]; exact h)
    have hprice := price_least ok.dr ok.bs ok.es (w1 ++ w2)
    refine ⟨.ref L, rfl, L, _, rfl, rfl, SqL.of hL, fun h0 => ?_, fun mn h1 h2 => ?_⟩
    · have hp := least none (.no fun c z => by rw [h0] at z; cases z)
      refine ⟨.ref m, rfl, .str (wS w1), rfl, .str (wS w2), rfl, wS w1, wS w2, rfl, rfl, hcat, m, M, w1 ++ w2, hvs, him9, ok, by omega, fun G10 cs ys s10 hsort hmem hcs => ?_⟩
      refine ⟨.ref m, rfl, .str (wS w1), rfl, .str (wS w2), rfl, wS w1, wS w2, rfl, rfl, hcat, m, M, w1 ++ w2, hvs, him9.mono s10, ok, by omega, T9.ext s10, fun G11 x11 T11 hno => ?_, fun G11 pl ps c i' j' x11 T11 hL' hi' hj' hch hpl => ?_⟩
      · obtain ⟨b', e', d', as', hm10⟩ := him9.mono s10
        refine ⟨.ref m, rfl, .str (wS w1), rfl, .str (wS w2), rfl, wS w1, wS w2, rfl, rfl, hcat, m, M, w1 ++ w2, hvs, ⟨b', e', d', as', hm10.monoN x11⟩, ok, by omega, fun G12 s12 => ?_⟩
        have ep := hprice.uniq hp
        have hcs12 := s12 _ _ (extN_lst x11 hcs)
        obtain rfl : ys = [] := by
          cases ys with
          | nil => rfl
          | cons y ys => exact (hp.1 rfl y ((hmem y).mp List.mem_cons_self)).elim
        refine ⟨.non, rfl, by rw [ep]; rfl, _, rfl, iteNn (by rw [ep]; rfl) ?_⟩
        refine ⟨.ref cs, rfl, .ref cs, .ty "list", _, _, true, rfl, .ty _, .base (.lst hcs12), kit_ll, true, rfl, iteF ?_⟩
        refine ⟨.non, rfl, rfl, _, rfl, iteY rfl ?_⟩
        refine ⟨.ref cs, rfl, Nat.zero_le _, fun z nz => ?_⟩
        have sz := same_new (o := HO.lst []) nz
        refine ⟨.list [], .list [], .lst (SqL.of (sz _ _ hcs12)) .nil, .lst (SqL.of upd_same) .nil, PySem.W.ke_shaped_ints [], PySem.W.ke_shaped_ints [], _, rfl, iteBang (PySem.SeqAt.eqv_refl _ (PySem.W.ke_canLayAll0 [])) ?_⟩
        refine ⟨.non, rfl, rfl, _, rfl, iteNn rfl ?_⟩
        have s1112 := s12.trans sz
        exact ⟨_, _, _, _, _, _, _, _, _, _, _, rfl, ((x9.trans (extN_same s10)).trans x11).trans (extN_same s1112), T11.ext s1112⟩
      · exact nomatch hp.uniq hL'
    · have hp := least (some mn) (.one h1 h2)
      refine ⟨.ref m, rfl, .str (wS w1), rfl, .str (wS w2), rfl, wS w1, wS w2, rfl, rfl, hcat, m, M, w1 ++ w2, hvs, him9, ok, by omega, fun G10 cs ys s10 hsort hmem hcs => ?_⟩
      refine ⟨.ref m, rfl, .str (wS w1), rfl, .str (wS w2), rfl, wS w1, wS w2, rfl, rfl, hcat, m, M, w1 ++ w2, hvs, him9.mono s10, ok, by omega, T9.ext s10, fun G11 x11 T11 hno => ?_, fun G11 pl ps c i' j' x11 T11 hL' hi' hj' hch hpl => ?_⟩
      · exact (hno mn (hp.2 mn rfl).1).elim
      · obtain ⟨b', e', d', as', hm10⟩ := him9.mono s10
        have him11 : IsMach G11 m M := ⟨b', e', d', as', hm10.monoN x11⟩
        refine ⟨.ref m, rfl, .str (wS w1), rfl, .str (wS w2), rfl, wS w1, wS w2, rfl, rfl, hcat, m, M, w1 ++ w2, hvs, him11, ok, by omega, fun G12 s12 => ?_⟩
        have ep := hprice.uniq hp
        have hcs12 := s12 _ _ (extN_lst x11 hcs)
        have ec : c = mn := Option.some.inj (hL'.uniq hp)
        subst ec
        have eh := (head_least hsort hmem).uniq hp
        obtain ⟨ys', rfl⟩ : ∃ ys', ys = c :: ys' := by
          cases ys with
          | nil => cases eh
          | cons y ys => exact ⟨ys, by rw [Option.some.inj eh]⟩
        refine ⟨.int c, rfl, by rw [ep]; rfl, _, rfl, iteNn (by rw [ep]; rfl) ?_⟩
        refine ⟨.ref cs, rfl, .ref cs, .ty "list", _, _, true, rfl, .ty _, .base (.lst hcs12), kit_ll, true, rfl, iteF ?_⟩
        refine ⟨.int c, rfl, rfl, _, rfl, iteN int_non ?_⟩
        refine ⟨.ref cs, rfl, 1, rfl, cs, _, rfl, SqL.of hcs12, fun z nz => ?_⟩
        have ecut : cutV ((c :: ys').map V.int) none (some 1) = [V.int c] := by
          unfold cutV
          simp [HT.sIx]
        have sz := same_new (o := HO.lst (cutV ((c :: ys').map V.int) none (some 1))) nz
        have hz : (upd G12 z (.lst (cutV ((c :: ys').map V.int) none (some 1)))) z = some (.lst [V.int c]) := by rw [upd_same, ecut]
        refine ⟨.int c, rfl, by show 1 ≤ sizeLine; decide, fun z2 nz2 => ?_⟩
        have sz2 := same_new (o := HO.lst [V.int c]) nz2
        refine ⟨.list [.int c], .list [.int c], .lst (SqL.of (sz2 _ _ hz)) (.cons (.int c) .nil), .lst (SqL.of upd_same) (.cons (.int c) .nil), PySem.W.ke_shaped_ints [c], PySem.W.ke_shaped_ints [c], _, rfl, iteBang (PySem.SeqAt.eqv_refl _ (PySem.W.ke_canLayAll0 [c])) ?_⟩
        have s1 := (s12.trans sz).trans sz2
        refine ⟨.ref m, rfl, .str (wS w1), rfl, .str (wS w2), rfl, wS w1, wS w2, rfl, rfl, hcat, .ref pl, rfl, m, pl, M, w1 ++ w2, ps, i', j', c, congrArg (fun z => [V.ref m, V.str z, V.ref pl]) (wS_app w1 w2), him11.mono s1, ok, s1 _ _ hpl, by omega, hi', hj', hch, fun G14 s14 => ?_⟩
        refine ⟨.int c, rfl, rfl, _, rfl, iteNn rfl ?_⟩
        have s2 := s1.trans s14
        exact ⟨_, _, _, _, _, _, _, _, _, _, _, rfl, ((x9.trans (extN_same s10)).trans x11).trans (extN_same s2), T11.ext s2⟩
end
end LT
set_option Elab.async false
set_option linter.all false
set_option maxRecDepth 100000
set_option maxHeartbeats 2000000
namespace LT
open PySem PySem.Spec PyProof.Rows L2 OwnZ OwnR OwnK LamX NdefX
/-! ### what the top has left -/
theorem all_mk {l : PySem.W.OpenLaw} {w : World} {K : PySem.W.Frag} {h : Heap} {mg : Str → Option Value} {fa PT cc : Addr} (X : K.In h) (G : h.Ns mainGlobals mg) (hfa : mg "law" = some (.ref fa))
    (hT : h.get? PT = some { cls := .none, data := .fields #[] }) (nT : K.lookup PT = none) (hC : PySem.W.codeHdIn K cc PT = true)
    {f1 : Addr} {od1 an1 : Option Addr} {sl1 : Array (Option Value)} {oc1 kV1 dc1 pm1 ct1 cd1 : Value}
    (a1 : PySem.W.nsIn K mainGlobals "plain" = some (some (.ref f1))) (l1 : K.lookup f1 = some ⟨oc1, od1, .func (PySem.W.fnOf "plain" "plain" (defArgs (topS 1)) (defBody (topS 1)) (defScope (topS 1)) .none kV1 dc1 pm1 an1 (cd1) ct1), sl1⟩) (c1 : PySem.W.codeIn K (cd1) "plain" = true) (k1 : PySem.W.keepIn K (.ref f1) = true)
    {f2 : Addr} {od2 an2 : Option Addr} {sl2 : Array (Option Value)} {oc2 kV2 dc2 pm2 ct2 cd2 : Value}
    (a2 : PySem.W.nsIn K mainGlobals "lesser" = some (some (.ref f2))) (l2 : K.lookup f2 = some ⟨oc2, od2, .func (PySem.W.fnOf "lesser" "lesser" (defArgs (topS 2)) (defBody (topS 2)) (defScope (topS 2)) .none kV2 dc2 pm2 an2 (cd2) ct2), sl2⟩) (c2 : PySem.W.codeIn K (cd2) "lesser" = true) (k2 : PySem.W.keepIn K (.ref f2) = true)
    {f3 : Addr} {od3 an3 : Option Addr} {sl3 : Array (Option Value)} {oc3 kV3 dc3 pm3 ct3 cd3 : Value}
    (a3 : PySem.W.nsIn K mainGlobals "both" = some (some (.ref f3))) (l3 : K.lookup f3 = some ⟨oc3, od3, .func (PySem.W.fnOf "both" "both" (defArgs (topS 3)) (defBody (topS 3)) (defScope (topS 3)) .none kV3 dc3 pm3 an3 (cd3) ct3), sl3⟩) (c3 : PySem.W.codeIn K (cd3) "both" = true) (k3 : PySem.W.keepIn K (.ref f3) = true)
    {f4 : Addr} {od4 an4 : Option Addr} {sl4 : Array (Option Value)} {oc4 kV4 dc4 pm4 ct4 cd4 : Value}
    (a4 : PySem.W.nsIn K mainGlobals "row_by" = some (some (.ref f4))) (l4 : K.lookup f4 = some ⟨oc4, od4, .func (PySem.W.fnOf "row_by" "row_by" (defArgs (topS 4)) (defBody (topS 4)) (defScope (topS 4)) .none kV4 dc4 pm4 an4 (cd4) ct4), sl4⟩) (c4 : PySem.W.codeIn K (cd4) "row_by" = true) (k4 : PySem.W.keepIn K (.ref f4) = true)
    {f5 : Addr} {od5 an5 : Option Addr} {sl5 : Array (Option Value)} {oc5 kV5 dc5 pm5 ct5 cd5 : Value}
    (a5 : PySem.W.nsIn K mainGlobals "product" = some (some (.ref f5))) (l5 : K.lookup f5 = some ⟨oc5, od5, .func (PySem.W.fnOf "product" "product" (defArgs (topS 5)) (defBody (topS 5)) (defScope (topS 5)) .none kV5 dc5 pm5 an5 (cd5) ct5), sl5⟩) (c5 : PySem.W.codeIn K (cd5) "product" = true) (k5 : PySem.W.keepIn K (.ref f5) = true)
    {f6 : Addr} {od6 an6 : Option Addr} {sl6 : Array (Option Value)} {oc6 kV6 dc6 pm6 ct6 cd6 : Value}
    (a6 : PySem.W.nsIn K mainGlobals "letter_table" = some (some (.ref f6))) (l6 : K.lookup f6 = some ⟨oc6, od6, .func (PySem.W.fnOf "letter_table" "letter_table" (defArgs (topS 6)) (defBody (topS 6)) (defScope (topS 6)) .none kV6 dc6 pm6 an6 (cd6) ct6), sl6⟩) (c6 : PySem.W.codeIn K (cd6) "letter_table" = true) (k6 : PySem.W.keepIn K (.ref f6) = true)
    {f7 : Addr} {od7 an7 : Option Addr} {sl7 : Array (Option Value)} {oc7 kV7 dc7 pm7 ct7 cd7 : Value}
    (a7 : PySem.W.nsIn K mainGlobals "word_table" = some (some (.ref f7))) (l7 : K.lookup f7 = some ⟨oc7, od7, .func (PySem.W.fnOf "word_table" "word_table" (defArgs (topS 7)) (defBody (topS 7)) (defScope (topS 7)) .none kV7 dc7 pm7 an7 (cd7) ct7), sl7⟩) (c7 : PySem.W.codeIn K (cd7) "word_table" = true) (k7 : PySem.W.keepIn K (.ref f7) = true)
    {f8 : Addr} {od8 an8 : Option Addr} {sl8 : Array (Option Value)} {oc8 kV8 dc8 pm8 ct8 cd8 : Value}
    (a8 : PySem.W.nsIn K mainGlobals "least_at" = some (some (.ref f8))) (l8 : K.lookup f8 = some ⟨oc8, od8, .func (PySem.W.fnOf "least_at" "least_at" (defArgs (topS 8)) (defBody (topS 8)) (defScope (topS 8)) .none kV8 dc8 pm8 an8 (cd8) ct8), sl8⟩) (c8 : PySem.W.codeIn K (cd8) "least_at" = true) (k8 : PySem.W.keepIn K (.ref f8) = true)
    {f9 : Addr} {od9 an9 : Option Addr} {sl9 : Array (Option Value)} {oc9 kV9 dc9 pm9 ct9 cd9 : Value}
    (a9 : PySem.W.nsIn K mainGlobals "price" = some (some (.ref f9))) (l9 : K.lookup f9 = some ⟨oc9, od9, .func (PySem.W.fnOf "price" "price" (defArgs (topS 9)) (defBody (topS 9)) (defScope (topS 9)) .none kV9 dc9 pm9 an9 (cd9) ct9), sl9⟩) (c9 : PySem.W.codeIn K (cd9) "price" = true) (k9 : PySem.W.keepIn K (.ref f9) = true)
    {f11 : Addr} {od11 an11 : Option Addr} {sl11 : Array (Option Value)} {oc11 kV11 dc11 pm11 ct11 cd11 : Value}
    (a11 : PySem.W.nsIn K mainGlobals "tolls_on" = some (some (.ref f11))) (l11 : K.lookup f11 = some ⟨oc11, od11, .func (PySem.W.fnOf "tolls_on" "tolls_on" (defArgs (topS 11)) (defBody (topS 11)) (defScope (topS 11)) .none kV11 dc11 pm11 an11 (cd11) ct11), sl11⟩) (c11 : PySem.W.codeIn K (cd11) "tolls_on" = true) (k11 : PySem.W.keepIn K (.ref f11) = true)
    {f12 : Addr} {od12 an12 : Option Addr} {sl12 : Array (Option Value)} {oc12 kV12 dc12 pm12 ct12 cd12 : Value}
    (a12 : PySem.W.nsIn K mainGlobals "tolls" = some (some (.ref f12))) (l12 : K.lookup f12 = some ⟨oc12, od12, .func (PySem.W.fnOf "tolls" "tolls" (defArgs (topS 12)) (defBody (topS 12)) (defScope (topS 12)) .none kV12 dc12 pm12 an12 (cd12) ct12), sl12⟩) (c12 : PySem.W.codeIn K (cd12) "tolls" = true) (k12 : PySem.W.keepIn K (.ref f12) = true)
    {f13 : Addr} {od13 an13 : Option Addr} {sl13 : Array (Option Value)} {oc13 kV13 dc13 pm13 ct13 cd13 : Value}
    (a13 : PySem.W.nsIn K mainGlobals "steps_on" = some (some (.ref f13))) (l13 : K.lookup f13 = some ⟨oc13, od13, .func (PySem.W.fnOf "steps_on" "steps_on" (defArgs (topS 13)) (defBody (topS 13)) (defScope (topS 13)) .none kV13 dc13 pm13 an13 (cd13) ct13), sl13⟩) (c13 : PySem.W.codeIn K (cd13) "steps_on" = true) (k13 : PySem.W.keepIn K (.ref f13) = true)
    {f14 : Addr} {od14 an14 : Option Addr} {sl14 : Array (Option Value)} {oc14 kV14 dc14 pm14 ct14 : Value}
    (a14 : PySem.W.nsIn K mainGlobals "road" = some (some (.ref f14))) (l14 : K.lookup f14 = some ⟨oc14, od14, .func (PySem.W.fnOf "road" "road" (defArgs (topS 14)) (defBody (topS 14)) (defScope (topS 14)) .none kV14 dc14 pm14 an14 (.ref cc) ct14), sl14⟩) (c14 : PySem.W.codeIn K (.ref cc) "road" = true) (k14 : PySem.W.keepIn K (.ref f14) = true)
    {f16 : Addr} {od16 an16 : Option Addr} {sl16 : Array (Option Value)} {oc16 kV16 dc16 pm16 ct16 cd16 : Value}
    (a16 : PySem.W.nsIn K mainGlobals "_law_bag" = some (some (.ref f16))) (l16 : K.lookup f16 = some ⟨oc16, od16, .func (PySem.W.fnOf "_law_bag" "_law_bag" (defArgs (topS 16)) (defBody (topS 16)) (defScope (topS 16)) .none kV16 dc16 pm16 an16 (cd16) ct16), sl16⟩) (c16 : PySem.W.codeIn K (cd16) "_law_bag" = true) (k16 : PySem.W.keepIn K (.ref f16) = true)
    {f17 : Addr} {od17 an17 : Option Addr} {sl17 : Array (Option Value)} {oc17 kV17 dc17 pm17 ct17 cd17 : Value}
    (a17 : PySem.W.nsIn K mainGlobals "_law_take" = some (some (.ref f17))) (l17 : K.lookup f17 = some ⟨oc17, od17, .func (PySem.W.fnOf "_law_take" "_law_take" (defArgs (topS 17)) (defBody (topS 17)) (defScope (topS 17)) .none kV17 dc17 pm17 an17 (cd17) ct17), sl17⟩) (c17 : PySem.W.codeIn K (cd17) "_law_take" = true) (k17 : PySem.W.keepIn K (.ref f17) = true)
    {f18 : Addr} {od18 an18 : Option Addr} {sl18 : Array (Option Value)} {oc18 kV18 dc18 pm18 ct18 cd18 : Value}
    (a18 : PySem.W.nsIn K mainGlobals "_law_rooms" = some (some (.ref f18))) (l18 : K.lookup f18 = some ⟨oc18, od18, .func (PySem.W.fnOf "_law_rooms" "_law_rooms" (defArgs (topS 18)) (defBody (topS 18)) (defScope (topS 18)) .none kV18 dc18 pm18 an18 (cd18) ct18), sl18⟩) (c18 : PySem.W.codeIn K (cd18) "_law_rooms" = true) (k18 : PySem.W.keepIn K (.ref f18) = true)
    {f19 : Addr} {od19 an19 : Option Addr} {sl19 : Array (Option Value)} {oc19 kV19 dc19 pm19 ct19 cd19 : Value}
    (a19 : PySem.W.nsIn K mainGlobals "_law_machine" = some (some (.ref f19))) (l19 : K.lookup f19 = some ⟨oc19, od19, .func (PySem.W.fnOf "_law_machine" "_law_machine" (defArgs (topS 19)) (defBody (topS 19)) (defScope (topS 19)) .none kV19 dc19 pm19 an19 (cd19) ct19), sl19⟩) (c19 : PySem.W.codeIn K (cd19) "_law_machine" = true) (k19 : PySem.W.keepIn K (.ref f19) = true)
    {f20 : Addr} {od20 an20 : Option Addr} {sl20 : Array (Option Value)} {oc20 kV20 dc20 pm20 ct20 cd20 : Value}
    (a20 : PySem.W.nsIn K mainGlobals "_law_word" = some (some (.ref f20))) (l20 : K.lookup f20 = some ⟨oc20, od20, .func (PySem.W.fnOf "_law_word" "_law_word" (defArgs (topS 20)) (defBody (topS 20)) (defScope (topS 20)) .none kV20 dc20 pm20 an20 (cd20) ct20), sl20⟩) (c20 : PySem.W.codeIn K (cd20) "_law_word" = true) (k20 : PySem.W.keepIn K (.ref f20) = true)
    {f21 : Addr} {od21 an21 : Option Addr} {sl21 : Array (Option Value)} {oc21 kV21 dc21 pm21 ct21 cd21 : Value}
    (a21 : PySem.W.nsIn K mainGlobals "_law_product" = some (some (.ref f21))) (l21 : K.lookup f21 = some ⟨oc21, od21, .func (PySem.W.fnOf "_law_product" "_law_product" (defArgs (topS 21)) (defBody (topS 21)) (defScope (topS 21)) .none kV21 dc21 pm21 an21 (cd21) ct21), sl21⟩) (c21 : PySem.W.codeIn K (cd21) "_law_product" = true) (k21 : PySem.W.keepIn K (.ref f21) = true)
    {f22 : Addr} {od22 an22 : Option Addr} {sl22 : Array (Option Value)} {oc22 kV22 dc22 pm22 ct22 cd22 : Value}
    (a22 : PySem.W.nsIn K mainGlobals "_law_same" = some (some (.ref f22))) (l22 : K.lookup f22 = some ⟨oc22, od22, .func (PySem.W.fnOf "_law_same" "_law_same" (defArgs (topS 22)) (defBody (topS 22)) (defScope (topS 22)) .none kV22 dc22 pm22 an22 (cd22) ct22), sl22⟩) (c22 : PySem.W.codeIn K (cd22) "_law_same" = true) (k22 : PySem.W.keepIn K (.ref f22) = true)
    {f23 : Addr} {od23 an23 : Option Addr} {sl23 : Array (Option Value)} {oc23 kV23 dc23 pm23 ct23 cd23 : Value}
    (a23 : PySem.W.nsIn K mainGlobals "_law_cost" = some (some (.ref f23))) (l23 : K.lookup f23 = some ⟨oc23, od23, .func (PySem.W.fnOf "_law_cost" "_law_cost" (defArgs (topS 23)) (defBody (topS 23)) (defScope (topS 23)) .none kV23 dc23 pm23 an23 (cd23) ct23), sl23⟩) (c23 : PySem.W.codeIn K (cd23) "_law_cost" = true) (k23 : PySem.W.keepIn K (.ref f23) = true)
    {f24 : Addr} {od24 an24 : Option Addr} {sl24 : Array (Option Value)} {oc24 kV24 dc24 pm24 ct24 cd24 : Value}
    (a24 : PySem.W.nsIn K mainGlobals "law" = some (some (.ref f24))) (l24 : K.lookup f24 = some ⟨oc24, od24, .func (PySem.W.fnOf "law" "law" (defArgs (topS 24)) (defBody (topS 24)) (defScope (topS 24)) .none kV24 dc24 pm24 an24 (cd24) ct24), sl24⟩) (c24 : PySem.W.codeIn K (cd24) "law" = true) (k24 : PySem.W.keepIn K (.ref f24) = true)
    (z_len : PySem.W.nsIn K mainGlobals "len" = some none)
    (z_range : PySem.W.nsIn K mainGlobals "range" = some none)
    (z_zip : PySem.W.nsIn K mainGlobals "zip" = some none)
    (z_tuple : PySem.W.nsIn K mainGlobals "tuple" = some none)
    (z_sorted : PySem.W.nsIn K mainGlobals "sorted" = some none)
    (z_enumerate : PySem.W.nsIn K mainGlobals "enumerate" = some none)
    (z_min : PySem.W.nsIn K mainGlobals "min" = some none)
    (z_abs : PySem.W.nsIn K mainGlobals "abs" = some none)
    (z_isinstance : PySem.W.nsIn K mainGlobals "isinstance" = some none)
    (z_int : PySem.W.nsIn K mainGlobals "int" = some none)
    (z_bool : PySem.W.nsIn K mainGlobals "bool" = some none)
    (z_list : PySem.W.nsIn K mainGlobals "list" = some none)
    : LawAtS l w K CX0 5 63 "_law_script" mg fa h := by
  have e := hfa.symm.trans (PySem.W.mg_of X G a24)
  cases e
  have F1 := fun_mk (st := topS 1) l1 c1 k1
  have b1 := F1.binds (ps := ["n"]) fun _ _ _ _ _ _ us hl => match us, hl with | [_], _ => rfl
  have g1 := PySem.W.mg_of X G a1
  have F2 := fun_mk (st := topS 2) l2 c2 k2
  have b2 := F2.binds (ps := ["one", "other"]) fun _ _ _ _ _ _ us hl => match us, hl with | [_, _], _ => rfl
  have g2 := PySem.W.mg_of X G a2
  have F3 := fun_mk (st := topS 3) l3 c3 k3
  have b3 := F3.binds (ps := ["one", "other"]) fun _ _ _ _ _ _ us hl => match us, hl with | [_, _], _ => rfl
  have g3 := PySem.W.mg_of X G a3
  have F4 := fun_mk (st := topS 4) l4 c4 k4
  have b4 := F4.binds (ps := ["row", "table"]) fun _ _ _ _ _ _ us hl => match us, hl with | [_, _], _ => rfl
  have g4 := PySem.W.mg_of X G a4
  have F5 := fun_mk (st := topS 5) l5 c5 k5
  have b5 := F5.binds (ps := ["one", "other"]) fun _ _ _ _ _ _ us hl => match us, hl with | [_, _], _ => rfl
  have g5 := PySem.W.mg_of X G a5
  have F6 := fun_mk (st := topS 6) l6 c6 k6
  have b6 := F6.binds (ps := ["machine", "letter"]) fun _ _ _ _ _ _ us hl => match us, hl with | [_, _], _ => rfl
  have g6 := PySem.W.mg_of X G a6
  have F7 := fun_mk (st := topS 7) l7 c7 k7
  have b7 := F7.binds (ps := ["machine", "word"]) fun _ _ _ _ _ _ us hl => match us, hl with | [_, _], _ => rfl
  have g7 := PySem.W.mg_of X G a7
  have F8 := fun_mk (st := topS 8) l8 c8 k8
  have b8 := F8.binds (ps := ["row", "rooms"]) fun _ _ _ _ _ _ us hl => match us, hl with | [_, _], _ => rfl
  have g8 := PySem.W.mg_of X G a8
  have F9 := fun_mk (st := topS 9) l9 c9 k9
  have b9 := F9.binds (ps := ["machine", "word"]) fun _ _ _ _ _ _ us hl => match us, hl with | [_, _], _ => rfl
  have g9 := PySem.W.mg_of X G a9
  have F11 := fun_mk (st := topS 11) l11 c11 k11
  have b11 := F11.binds (ps := ["machine", "letter", "here"]) fun _ _ _ _ _ _ us hl => match us, hl with | [_, _, _], _ => rfl
  have g11 := PySem.W.mg_of X G a11
  have F12 := fun_mk (st := topS 12) l12 c12 k12
  have b12 := F12.binds (ps := ["machine", "word"]) fun _ _ _ _ _ _ us hl => match us, hl with | [_, _], _ => rfl
  have g12 := PySem.W.mg_of X G a12
  have F13 := fun_mk (st := topS 13) l13 c13 k13
  have b13 := F13.binds (ps := ["machine", "letter", "here"]) fun _ _ _ _ _ _ us hl => match us, hl with | [_, _, _], _ => rfl
  have g13 := PySem.W.mg_of X G a13
  have F14 := fun_mk (st := topS 14) l14 c14 k14
  have b14 := F14.binds (ps := ["machine", "word"]) fun _ _ _ _ _ _ us hl => match us, hl with | [_, _], _ => rfl
  have g14 := PySem.W.mg_of X G a14
  have F16 := fun_mk (st := topS 16) l16 c16 k16
  have b16 := F16.binds (ps := ["_law_script", "_law_at"]) fun _ _ _ _ _ _ us hl => match us, hl with | [_, _], _ => rfl
  have g16 := PySem.W.mg_of X G a16
  have F17 := fun_mk (st := topS 17) l17 c17 k17
  have b17 := F17.binds (ps := ["_law_bag_here", "_law_many"]) fun _ _ _ _ _ _ us hl => match us, hl with | [_, _], _ => rfl
  have g17 := PySem.W.mg_of X G a17
  have F18 := fun_mk (st := topS 18) l18 c18 k18
  have b18 := F18.binds (ps := ["_law_bag_here", "_law_many"]) fun _ _ _ _ _ _ us hl => match us, hl with | [_, _], _ => rfl
  have g18 := PySem.W.mg_of X G a18
  have F19 := fun_mk (st := topS 19) l19 c19 k19
  have b19 := F19.binds (ps := ["_law_bag_here"]) fun _ _ _ _ _ _ us hl => match us, hl with | [_], _ => rfl
  have g19 := PySem.W.mg_of X G a19
  have F20 := fun_mk (st := topS 20) l20 c20 k20
  have b20 := F20.binds (ps := ["_law_bag_here", "_law_letters", "_law_most"]) fun _ _ _ _ _ _ us hl => match us, hl with | [_, _, _], _ => rfl
  have g20 := PySem.W.mg_of X G a20
  have F21 := fun_mk (st := topS 21) l21 c21 k21
  have b21 := F21.binds (ps := ["_law_one", "_law_other"]) fun _ _ _ _ _ _ us hl => match us, hl with | [_, _], _ => rfl
  have g21 := PySem.W.mg_of X G a21
  have F22 := fun_mk (st := topS 22) l22 c22 k22
  have b22 := F22.binds (ps := ["_law_found", "_law_due"]) fun _ _ _ _ _ _ us hl => match us, hl with | [_, _], _ => rfl
  have g22 := PySem.W.mg_of X G a22
  have F23 := fun_mk (st := topS 23) l23 c23 k23
  have b23 := F23.binds (ps := ["_law_machine_here", "_law_word_here", "_law_places"]) fun _ _ _ _ _ _ us hl => match us, hl with | [_, _, _], _ => rfl
  have g23 := PySem.W.mg_of X G a23
  have F24 := fun_mk (st := topS 24) l24 c24 k24
  have b24 := F24.binds (ps := ["_law_script"]) fun _ _ _ _ _ _ us hl => match us, hl with | [_], _ => rfl
  have g24 := PySem.W.mg_of X G a24
  have m_len := PySem.W.mg_none_of X G z_len
  have m_range := PySem.W.mg_none_of X G z_range
  have m_zip := PySem.W.mg_none_of X G z_zip
  have m_tuple := PySem.W.mg_none_of X G z_tuple
  have m_sorted := PySem.W.mg_none_of X G z_sorted
  have m_enumerate := PySem.W.mg_none_of X G z_enumerate
  have m_min := PySem.W.mg_none_of X G z_min
  have m_abs := PySem.W.mg_none_of X G z_abs
  have m_isinstance := PySem.W.mg_none_of X G z_isinstance
  have m_int := PySem.W.mg_none_of X G z_int
  have m_bool := PySem.W.mg_none_of X G z_bool
  have m_list := PySem.W.mg_none_of X G z_list
  refine ⟨PySem.W.fnOf "law" "law" (defArgs (topS 24)) (defBody (topS 24)) (defScope (topS 24)) .none kV24 dc24 pm24 an24 cd24 ct24, [(cc, PT)], spLaw K [(PT, lamName)], fun p hp => ?_, fun p hp => ?_, fun p hp => ?_, fun s v => .of_eq rfl, fun H a ns _ _ ht hS => ⟨a, ns, rfl, hS, fun p hp => ?_, fun _ => rfl⟩, fun base _ _ TB => ?_⟩
  · rw [List.mem_singleton.mp hp]
    exact hT
  · rw [List.mem_singleton.mp hp]
    exact nT
  · rw [List.mem_singleton.mp hp]
    exact PySem.W.codeHd_of_K X hC
  · rw [List.mem_singleton.mp hp]
    exact TabS.nil (ht (cc, PT) (List.mem_singleton.mpr rfl))
  · have GR := ok_rowBy (P := l.prog) (w := w) (base := base) F4 F2 b2 g2 F3 b3 g3 m_zip m_tuple
    have GX := ok_product F5 GR k4 b4 g4 m_tuple
    have GP := ok_plain (P := l.prog) (w := w) (base := base) F1 m_tuple m_range
    have GT := ok_letter (P := l.prog) (w := w) (base := base) F6 F2 b2 g2 m_range m_tuple
    have GW := ok_word F7 GP k1 b1 g1 GX k5 b5 g5 GT k6 b6 g6
    have GA := ok_least (P := l.prog) (w := w) (base := base) F8 F2 b2 g2
    have GC := ok_price F9 GR k4 b4 g4 GT k6 b6 g6 GA k8 b8 g8 m_range m_tuple
    have GO := ok_tollsOn (P := l.prog) (w := w) (mg := mg) (base := base) F11
    have GL := ok_tolls F12 GO k11 b11 g11 m_range m_sorted
    have GS := ok_steps (P := l.prog) (w := w) (base := base) F13 m_enumerate
    have GD := ok_road F14 rfl (TB (cc, PT) (List.mem_singleton.mpr rfl)) GS k13 b13 g13 m_range m_len m_min
    have GB := ok_bag (P := l.prog) (w := w) (base := base) F16 m_len m_abs m_min m_range
    have GK := ok_take (P := l.prog) (w := w) (mg := mg) (base := base) F17
    have GM := ok_rooms F18 GK k17 b17 g17 m_tuple m_range
    have GN := ok_mach F19 GK k17 b17 g17 GM k18 b18 g18 m_tuple m_range
    have GV := ok_lword F20 GK k17 b17 g17 m_range
    have GQ := ok_lprod (P := l.prog) (w := w) (base := base) F21 m_tuple m_range m_len
    have GU := ok_same (P := l.prog) (w := w) (base := base) F22 m_isinstance m_tuple m_int m_bool m_range m_len
    have GE := ok_cost (P := l.prog) (w := w) (base := base) F23 m_isinstance m_list m_int m_bool m_range m_len
    exact ok_law F24 ⟨GB, k16, b16, g16⟩ ⟨GN, k19, b19, g19⟩ ⟨GV, k20, b20, g20⟩ ⟨GW, k7, b7, g7⟩ ⟨GU, k22, b22, g22⟩ ⟨GQ, k21, b21, g21⟩ ⟨GL, k12, b12, g12⟩ ⟨GD, k14, b14, g14⟩ ⟨GC, k9, b9, g9⟩ ⟨GE, k23, b23, g23⟩ m_range m_len m_min m_isinstance m_list
end LT
open PySem PySem.W PyProof.Rows
set_option Elab.async false
set_option maxRecDepth 100000
set_option maxHeartbeats 0 in
theorem PySem.Challenge.cw_leasttolls_k12_whole_least_tolls_holds : PySem.Challenge.rw_leasttolls_k12_whole_least_tolls.Holds := by
  w_on; o_law; k_head; (case hw => w_witness2)
  k_fill
  refine LamX.walk_ofTs (l := PySem.Challenge.rw_leasttolls_k12_whole_least_tolls) (n := 63) (k := 5) (x := "_law_script") (CX := fun _ => L2.CX0) rfl (by decide) rfl ⟨rfl, by decide, by decide⟩ (fun w h Y => PySem.W.km_in_of Y) ?F (fun _ _ _ _ _ h => h)
  case F =>
    intro w mg fa h Y KX G hmg
    refine' LT.all_mk KX G hmg (PySem.W.km_tabs_of Y 84 (List.mem_singleton.mpr rfl)) ?nT ?hC ?a1 ?l1 ?c1 ?k1 ?a2 ?l2 ?c2 ?k2 ?a3 ?l3 ?c3 ?k3 ?a4 ?l4 ?c4 ?k4 ?a5 ?l5 ?c5 ?k5 ?a6 ?l6 ?c6 ?k6 ?a7 ?l7 ?c7 ?k7 ?a8 ?l8 ?c8 ?k8 ?a9 ?l9 ?c9 ?k9 ?a11 ?l11 ?c11 ?k11 ?a12 ?l12 ?c12 ?k12 ?a13 ?l13 ?c13 ?k13 ?a14 ?l14 ?c14 ?k14 ?a16 ?l16 ?c16 ?k16 ?a17 ?l17 ?c17 ?k17 ?a18 ?l18 ?c18 ?k18 ?a19 ?l19 ?c19 ?k19 ?a20 ?l20 ?c20 ?k20 ?a21 ?l21 ?c21 ?k21 ?a22 ?l22 ?c22 ?k22 ?a23 ?l23 ?c23 ?k23 ?a24 ?l24 ?c24 ?k24 ?z_len ?z_range ?z_zip ?z_tuple ?z_sorted ?z_enumerate ?z_min ?z_abs ?z_isinstance ?z_int ?z_bool ?z_list
    (case a1 => k_is); (case l1 => k_is); (case c1 => k_is); (case k1 => k_is); (case a2 => k_is); (case l2 => k_is); (case c2 => k_is); (case k2 => k_is); (case a3 => k_is); (case l3 => k_is); (case c3 => k_is); (case k3 => k_is); (case a4 => k_is); (case l4 => k_is); (case c4 => k_is); (case k4 => k_is); (case a5 => k_is); (case l5 => k_is); (case c5 => k_is); (case k5 => k_is); (case a6 => k_is); (case l6 => k_is); (case c6 => k_is); (case k6 => k_is); (case a7 => k_is); (case l7 => k_is); (case c7 => k_is); (case k7 => k_is); (case a8 => k_is); (case l8 => k_is); (case c8 => k_is); (case k8 => k_is); (case a9 => k_is); (case l9 => k_is); (case c9 => k_is); (case k9 => k_is); (case a11 => k_is); (case l11 => k_is); (case c11 => k_is); (case k11 => k_is); (case a12 => k_is); (case l12 => k_is); (case c12 => k_is); (case k12 => k_is); (case a13 => k_is); (case l13 => k_is); (case c13 => k_is); (case k13 => k_is); (case a14 => k_is); (case l14 => k_is); (case c14 => k_is); (case k14 => k_is); (case a16 => k_is); (case l16 => k_is); (case c16 => k_is); (case k16 => k_is); (case a17 => k_is); (case l17 => k_is); (case c17 => k_is); (case k17 => k_is); (case a18 => k_is); (case l18 => k_is); (case c18 => k_is); (case k18 => k_is); (case a19 => k_is); (case l19 => k_is); (case c19 => k_is); (case k19 => k_is); (case a20 => k_is); (case l20 => k_is); (case c20 => k_is); (case k20 => k_is); (case a21 => k_is); (case l21 => k_is); (case c21 => k_is); (case k21 => k_is); (case a22 => k_is); (case l22 => k_is); (case c22 => k_is); (case k22 => k_is); (case a23 => k_is); (case l23 => k_is); (case c23 => k_is); (case k23 => k_is); (case a24 => k_is); (case l24 => k_is); (case c24 => k_is); (case k24 => k_is); (case z_len => k_is); (case z_range => k_is); (case z_zip => k_is); (case z_tuple => k_is); (case z_sorted => k_is); (case z_enumerate => k_is); (case z_min => k_is); (case z_abs => k_is); (case z_isinstance => k_is); (case z_int => k_is); (case z_bool => k_is); (case z_list => k_is); (case nT => exact rfl); (case hC => exact rfl)
