import PyProof.Rows.All
import HandS.ForMost
import HandS.OwnEq
import HandS.ClsMeth
import HandS.CallLocal
import HandS.Star
import HandS.SortInts
import HandS.Strs
import HandS.SetBool
import HandS.SetKeys
import HandS.FStr
import HandS.Style
import HandS.IsInst
import HandS.MakeKwOnly
import HandS.Defaults
import HandS.Zip
import HandS.Conv
import HandS.ListItems
import HandS.More
import HandS.Wide
import HandS.EndBits
import HandS.GenList
import HandS.Walk
import HandS.SetFor
import HandS.Flow
import HandS.Rev
import HandS.Codes
import HandS.TupAny
import HandS.DictEq
import KE.Datum
import KE.GoesMore
import PyProof.ReprRoads
import PySem.Challenge.RW_filedalike_k09_whole_threads_of_any_orde
set_option maxRecDepth 512
set_option Elab.async false
set_option maxHeartbeats 1000000
set_option linter.all false
/-! M1: plain mathematics of letters: known numbers, links, their closure; sorted lists. -/
namespace K9
/-- a letter: its number, its answers -/
abbrev Let := Int × List Int
def come (ls : List Let) : List Int := ls.map (·.1)
def known (ls : List Let) : List Int := ls.flatMap fun l => l.1 :: l.2
theorem mem_known {ls : List Let} {n : Int} : n ∈ known ls ↔ ∃ l ∈ ls, n = l.1 ∨ n ∈ l.2 := by
  unfold known
  rw [List.mem_flatMap]
  constructor
  · rintro ⟨l, h, q⟩; exact ⟨l, h, List.mem_cons.mp q⟩
  · rintro ⟨l, h, q⟩; exact ⟨l, h, List.mem_cons.mpr q⟩
theorem mem_come {ls : List Let} {n : Int} : n ∈ come ls ↔ ∃ l ∈ ls, n = l.1 := by
  unfold come
  rw [List.mem_map]
  constructor
  · rintro ⟨l, h, q⟩; exact ⟨l, h, q.symm⟩
  · rintro ⟨l, h, q⟩; exact ⟨l, h, q.symm⟩
theorem come_known {ls : List Let} {n : Int} (h : n ∈ come ls) : n ∈ known ls := by
  obtain ⟨l, h, q⟩ := mem_come.mp h
  exact mem_known.mpr ⟨l, h, .inl q⟩
/-- the letters of one list stand in the other -/
abbrev Sub (a b : List Let) : Prop := ∀ l ∈ a, l ∈ b
theorem Sub.known {a b : List Let} (h : Sub a b) {n : Int} (q : n ∈ known a) : n ∈ known b := by
  obtain ⟨l, hl, q⟩ := mem_known.mp q
  exact mem_known.mpr ⟨l, h l hl, q⟩
theorem Sub.come {a b : List Let} (h : Sub a b) {n : Int} (q : n ∈ come a) : n ∈ come b := by
  obtain ⟨l, hl, q⟩ := mem_come.mp q
  exact mem_come.mpr ⟨l, h l hl, q⟩

/-! ### links and their closure -/
def Lk (ls : List Let) (a b : Int) : Prop := ∃ l ∈ ls, a = l.1 ∧ b ∈ l.2
inductive Eqv (R : Int → Int → Prop) : Int → Int → Prop
  | refl (a) : Eqv R a a
  | link {a b} : R a b → Eqv R a b
  | symm {a b} : Eqv R a b → Eqv R b a
  | trans {a b c} : Eqv R a b → Eqv R b c → Eqv R a c
abbrev Conn (ls : List Let) : Int → Int → Prop := Eqv (Lk ls)
theorem Eqv.mono {R S : Int → Int → Prop} (h : ∀ a b, R a b → S a b) {a b : Int} (x : Eqv R a b) : Eqv S a b := by
  induction x with
  | refl a => exact .refl a
  | link r => exact .link (h _ _ r)
  | symm _ ih => exact .symm ih
  | trans _ _ ih1 ih2 => exact .trans ih1 ih2
theorem Eqv.same {R S : Int → Int → Prop} (h : ∀ a b, R a b ↔ S a b) {a b : Int} : Eqv R a b ↔ Eqv S a b :=
  ⟨Eqv.mono fun a b => (h a b).mp, Eqv.mono fun a b => (h a b).mpr⟩
theorem Sub.conn {a b : List Let} (h : Sub a b) {x y : Int} (q : Conn a x y) : Conn b x y :=
  Eqv.mono (fun _ _ ⟨l, hl, r⟩ => ⟨l, h l hl, r⟩) q
/-- what is linked is known -/
theorem conn_known {ls : List Let} {a b : Int} (h : Conn ls a b) : a = b ∨ (a ∈ known ls ∧ b ∈ known ls) := by
  induction h with
  | refl a => exact .inl rfl
  | link r =>
    obtain ⟨l, hl, e, m⟩ := r
    exact .inr ⟨mem_known.mpr ⟨l, hl, .inl e⟩, mem_known.mpr ⟨l, hl, .inr m⟩⟩
  | symm _ ih => rcases ih with e | ⟨p, q⟩; exact .inl e.symm; exact .inr ⟨q, p⟩
  | trans _ _ ih1 ih2 =>
    rcases ih1 with e | ⟨p, q⟩
    · subst e; exact ih2
    · rcases ih2 with e | ⟨p2, q2⟩
      · subst e; exact .inr ⟨p, q⟩
      · exact .inr ⟨p, q2⟩
/-- one link more -/
theorem eqv_add {R : Int → Int → Prop} {n a : Int} {x y : Int} : Eqv (fun u v => R u v ∨ (u = n ∧ v = a)) x y ↔ Eqv R x y ∨ (Eqv R x n ∧ Eqv R a y) ∨ (Eqv R x a ∧ Eqv R n y) := by
  constructor
  · intro h
    induction h with
    | refl a => exact .inl (.refl a)
    | link r =>
      rcases r with r | ⟨rfl, rfl⟩
      · exact .inl (.link r)
      · exact .inr (.inl ⟨.refl _, .refl _⟩)
    | symm _ ih =>
      rcases ih with e | ⟨p, q⟩ | ⟨p, q⟩
      · exact .inl e.symm
      · exact .inr (.inr ⟨q.symm, p.symm⟩)
      · exact .inr (.inl ⟨q.symm, p.symm⟩)
    | trans _ _ ih1 ih2 =>
      rcases ih1 with e | ⟨p, q⟩ | ⟨p, q⟩
      · rcases ih2 with e2 | ⟨p2, q2⟩ | ⟨p2, q2⟩
        · exact .inl (e.trans e2)
        · exact .inr (.inl ⟨e.trans p2, q2⟩)
        · exact .inr (.inr ⟨e.trans p2, q2⟩)
      · rcases ih2 with e2 | ⟨p2, q2⟩ | ⟨p2, q2⟩
        · exact .inr (.inl ⟨p, q.trans e2⟩)
        · exact .inr (.inl ⟨p, q2⟩)
        · exact .inl (p.trans q2)
      · rcases ih2 with e2 | ⟨p2, q2⟩ | ⟨p2, q2⟩
        · exact .inr (.inr ⟨p, q.trans e2⟩)
        · exact .inl (p.trans q2)
        · exact .inr (.inr ⟨p, q2⟩)
  · have up : ∀ {u v}, Eqv R u v → Eqv (fun u v => R u v ∨ (u = n ∧ v = a)) u v := fun h => h.mono fun _ _ r => .inl r
    have l : Eqv (fun u v => R u v ∨ (u = n ∧ v = a)) n a := .link (.inr ⟨rfl, rfl⟩)
    rintro (e | ⟨p, q⟩ | ⟨p, q⟩)
    · exact up e
    · exact (up p).trans (l.trans (up q))
    · exact (up p).trans (l.symm.trans (up q))
/-- a letter without answers links nothing -/
theorem conn_bare {ls : List Let} {n : Int} {x y : Int} : Conn (ls ++ [(n, [])]) x y ↔ Conn ls x y := by
  refine Eqv.same fun a b => ⟨?_, ?_⟩
  · rintro ⟨l, hl, e, m⟩
    rcases List.mem_append.mp hl with h | h
    · exact ⟨l, h, e, m⟩
    · rw [List.mem_singleton.mp h] at m; simp at m
  · rintro ⟨l, hl, e, m⟩
    exact ⟨l, List.mem_append_left _ hl, e, m⟩
theorem conn_more {ls : List Let} {n a : Int} {as : List Int} {x y : Int} : Conn (ls ++ [(n, as ++ [a])]) x y ↔
    Conn (ls ++ [(n, as)]) x y ∨ (Conn (ls ++ [(n, as)]) x n ∧ Conn (ls ++ [(n, as)]) a y) ∨ (Conn (ls ++ [(n, as)]) x a ∧ Conn (ls ++ [(n, as)]) n y) := by
  rw [← eqv_add]
  refine Eqv.same fun u v => ⟨?_, ?_⟩
  · rintro ⟨l, hl, e, m⟩
    rcases List.mem_append.mp hl with h | h
    · exact .inl ⟨l, List.mem_append_left _ h, e, m⟩
    · have hl' := List.mem_singleton.mp h
      subst hl'
      rcases List.mem_append.mp m with m | m
      · exact .inl ⟨(n, as), List.mem_append_right _ (List.mem_singleton.mpr rfl), e, m⟩
      · exact .inr ⟨e, List.mem_singleton.mp m⟩
  · rintro (⟨l, hl, e, m⟩ | ⟨rfl, rfl⟩)
    · rcases List.mem_append.mp hl with h | h
      · exact ⟨l, List.mem_append_left _ h, e, m⟩
      · have hl' := List.mem_singleton.mp h
        subst hl'
        exact ⟨(n, as ++ [a]), List.mem_append_right _ (List.mem_singleton.mpr rfl), e, List.mem_append_left _ m⟩
    · exact ⟨(u, as ++ [v]), List.mem_append_right _ (List.mem_singleton.mpr rfl), rfl, List.mem_append_right _ (List.mem_singleton.mpr rfl)⟩
theorem known_more {ls : List Let} {n a : Int} {as : List Int} {x : Int} : x ∈ known (ls ++ [(n, as ++ [a])]) ↔ x ∈ known (ls ++ [(n, as)]) ∨ x = a := by
  unfold known
  simp only [List.flatMap_append, List.flatMap_cons, List.flatMap_nil, List.append_nil, List.mem_append, List.mem_cons, List.not_mem_nil, or_false]
  constructor
  · rintro (h | h | h | h)
    · exact .inl (.inl h)
    · exact .inl (.inr (.inl h))
    · exact .inl (.inr (.inr h))
    · exact .inr h
  · rintro ((h | h | h) | h)
    · exact .inl h
    · exact .inr (.inl h)
    · exact .inr (.inr (.inl h))
    · exact .inr (.inr (.inr h))
theorem known_bare {ls : List Let} {n : Int} {x : Int} : x ∈ known (ls ++ [(n, [])]) ↔ x ∈ known ls ∨ x = n := by
  unfold known
  simp only [List.flatMap_append, List.flatMap_cons, List.flatMap_nil, List.append_nil, List.mem_append, List.mem_cons, List.not_mem_nil, or_false]

/-! ### strictly rising lists -/
abbrev Up (l : List Int) : Prop := l.Pairwise (· < ·)
theorem Up.nodup {l : List Int} (h : Up l) : l.Nodup := h.imp fun r e => by omega
/-- a rising list is told by its members -/
theorem Up.ext : ∀ {l m : List Int}, Up l → Up m → (∀ x, x ∈ l ↔ x ∈ m) → l = m
  | [], [], _, _, _ => rfl
  | [], y :: m, _, _, h => absurd ((h y).mpr List.mem_cons_self) (by simp)
  | x :: l, [], _, _, h => absurd ((h x).mp List.mem_cons_self) (by simp)
  | x :: l, y :: m, hl, hm, h => by
    obtain ⟨h1, hl'⟩ := List.pairwise_cons.mp hl
    obtain ⟨h2, hm'⟩ := List.pairwise_cons.mp hm
    have e : x = y := by
      rcases List.mem_cons.mp ((h x).mp List.mem_cons_self) with e | e
      · exact e
      · rcases List.mem_cons.mp ((h y).mpr List.mem_cons_self) with e' | e'
        · exact e'.symm
        · have := h2 x e
          have := h1 y e'
          omega
    subst e
    refine congrArg (x :: ·) (Up.ext hl' hm' fun z => ?_)
    constructor
    · intro hz
      rcases List.mem_cons.mp ((h z).mp (List.mem_cons_of_mem _ hz)) with e | e
      · have := h1 z hz; omega
      · exact e
    · intro hz
      rcases List.mem_cons.mp ((h z).mpr (List.mem_cons_of_mem _ hz)) with e | e
      · have := h2 z hz; omega
      · exact e
/-- sorted, without twins: rising -/
theorem up_of_sorted {l : List Int} (h : l.Pairwise (· ≤ ·)) (nd : l.Nodup) : Up l := by
  induction l with
  | nil => exact .nil
  | cons x l ih =>
    obtain ⟨h1, h⟩ := List.pairwise_cons.mp h
    obtain ⟨n1, nd⟩ := List.nodup_cons.mp nd
    refine List.pairwise_cons.mpr ⟨fun y hy => ?_, ih h nd⟩
    have := h1 y hy
    have : x ≠ y := fun e => n1 (e ▸ hy)
    omega
/-- two sorted lists of the same things are one -/
theorem sorted_perm : ∀ {l m : List Int}, l.Pairwise (· ≤ ·) → m.Pairwise (· ≤ ·) → l.Perm m → l = m := by
  intro l m hl hm p
  exact p.eq_of_pairwise (fun a b _ _ => by intro h1 h2; omega) hl hm
/-- lists without twins and with the same members are arrangements of one another -/
theorem perm_of {l m : List Int} (hl : l.Nodup) (hm : m.Nodup) (h : ∀ x, x ∈ l ↔ x ∈ m) : l.Perm m :=
  (List.perm_ext_iff_of_nodup hl hm).mpr h
/-- a list without twins within another is no longer -/
theorem nodup_le : ∀ {l m : List Int}, l.Nodup → (∀ x ∈ l, x ∈ m) → l.length ≤ m.length
  | [], _, _, _ => Nat.zero_le _
  | x :: l, m, hl, h => by
    obtain ⟨n1, hl⟩ := List.nodup_cons.mp hl
    have hx : x ∈ m := h x List.mem_cons_self
    have q := nodup_le (l := l) (m := m.erase x) hl fun y hy => (List.mem_erase_of_ne (fun e => n1 (by rw [← e]; exact hy))).mpr (h y (List.mem_cons_of_mem _ hy))
    have e := List.length_erase_of_mem hx
    have pos : 0 < m.length := List.length_pos_of_mem hx
    rw [List.length_cons]
    omega
end K9
set_option maxRecDepth 512
set_option Elab.async false
set_option maxHeartbeats 1000000
set_option linter.all false
/-! M2: plain mathematics of the groups: a table of numbers and their groups, as it grows; the summary. -/
namespace K9
section
variable {α : Type} [DecidableEq α]
/-- a table from numbers to groups, the members of each -/
structure Part (kvs : List (Int × α)) (ks : α → List Int) : Prop where
  nd : (kvs.map (·.1)).Nodup
  mem : ∀ q ∈ kvs, ∀ m, m ∈ ks q.2 ↔ (m, q.2) ∈ kvs
  knd : ∀ q ∈ kvs, (ks q.2).Nodup
/-- equal groups: related -/
def Rep (kvs : List (Int × α)) (R : Int → Int → Prop) : Prop := ∀ q ∈ kvs, ∀ r ∈ kvs, (q.2 = r.2 ↔ R q.1 r.1)
def Keys (kvs : List (Int × α)) (ls : List Let) : Prop := ∀ n, (∃ g, (n, g) ∈ kvs) ↔ n ∈ known ls
theorem key_one {kvs : List (Int × α)} (nd : (kvs.map (·.1)).Nodup) {n : Int} {g h : α} (a : (n, g) ∈ kvs) (b : (n, h) ∈ kvs) : g = h := by
  induction kvs with
  | nil => cases a
  | cons q kvs ih =>
    rw [List.map_cons] at nd
    obtain ⟨n1, nd⟩ := List.nodup_cons.mp nd
    rcases List.mem_cons.mp a with a | a
    · rcases List.mem_cons.mp b with b | b
      · rw [← a] at b; exact (Prod.mk.inj b).2.symm
      · exact absurd (List.mem_map.mpr ⟨_, b, rfl⟩) (by rw [← a] at n1; exact n1)
    · rcases List.mem_cons.mp b with b | b
      · exact absurd (List.mem_map.mpr ⟨_, a, rfl⟩) (by rw [← b] at n1; exact n1)
      · exact ih nd a b
/-- the group O is emptied into G -/
def mvAll (kvs : List (Int × α)) (G O : α) : List (Int × α) := kvs.map fun q => if q.2 = O then (q.1, G) else q
def mvKs (ks : α → List Int) (G O : α) : α → List Int := fun g => if g = G then ks G ++ ks O else ks g
theorem mvAll_fst (kvs : List (Int × α)) (G O : α) : (mvAll kvs G O).map (·.1) = kvs.map (·.1) := by
  unfold mvAll
  rw [List.map_map]
  refine List.map_congr_left fun q _ => ?_
  show (if q.2 = O then (q.1, G) else q).1 = q.1
  split <;> rfl
theorem mem_mvAll {kvs : List (Int × α)} {G O : α} {m : Int} {g : α} : (m, g) ∈ mvAll kvs G O ↔ (g = G ∧ (m, O) ∈ kvs) ∨ (g ≠ O ∧ (m, g) ∈ kvs) := by
  unfold mvAll
  rw [List.mem_map]
  constructor
  · rintro ⟨q, hq, e⟩
    by_cases h : q.2 = O
    · rw [if_pos h] at e
      obtain ⟨rfl, rfl⟩ := Prod.mk.inj e
      exact .inl ⟨rfl, by rw [← h]; exact hq⟩
    · rw [if_neg h] at e
      subst e
      exact .inr ⟨h, hq⟩
  · rintro (⟨rfl, h⟩ | ⟨h, hq⟩)
    · exact ⟨(m, O), h, by rw [if_pos rfl]⟩
    · exact ⟨(m, g), hq, by rw [if_neg h]⟩
/-- disjoint groups -/
theorem Part.apart {kvs : List (Int × α)} {ks : α → List Int} (P : Part kvs ks) {q r : Int × α} (hq : q ∈ kvs) (hr : r ∈ kvs) (h : q.2 ≠ r.2) {m : Int} (h1 : m ∈ ks q.2) (h2 : m ∈ ks r.2) : False :=
  h (key_one P.nd ((P.mem q hq m).mp h1) ((P.mem r hr m).mp h2))
theorem Part.move {kvs : List (Int × α)} {ks : α → List Int} (P : Part kvs ks) {n a : Int} {G O : α} (hG : (n, G) ∈ kvs) (hO : (a, O) ∈ kvs) (h : G ≠ O) : Part (mvAll kvs G O) (mvKs ks G O) := by
  refine ⟨by rw [mvAll_fst]; exact P.nd, ?_, ?_⟩
  · rintro ⟨x, g⟩ hq m
    show m ∈ mvKs ks G O g ↔ (m, g) ∈ mvAll kvs G O
    rw [mem_mvAll]
    unfold mvKs
    by_cases e : g = G
    · subst e
      rw [if_pos rfl, List.mem_append]
      have e1 := P.mem _ hG m
      have e2 := P.mem _ hO m
      constructor
      · rintro (z | z)
        · exact .inr ⟨h, e1.mp z⟩
        · exact .inl ⟨rfl, e2.mp z⟩
      · rintro (⟨_, z⟩ | ⟨_, z⟩)
        · exact .inr (e2.mpr z)
        · exact .inl (e1.mpr z)
    · rw [if_neg e]
      rcases mem_mvAll.mp hq with ⟨z, _⟩ | ⟨z, w⟩
      · exact absurd z e
      · have e1 := P.mem _ w m
        constructor
        · intro y; exact .inr ⟨z, e1.mp y⟩
        · rintro (⟨y, _⟩ | ⟨_, y⟩)
          · exact absurd y e
          · exact e1.mpr y
  · rintro ⟨x, g⟩ hq
    show (mvKs ks G O g).Nodup
    unfold mvKs
    by_cases e : g = G
    · subst e
      rw [if_pos rfl]
      refine List.nodup_append.mpr ⟨P.knd _ hG, P.knd _ hO, fun u hu v hv e => ?_⟩
      subst e
      exact P.apart hG hO h hu hv
    · rw [if_neg e]
      rcases mem_mvAll.mp hq with ⟨z, _⟩ | ⟨z, w⟩
      · exact absurd z e
      · exact P.knd _ w
/-- the relation behind it: n and a (of G and O, in some order) linked -/
theorem Rep.move {kvs : List (Int × α)} {ks : α → List Int} (P : Part kvs ks) {R : Int → Int → Prop} (rep : Rep kvs R) {n a : Int} {g h G O : α} (hg : (n, g) ∈ kvs) (hh : (a, h) ∈ kvs) (ne : g ≠ h)
    (hGO : (G = g ∧ O = h) ∨ (G = h ∧ O = g)) : Rep (mvAll kvs G O) (fun x y => R x y ∨ (R x n ∧ R a y) ∨ (R x a ∧ R n y)) := by
  rintro ⟨x, u⟩ hx ⟨y, v⟩ hy
  show u = v ↔ R x y ∨ (R x n ∧ R a y) ∨ (R x a ∧ R n y)
  -- the groups ahead
  have old : ∀ {x : Int} {u : α}, (x, u) ∈ mvAll kvs G O → ∃ u', (x, u') ∈ kvs ∧ u = if u' = O then G else u' := fun {x u} hx => by
    rcases mem_mvAll.mp hx with ⟨z, w⟩ | ⟨z, w⟩
    · exact ⟨O, w, by rw [if_pos rfl]; exact z⟩
    · exact ⟨u, w, by rw [if_neg z]⟩
  obtain ⟨u', hu, eu⟩ := old hx
  obtain ⟨v', hv, ev⟩ := old hy
  have r1 := rep _ hu _ hv
  have r2 := rep _ hu _ hg
  have r3 := rep _ hh _ hv
  have r4 := rep _ hu _ hh
  have r5 := rep _ hg _ hv
  dsimp only at r1 r2 r3 r4 r5
  rw [← r1, ← r2, ← r3, ← r4, ← r5, eu, ev]
  rcases hGO with ⟨rfl, rfl⟩ | ⟨rfl, rfl⟩
  · by_cases e1 : u' = O <;> by_cases e2 : v' = O
    · rw [if_pos e1, if_pos e2]; simp [e1, e2]
    · rw [if_pos e1, if_neg e2]
      constructor
      · intro e; exact .inr (.inr ⟨e1, e⟩)
      · rintro (e | ⟨_, e⟩ | ⟨_, e⟩)
        · exact absurd (e.symm.trans e1) e2
        · exact absurd e.symm e2
        · exact e
    · rw [if_neg e1, if_pos e2]
      constructor
      · intro e; exact .inr (.inl ⟨e, e2.symm⟩)
      · rintro (e | ⟨e, _⟩ | ⟨e, _⟩)
        · exact absurd (e.trans e2) e1
        · exact e
        · exact absurd e e1
    · rw [if_neg e1, if_neg e2]
      constructor
      · intro e; exact .inl e
      · rintro (e | ⟨_, e⟩ | ⟨e, _⟩)
        · exact e
        · exact absurd e.symm e2
        · exact absurd e e1
  · by_cases e1 : u' = O <;> by_cases e2 : v' = O
    · rw [if_pos e1, if_pos e2]; simp [e1, e2]
    · rw [if_pos e1, if_neg e2]
      constructor
      · intro e; exact .inr (.inl ⟨e1, e⟩)
      · rintro (e | ⟨_, e⟩ | ⟨_, e⟩)
        · exact absurd (e.symm.trans e1) e2
        · exact e
        · exact absurd e.symm e2
    · rw [if_neg e1, if_pos e2]
      constructor
      · intro e; exact .inr (.inr ⟨e, e2.symm⟩)
      · rintro (e | ⟨e, _⟩ | ⟨e, _⟩)
        · exact absurd (e.trans e2) e1
        · exact absurd e e1
        · exact e
    · rw [if_neg e1, if_neg e2]
      constructor
      · intro e; exact .inl e
      · rintro (e | ⟨e, _⟩ | ⟨_, e⟩)
        · exact e
        · exact absurd e e1
        · exact absurd e.symm e2
/-- the two are in one group already -/
theorem Rep.stay {kvs : List (Int × α)} {R : Int → Int → Prop} (rep : Rep kvs R) {n a : Int} {g : α} (hg : (n, g) ∈ kvs) (hh : (a, g) ∈ kvs) : Rep kvs (fun x y => R x y ∨ (R x n ∧ R a y) ∨ (R x a ∧ R n y)) := by
  rintro ⟨x, u⟩ hx ⟨y, v⟩ hy
  have r1 := rep _ hx _ hy
  have r2 := rep _ hx _ hg
  have r3 := rep _ hh _ hy
  have r4 := rep _ hx _ hh
  have r5 := rep _ hg _ hy
  dsimp only at r1 r2 r3 r4 r5 ⊢
  rw [← r1, ← r2, ← r3, ← r4, ← r5]
  constructor
  · intro e; exact .inl e
  · rintro (e | ⟨e, f⟩ | ⟨e, f⟩)
    · exact e
    · exact e.trans f
    · exact e.trans f
/-- a number of its own -/
theorem Part.new {kvs : List (Int × α)} {ks : α → List Int} (P : Part kvs ks) {n : Int} {g : α} (hn : ∀ h, (n, h) ∉ kvs) (hg : ∀ m, (m, g) ∉ kvs) : Part (kvs ++ [(n, g)]) (fun h => if h = g then [n] else ks h) := by
  refine ⟨?_, ?_, ?_⟩
  · rw [List.map_append, List.map_cons, List.map_nil]
    refine List.nodup_append.mpr ⟨P.nd, by simp, fun u hu v hv e => ?_⟩
    rw [List.mem_singleton.mp hv] at e
    obtain ⟨⟨x, h⟩, hq, rfl⟩ := List.mem_map.mp hu
    dsimp only at e
    subst e
    exact hn h hq
  · rintro ⟨x, h⟩ hq m
    dsimp only
    rw [List.mem_append, List.mem_singleton]
    by_cases e : h = g
    · subst e
      rw [if_pos rfl, List.mem_singleton]
      constructor
      · rintro rfl; exact .inr rfl
      · rintro (z | z)
        · exact absurd z (hg m)
        · exact (Prod.mk.inj z).1
    · rw [if_neg e]
      have hq' : (x, h) ∈ kvs := by
        rcases List.mem_append.mp hq with z | z
        · exact z
        · exact absurd (Prod.mk.inj (List.mem_singleton.mp z)).2 e
      rw [P.mem _ hq' m]
      constructor
      · intro z; exact .inl z
      · rintro (z | z)
        · exact z
        · exact absurd (Prod.mk.inj z).2 e
  · rintro ⟨x, h⟩ hq
    dsimp only
    by_cases e : h = g
    · subst e; rw [if_pos rfl]; simp
    · rw [if_neg e]
      rcases List.mem_append.mp hq with z | z
      · exact P.knd _ z
      · exact absurd (Prod.mk.inj (List.mem_singleton.mp z)).2 e
theorem Rep.new {kvs : List (Int × α)} {R : Int → Int → Prop} (rep : Rep kvs R) {n : Int} {g : α} (hg : ∀ m, (m, g) ∉ kvs) (hr : R n n) (h1 : ∀ q ∈ kvs, ¬ R q.1 n) (h2 : ∀ q ∈ kvs, ¬ R n q.1) : Rep (kvs ++ [(n, g)]) R := by
  rintro ⟨x, u⟩ hx ⟨y, v⟩ hy
  rcases List.mem_append.mp hx with a | a <;> rcases List.mem_append.mp hy with b | b
  · exact rep _ a _ b
  · obtain ⟨rfl, rfl⟩ := Prod.mk.inj (List.mem_singleton.mp b)
    dsimp only
    exact ⟨fun e => absurd (by subst e; exact a) (hg x), fun e => absurd e (h1 _ a)⟩
  · obtain ⟨rfl, rfl⟩ := Prod.mk.inj (List.mem_singleton.mp a)
    dsimp only
    exact ⟨fun e => absurd (by subst e; exact b) (hg y), fun e => absurd e (h2 _ b)⟩
  · obtain ⟨rfl, rfl⟩ := Prod.mk.inj (List.mem_singleton.mp a)
    obtain ⟨rfl, rfl⟩ := Prod.mk.inj (List.mem_singleton.mp b)
    exact ⟨fun _ => hr, fun _ => rfl⟩
theorem Rep.same {kvs : List (Int × α)} {R S : Int → Int → Prop} (rep : Rep kvs R) (h : ∀ x y, R x y ↔ S x y) : Rep kvs S := fun q hq r hr => (rep q hq r hr).trans (h _ _)
end

/-! ### the least of some numbers -/
def IsMin (l : List Int) (m : Int) : Prop := m ∈ l ∧ ∀ x ∈ l, m ≤ x
theorem IsMin.uniq {l : List Int} {m n : Int} (a : IsMin l m) (b : IsMin l n) : m = n := by
  have := a.2 n b.1
  have := b.2 m a.1
  omega
theorem IsMin.append {l k : List Int} {m n : Int} (a : IsMin l m) (b : IsMin k n) : IsMin (l ++ k) (if n < m then n else m) := by
  refine ⟨?_, fun x hx => ?_⟩
  · split
    · exact List.mem_append_right _ b.1
    · exact List.mem_append_left _ a.1
  · rcases List.mem_append.mp hx with h | h
    · have := a.2 x h
      split <;> omega
    · have := b.2 x h
      split <;> omega

/-! ### the summary -/
/-- n is the least of its thread -/
def Least (ls : List Let) (n : Int) : Prop := n ∈ known ls ∧ ∀ m, Conn ls n m → n ≤ m
structure SumE (ls : List Let) (e : Int × List Int × List Int) : Prop where
  me : Up e.2.1
  ab : Up e.2.2
  hm : ∀ m, m ∈ e.2.1 ↔ Conn ls e.1 m ∧ m ∈ come ls
  ha : ∀ m, m ∈ e.2.2 ↔ Conn ls e.1 m ∧ m ∈ known ls ∧ m ∉ come ls
structure SumOK (ls : List Let) (L : List (Int × List Int × List Int)) : Prop where
  up : Up (L.map (·.1))
  names : ∀ n, n ∈ L.map (·.1) ↔ Least ls n
  each : ∀ e ∈ L, SumE ls e
/-- equal sets of letters -/
def SameSet (a b : List Let) : Prop := Sub a b ∧ Sub b a
theorem SameSet.known {a b : List Let} (h : SameSet a b) {n : Int} : n ∈ K9.known a ↔ n ∈ K9.known b := ⟨h.1.known, h.2.known⟩
theorem SameSet.come {a b : List Let} (h : SameSet a b) {n : Int} : n ∈ K9.come a ↔ n ∈ K9.come b := ⟨h.1.come, h.2.come⟩
theorem SameSet.conn {a b : List Let} (h : SameSet a b) {n m : Int} : Conn a n m ↔ Conn b n m := ⟨h.1.conn, h.2.conn⟩
theorem SameSet.symm {a b : List Let} (h : SameSet a b) : SameSet b a := ⟨h.2, h.1⟩
theorem SameSet.refl (a : List Let) : SameSet a a := ⟨fun _ h => h, fun _ h => h⟩
theorem SameSet.least {a b : List Let} (h : SameSet a b) {n : Int} : Least a n ↔ Least b n := by
  unfold Least
  rw [h.known]
  exact ⟨fun ⟨p, q⟩ => ⟨p, fun m c => q m (h.conn.mpr c)⟩, fun ⟨p, q⟩ => ⟨p, fun m c => q m (h.conn.mp c)⟩⟩
theorem SumE.uniq {a b : List Let} (h : SameSet a b) {e f : Int × List Int × List Int} (x : SumE a e) (y : SumE b f) (n : e.1 = f.1) : e = f := by
  obtain ⟨n1, m1, a1⟩ := e
  obtain ⟨n2, m2, a2⟩ := f
  dsimp only at n
  subst n
  have e1 : m1 = m2 := Up.ext x.me y.me fun m => by
    have := x.hm m; have := y.hm m
    dsimp only at *
    simp only [*, h.conn, h.come]
  have e2 : a1 = a2 := Up.ext x.ab y.ab fun m => by
    have := x.ha m; have := y.ha m
    dsimp only at *
    simp only [*, h.conn, h.come, h.known]
  rw [e1, e2]
theorem sum_same : ∀ {L M : List (Int × List Int × List Int)}, L.map (·.1) = M.map (·.1) → (∀ e ∈ L, ∀ f ∈ M, e.1 = f.1 → e = f) → L = M
  | [], [], _, _ => rfl
  | [], _ :: _, h, _ => by simp at h
  | _ :: _, [], h, _ => by simp at h
  | e :: L, f :: M, h, q => by
    rw [List.map_cons, List.map_cons] at h
    obtain ⟨h1, h2⟩ := List.cons.inj h
    rw [q e List.mem_cons_self f List.mem_cons_self h1, sum_same h2 fun e' h1 f' h2 => q e' (List.mem_cons_of_mem _ h1) f' (List.mem_cons_of_mem _ h2)]
theorem SumOK.uniq {a b : List Let} (h : SameSet a b) {L M : List (Int × List Int × List Int)} (x : SumOK a L) (y : SumOK b M) : L = M := by
  have e : L.map (·.1) = M.map (·.1) := Up.ext x.up y.up fun n => by rw [x.names, y.names, h.least]
  exact sum_same e fun e he f hf q => (x.each e he).uniq h (y.each f hf) q
end K9
set_option maxRecDepth 512
set_option Elab.async false
set_option maxHeartbeats 1000000
set_option linter.all false
/-! M3: plain mathematics of the law's look at the threads. -/
namespace K9
/-- letters as the law makes them: unlike numbers, answers without twins and without the own number -/
structure LsOK (ls : List Let) : Prop where
  nd : (come ls).Nodup
  ans : ∀ l ∈ ls, l.2.Nodup ∧ l.1 ∉ l.2
def touch (l : Let) : List Int := l.1 :: l.2
theorem LsOK.touch {ls : List Let} (h : LsOK ls) {l : Let} (hl : l ∈ ls) : (K9.touch l).Nodup := List.nodup_cons.mpr ⟨(h.ans l hl).2, (h.ans l hl).1⟩
theorem touch_known {ls : List Let} {l : Let} (hl : l ∈ ls) {m : Int} (h : m ∈ touch l) : m ∈ known ls := mem_known.mpr ⟨l, hl, List.mem_cons.mp h⟩
theorem touch_conn {ls : List Let} {l : Let} (hl : l ∈ ls) {m n : Int} (h : m ∈ touch l) (h2 : n ∈ touch l) : Conn ls m n := by
  have a : ∀ {x : Int}, x ∈ touch l → Conn ls l.1 x := fun {x} hx => by
    rcases List.mem_cons.mp hx with e | e
    · rw [e]; exact .refl _
    · exact .link ⟨l, hl, rfl, e⟩
  exact (a h).symm.trans (a h2)
/-- the letters' numbers and answers, each once -/
def knStep (k : List Int) (l : Let) : List Int := k ++ (touch l).filter fun x => !decide (x ∈ k)
def knAll (ls : List Let) : List Int := ls.foldl knStep []
theorem knStep_mem {k : List Int} {l : Let} {x : Int} : x ∈ knStep k l ↔ x ∈ k ∨ x ∈ touch l := by
  unfold knStep
  rw [List.mem_append, List.mem_filter]
  constructor
  · rintro (h | h)
    · exact .inl h
    · exact .inr h.1
  · rintro (h | h)
    · exact .inl h
    · by_cases e : x ∈ k
      · exact .inl e
      · exact .inr ⟨h, by simp [e]⟩
theorem knStep_nd {k : List Int} {l : Let} (hk : k.Nodup) (hl : (touch l).Nodup) : (knStep k l).Nodup := by
  refine List.nodup_append.mpr ⟨hk, hl.filter _, fun u hu v hv e => ?_⟩
  subst e
  have := (List.mem_filter.mp hv).2
  simp [hu] at this
theorem kn_fold : ∀ (ls : List Let) (k : List Int), k.Nodup → (∀ l ∈ ls, (touch l).Nodup) → (ls.foldl knStep k).Nodup ∧ ∀ x, x ∈ ls.foldl knStep k ↔ x ∈ k ∨ x ∈ known ls
  | [], k, hk, _ => ⟨hk, fun x => by simp [known]⟩
  | l :: ls, k, hk, h => by
    obtain ⟨h1, h2⟩ := kn_fold ls (knStep k l) (knStep_nd hk (h l List.mem_cons_self)) fun l' hl' => h l' (List.mem_cons_of_mem _ hl')
    refine ⟨h1, fun x => ?_⟩
    rw [List.foldl_cons, h2, knStep_mem]
    have e : x ∈ known (l :: ls) ↔ x ∈ touch l ∨ x ∈ known ls := by
      unfold known touch
      rw [List.flatMap_cons, List.mem_append]
    rw [e]
    constructor
    · rintro ((a | a) | a)
      · exact .inl a
      · exact .inr (.inl a)
      · exact .inr (.inr a)
    · rintro (a | a | a)
      · exact .inl (.inl a)
      · exact .inl (.inr a)
      · exact .inr a
theorem knAll_ok {ls : List Let} (h : LsOK ls) : (knAll ls).Nodup ∧ ∀ x, x ∈ knAll ls ↔ x ∈ known ls := by
  obtain ⟨a, b⟩ := kn_fold ls [] .nil fun l hl => h.touch hl
  exact ⟨a, fun x => by rw [show knAll ls = ls.foldl knStep [] from rfl, b]; simp⟩

/-! ### the closure by rounds -/
def hgStep (f : List Int) (l : Let) : List Int := if (touch l).filter (fun x => decide (x ∈ f)) ≠ [] then knStep f l else f
def hgRound (ls : List Let) (f : List Int) : List Int := ls.foldl hgStep f
def hgIter (ls : List Let) : Nat → List Int → List Int
  | 0, f => f
  | n + 1, f => hgRound ls (hgIter ls n f)
theorem hgStep_le (f : List Int) (l : Let) : f.length ≤ (hgStep f l).length := by
  unfold hgStep knStep
  split
  · rw [List.length_append]; omega
  · exact Nat.le_refl _
theorem hgStep_sub {f : List Int} {l : Let} {x : Int} (h : x ∈ f) : x ∈ hgStep f l := by
  unfold hgStep
  split
  · exact knStep_mem.mpr (.inl h)
  · exact h
theorem hgFold_le : ∀ (ls : List Let) (f : List Int), f.length ≤ (ls.foldl hgStep f).length
  | [], _ => Nat.le_refl _
  | l :: ls, f => Nat.le_trans (hgStep_le f l) (hgFold_le ls _)
/-- what a letter touches is in or out -/
def Closed (ls : List Let) (f : List Int) : Prop := ∀ l ∈ ls, (∃ x ∈ touch l, x ∈ f) → ∀ x ∈ touch l, x ∈ f
theorem hgStep_same {f : List Int} {l : Let} (h : (hgStep f l).length = f.length) : hgStep f l = f ∧ ((∃ x ∈ touch l, x ∈ f) → ∀ x ∈ touch l, x ∈ f) := by
  unfold hgStep at h ⊢
  by_cases e : (touch l).filter (fun x => decide (x ∈ f)) ≠ []
  · rw [if_pos e] at h ⊢
    unfold knStep at h ⊢
    rw [List.length_append] at h
    have e0 : (touch l).filter (fun x => !decide (x ∈ f)) = [] := List.eq_nil_of_length_eq_zero (by omega)
    refine ⟨by rw [e0, List.append_nil], fun _ x hx => ?_⟩
    have q := List.filter_eq_nil_iff.mp e0 x hx
    simpa using q
  · rw [if_neg e]
    refine ⟨rfl, ?_⟩
    rintro ⟨x, hx, hf⟩
    have e' : (touch l).filter (fun x => decide (x ∈ f)) = [] := Classical.not_not.mp e
    have q := List.filter_eq_nil_iff.mp e' x hx
    simp [hf] at q
theorem hgFold_same : ∀ (ls : List Let) (f : List Int), (ls.foldl hgStep f).length = f.length → ls.foldl hgStep f = f ∧ Closed ls f
  | [], f, _ => ⟨rfl, fun l hl => by cases hl⟩
  | l :: ls, f, h => by
    have a := hgStep_le f l
    have b := hgFold_le ls (hgStep f l)
    rw [List.foldl_cons] at h ⊢
    obtain ⟨e1, c1⟩ := hgStep_same (f := f) (l := l) (by omega)
    rw [e1] at h ⊢
    obtain ⟨e2, c2⟩ := hgFold_same ls f h
    refine ⟨e2, fun l' hl' => ?_⟩
    rcases List.mem_cons.mp hl' with z | z
    · subst z; exact c1
    · exact c2 l' z
/-- within a set that letters do not leave; without twins -/
theorem hgStep_in {ls : List Let} {n : Int} {f : List Int} {l : Let} (hl : l ∈ ls) (nd : (touch l).Nodup) (hf : f.Nodup ∧ ∀ x ∈ f, Conn ls n x ∧ x ∈ known ls) : (hgStep f l).Nodup ∧ ∀ x ∈ hgStep f l, Conn ls n x ∧ x ∈ known ls := by
  unfold hgStep
  split
  · rename_i e
    refine ⟨knStep_nd hf.1 nd, fun x hx => ?_⟩
    rcases knStep_mem.mp hx with h | h
    · exact hf.2 x h
    · refine ⟨?_, touch_known hl h⟩
      obtain ⟨y, hy⟩ := List.exists_mem_of_ne_nil _ e
      obtain ⟨h1, h2⟩ := List.mem_filter.mp hy
      exact (hf.2 y (by simpa using h2)).1.trans (touch_conn hl h1 h)
  · exact hf
theorem hgFold_in {ls : List Let} {n : Int} : ∀ (ms : List Let) (f : List Int), (∀ l ∈ ms, l ∈ ls ∧ (touch l).Nodup) → (f.Nodup ∧ ∀ x ∈ f, Conn ls n x ∧ x ∈ known ls) → (ms.foldl hgStep f).Nodup ∧ ∀ x ∈ ms.foldl hgStep f, Conn ls n x ∧ x ∈ known ls
  | [], _, _, h => h
  | l :: ms, f, hm, h => hgFold_in ms _ (fun l' hl' => hm l' (List.mem_cons_of_mem _ hl')) (hgStep_in (hm l List.mem_cons_self).1 (hm l List.mem_cons_self).2 h)
theorem hgFold_sub {x : Int} : ∀ (ms : List Let) (f : List Int), x ∈ f → x ∈ ms.foldl hgStep f
  | [], _, h => h
  | l :: ms, _, h => hgFold_sub ms _ (hgStep_sub h)
theorem closed_conn {ls : List Let} {f : List Int} (h : Closed ls f) {a b : Int} (c : Conn ls a b) : a ∈ f ↔ b ∈ f := by
  induction c with
  | refl a => exact Iff.rfl
  | link r =>
    obtain ⟨l, hl, e, m⟩ := r
    have ha : _ ∈ touch l := List.mem_cons.mpr (.inl e)
    have hb : _ ∈ touch l := List.mem_cons.mpr (.inr m)
    exact ⟨fun q => h l hl ⟨_, ha, q⟩ _ hb, fun q => h l hl ⟨_, hb, q⟩ _ ha⟩
  | symm _ ih => exact ih.symm
  | trans _ _ ih1 ih2 => exact ih1.trans ih2
/-- the rounds reach just the thread -/
theorem hg_all {ls : List Let} (h : LsOK ls) {n : Int} (hn : n ∈ known ls) {cl : List Int} (hcl : ∀ x, x ∈ cl ↔ Conn ls n x ∧ x ∈ known ls) :
    (hgIter ls cl.length [n]).Nodup ∧ ∀ x, x ∈ hgIter ls cl.length [n] ↔ x ∈ cl := by
  have inn : ∀ k, (hgIter ls k [n]).Nodup ∧ (∀ x ∈ hgIter ls k [n], Conn ls n x ∧ x ∈ known ls) ∧ n ∈ hgIter ls k [n] := by
    intro k
    induction k with
    | zero =>
      refine ⟨by simp [hgIter], fun x hx => ?_, by simp [hgIter]⟩
      have e : x = n := by simpa [hgIter] using hx
      rw [e]; exact ⟨.refl _, hn⟩
    | succ k ih =>
      obtain ⟨a, b⟩ := hgFold_in (ls := ls) (n := n) ls (hgIter ls k [n]) (fun l hl => ⟨hl, h.touch hl⟩) ⟨ih.1, ih.2.1⟩
      exact ⟨a, b, hgFold_sub ls _ ih.2.2⟩
  have grow : ∀ k, Closed ls (hgIter ls k [n]) ∨ k + 1 ≤ (hgIter ls k [n]).length := by
    intro k
    induction k with
    | zero => exact .inr (by simp [hgIter])
    | succ k ih =>
      by_cases e : (hgRound ls (hgIter ls k [n])).length = (hgIter ls k [n]).length
      · obtain ⟨e1, c⟩ := hgFold_same ls _ e
        refine .inl ?_
        show Closed ls (ls.foldl hgStep (hgIter ls k [n]))
        rw [e1]; exact c
      · have le := hgFold_le ls (hgIter ls k [n])
        have e' : (ls.foldl hgStep (hgIter ls k [n])).length ≠ (hgIter ls k [n]).length := e
        rcases ih with c | l
        · -- closed already: the round is idle
          refine absurd ?_ e'
          have idle : ∀ (ms : List Let) (f : List Int), (∀ l ∈ ms, (∃ x ∈ touch l, x ∈ f) → ∀ x ∈ touch l, x ∈ f) → ms.foldl hgStep f = f := by
            intro ms
            induction ms with
            | nil => intro f _; rfl
            | cons l ms ihm =>
              intro f hf
              have e0 : hgStep f l = f := by
                unfold hgStep
                split
                · rename_i q
                  obtain ⟨y, hy⟩ := List.exists_mem_of_ne_nil _ q
                  obtain ⟨h1, h2⟩ := List.mem_filter.mp hy
                  have all := hf l List.mem_cons_self ⟨y, h1, by simpa using h2⟩
                  unfold knStep
                  rw [List.filter_eq_nil_iff.mpr fun x hx => by simp [all x hx], List.append_nil]
                · rfl
              rw [List.foldl_cons, e0]
              exact ihm f fun l' hl' => hf l' (List.mem_cons_of_mem _ hl')
          rw [idle ls _ c]
        · refine .inr ?_
          show k + 1 + 1 ≤ (ls.foldl hgStep (hgIter ls k [n])).length
          omega
  obtain ⟨nd, sub, hin⟩ := inn cl.length
  refine ⟨nd, fun x => ⟨fun hx => (hcl x).mpr (sub x hx), fun hx => ?_⟩⟩
  have cl1 : Closed ls (hgIter ls cl.length [n]) := by
    rcases grow cl.length with c | l
    · exact c
    · have := nodup_le nd fun x hx => (hcl x).mpr (sub x hx)
      omega
  exact (closed_conn cl1 ((hcl x).mp hx).1).mp hin

/-! ### the threads part the known numbers -/
/-- the numbers of a thread, come and absent -/
theorem both_mem {ls : List Let} {e : Int × List Int × List Int} (x : SumE ls e) (hn : e.1 ∈ known ls) (m : Int) : m ∈ e.2.1 ++ e.2.2 ↔ Conn ls e.1 m ∧ m ∈ known ls := by
  rw [List.mem_append, x.hm, x.ha]
  constructor
  · rintro (⟨a, b⟩ | ⟨a, b, _⟩)
    · exact ⟨a, come_known b⟩
    · exact ⟨a, b⟩
  · rintro ⟨a, b⟩
    by_cases c : m ∈ come ls
    · exact .inl ⟨a, c⟩
    · exact .inr ⟨a, b, c⟩
theorem both_nd {ls : List Let} {e : Int × List Int × List Int} (x : SumE ls e) : (e.2.1 ++ e.2.2).Nodup :=
  List.nodup_append.mpr ⟨x.me.nodup, x.ab.nodup, fun u hu v hv z => by
    subst z
    exact ((x.ha u).mp hv).2.2 ((x.hm u).mp hu).2⟩
/-- the sorted numbers begin with the name -/
theorem both_head {ls : List Let} {e : Int × List Int × List Int} (x : SumE ls e) (hn : Least ls e.1) {both : List Int} (p : both.Perm (e.2.1 ++ e.2.2)) (s : both.Pairwise (· ≤ ·)) : ∃ r, both = e.1 :: r := by
  have hin : e.1 ∈ both := p.mem_iff.mpr ((both_mem x hn.1 e.1).mpr ⟨.refl _, hn.1⟩)
  cases both with
  | nil => cases hin
  | cons y r =>
    refine ⟨r, ?_⟩
    have hy : Conn ls e.1 y := ((both_mem x hn.1 y).mp (p.mem_iff.mp List.mem_cons_self)).1
    have := hn.2 y hy
    rcases List.mem_cons.mp hin with z | z
    · rw [z]
    · have := (List.pairwise_cons.mp s).1 _ z
      have : e.1 = y := by omega
      rw [this]
/-- each known number is in the thread of a least one -/
theorem least_of {ls : List Let} {m : Int} (hm : m ∈ known ls) : ∃ n, Least ls n ∧ Conn ls n m := by
  classical
  have key : ∀ (l : List Int), (∀ x ∈ l, Conn ls m x ∧ x ∈ known ls) → l ≠ [] → ∃ n ∈ l, ∀ x ∈ l, n ≤ x := by
    intro l
    induction l with
    | nil => intro _ h; exact absurd rfl h
    | cons x l ih =>
      intro h _
      by_cases e : l = []
      · subst e; exact ⟨x, List.mem_cons_self, fun y hy => by rw [List.mem_singleton.mp hy]; omega⟩
      · obtain ⟨n, hn, hl⟩ := ih (fun y hy => h y (List.mem_cons_of_mem _ hy)) e
        by_cases c : x ≤ n
        · exact ⟨x, List.mem_cons_self, fun y hy => (List.mem_cons.mp hy).elim (fun z => by omega) fun z => by have := hl y z; omega⟩
        · exact ⟨n, List.mem_cons_of_mem _ hn, fun y hy => (List.mem_cons.mp hy).elim (fun z => by omega) fun z => hl y z⟩
  let l := (known ls).filter fun x => decide (Conn ls m x)
  have hl : ∀ x, x ∈ l ↔ x ∈ known ls ∧ Conn ls m x := fun x => by
    show x ∈ (known ls).filter _ ↔ _
    rw [List.mem_filter]; simp
  obtain ⟨n, hn, hmin⟩ := key l (fun x hx => ⟨((hl x).mp hx).2, ((hl x).mp hx).1⟩) fun e => by
    have : m ∈ l := (hl m).mpr ⟨hm, .refl _⟩
    rw [e] at this; cases this
  obtain ⟨hk, hc⟩ := (hl n).mp hn
  refine ⟨n, ⟨hk, fun x hx => ?_⟩, hc.symm⟩
  rcases conn_known hx with e | ⟨_, hx2⟩
  · omega
  · exact hmin x ((hl x).mpr ⟨hx2, hc.trans hx⟩)
/-- all threads' numbers together: the known ones, each once -/
theorem listed_ok {ls : List Let} (h : LsOK ls) {L : List (Int × List Int × List Int)} (s : SumOK ls L) {B : List (List Int)} (hB : B.length = L.length)
    (hp : ∀ (i : Nat) e b, L[i]? = some e → B[i]? = some b → b.Perm (e.2.1 ++ e.2.2)) : B.flatten.Perm (knAll ls) := by
  obtain ⟨k1, k2⟩ := knAll_ok h
  have p1 : B.flatten.Perm (L.flatMap fun e => e.2.1 ++ e.2.2) := by
    clear s h k1 k2
    induction L generalizing B with
    | nil => cases B with
      | nil => exact .refl _
      | cons b B => simp at hB
    | cons e L ih => cases B with
      | nil => simp at hB
      | cons b B =>
        rw [List.flatten_cons, List.flatMap_cons]
        refine (hp 0 e b rfl rfl).append (ih (by simpa using hB) fun i e b h1 h2 => hp (i + 1) e b (by simpa using h1) (by simpa using h2))
  refine p1.trans (perm_of ?_ k1 fun x => ?_)
  · have nd : (L.map (·.1)).Nodup := s.up.nodup
    have ea : ∀ e ∈ L, SumE ls e ∧ Least ls e.1 := fun e he => ⟨s.each e he, (s.names _).mp (List.mem_map.mpr ⟨e, he, rfl⟩)⟩
    clear hp p1 hB k1 k2 s
    induction L with
    | nil => exact .nil
    | cons e L ih =>
      rw [List.map_cons] at nd
      obtain ⟨n1, nd⟩ := List.nodup_cons.mp nd
      rw [List.flatMap_cons]
      refine List.nodup_append.mpr ⟨both_nd (ea e List.mem_cons_self).1, ih nd fun e' he' => ea e' (List.mem_cons_of_mem _ he'), fun u hu v hv z => ?_⟩
      subst z
      obtain ⟨e', he', hu'⟩ := List.mem_flatMap.mp hv
      obtain ⟨x1, l1⟩ := ea e List.mem_cons_self
      obtain ⟨x2, l2⟩ := ea e' (List.mem_cons_of_mem _ he')
      have c1 := ((both_mem x1 l1.1 u).mp hu).1
      have c2 := ((both_mem x2 l2.1 u).mp hu').1
      have a := l1.2 e'.1 (c1.trans c2.symm)
      have b := l2.2 e.1 (c2.trans c1.symm)
      have e2 : e.1 = e'.1 := by omega
      exact n1 (List.mem_map.mpr ⟨e', he', e2.symm⟩)
  · rw [k2, List.mem_flatMap]
    constructor
    · rintro ⟨e, he, hx⟩
      exact ((both_mem (s.each e he) ((s.names _).mp (List.mem_map.mpr ⟨e, he, rfl⟩)).1 x).mp hx).2
    · intro hx
      obtain ⟨n, hn, hc⟩ := least_of hx
      obtain ⟨e, he, en⟩ := List.mem_map.mp ((s.names n).mpr hn)
      subst en
      exact ⟨e, he, (both_mem (s.each e he) hn.1 x).mpr ⟨hc, hx⟩⟩
/-- how many numbers the threads have in all -/
theorem count_ok {ls : List Let} (h : LsOK ls) {L : List (Int × List Int × List Int)} (s : SumOK ls L) : (L.map fun e => e.2.1.length + e.2.2.length).sum = (knAll ls).length := by
  have p := listed_ok h s (B := L.map fun e => e.2.1 ++ e.2.2) (by simp) fun i e b h1 h2 => by
    rw [List.getElem?_map, h1] at h2
    cases h2
    exact .refl _
  rw [← p.length_eq, List.length_flatten, List.map_map]
  congr 1
  exact List.map_congr_left fun e _ => by simp
end K9
set_option maxRecDepth 512
set_option Elab.async false
set_option maxHeartbeats 1000000
set_option linter.all false
/-! M4: plain mathematics of the forest: first links, rings, cuts, paths. -/
namespace K9
abbrev Fn := Int → Option Int
/-- at least one step -/
inductive Rch (f : Fn) : Int → Int → Prop
  | one {a b} : f a = some b → Rch f a b
  | cons {a b c} : f a = some b → Rch f b c → Rch f a c
theorem Rch.trans {f : Fn} {a b c : Int} (x : Rch f a b) (y : Rch f b c) : Rch f a c := by
  induction x with
  | one h => exact .cons h y
  | cons h _ ih => exact .cons h (ih y)
theorem Rch.src {f : Fn} {a b : Int} (x : Rch f a b) : f a ≠ none := by
  cases x with
  | one h => rw [h]; exact fun e => by cases e
  | cons h _ => rw [h]; exact fun e => by cases e
/-- two ways from one number: one is part of the other -/
theorem Rch.split {f : Fn} {a b c : Int} (x : Rch f a b) (y : Rch f a c) : b = c ∨ Rch f b c ∨ Rch f c b := by
  induction x generalizing c with
  | one h =>
    cases y with
    | one h' => rw [h] at h'; exact .inl (Option.some.inj h')
    | cons h' y => rw [h] at h'; cases h'; exact .inr (.inl y)
  | cons h x ih =>
    cases y with
    | one h' => rw [h] at h'; cases h'; exact .inr (.inr x)
    | cons h' y => rw [h] at h'; cases h'; exact ih y
/-- on a ring: what is reached leads back -/
theorem Rch.back {f : Fn} {a b : Int} (x : Rch f a a) (y : Rch f a b) : Rch f b a := by
  rcases x.split y with e | e | e
  · subst e; exact x
  · -- from a to b: walk on
    clear e
    induction y with
    | one h =>
      cases x with
      | one h' => rw [h] at h'; cases h'; exact .one h
      | cons h' x => rw [h] at h'; cases h'; exact x
    | @cons u v c h y ih =>
      have back : Rch f v u ∨ v = u := by
        cases x with
        | one h' => rw [h] at h'; cases h'; exact .inr rfl
        | cons h' x => rw [h] at h'; cases h'; exact .inl x
      have x' : Rch f v v := by
        rcases back with r | r
        · exact r.trans (.one h)
        · subst r; exact .one h
      have r := ih x'
      rcases back with b | b
      · exact r.trans b
      · rw [← b]; exact r
  · exact e
theorem Rch.mono {f g : Fn} (h : ∀ a b, f a = some b → g a = some b) {a b : Int} (x : Rch f a b) : Rch g a b := by
  induction x with
  | one e => exact .one (h _ _ e)
  | cons e _ ih => exact .cons (h _ _ e) ih
/-- g: the greatest number of a ring -/
def Cut (f : Fn) (g : Int) : Prop := Rch f g g ∧ ∀ m, Rch f g m → m ≤ g
/-- p: the parents for the first links f -/
def IsPar (f p : Fn) : Prop := ∀ n, (Cut f n → p n = none) ∧ (¬ Cut f n → p n = f n)
theorem IsPar.uniq {f p q : Fn} (a : IsPar f p) (b : IsPar f q) : p = q := by
  funext n
  by_cases c : Cut f n
  · rw [(a n).1 c, (b n).1 c]
  · rw [(a n).2 c, (b n).2 c]
theorem IsPar.le {f p : Fn} (a : IsPar f p) {x y : Int} (h : p x = some y) : f x = some y := by
  by_cases c : Cut f x
  · rw [(a x).1 c] at h; cases h
  · rw [(a x).2 c] at h; exact h
theorem IsPar.none {f p : Fn} (a : IsPar f p) {x : Int} (h : p x = none) : Cut f x ∨ f x = Option.none := by
  by_cases c : Cut f x
  · exact .inl c
  · rw [(a x).2 c] at h; exact .inr h
/-- the way from a number to its root -/
inductive Path (p : Fn) : Int → List Int → Prop
  | root {a} : p a = none → Path p a [a]
  | step {a b ps} : p a = some b → Path p b ps → Path p a (a :: ps)
section
variable {p : Fn}
theorem Path.uniq {a : Int} {ps qs : List Int} (x : Path p a ps) (y : Path p a qs) : ps = qs := by
  induction x generalizing qs with
  | root h =>
    cases y with
    | root _ => rfl
    | step h' _ => rw [h] at h'; cases h'
  | step h _ ih =>
    cases y with
    | root h' => rw [h] at h'; cases h'
    | step h' y => rw [h] at h'; cases h'; rw [ih y]
theorem Path.head {a : Int} {ps : List Int} (x : Path p a ps) : ∃ r, ps = a :: r := by
  cases x with
  | root _ => exact ⟨[], rfl⟩
  | step _ _ => exact ⟨_, rfl⟩
theorem Path.mem_self {a : Int} {ps : List Int} (x : Path p a ps) : a ∈ ps := by
  obtain ⟨r, e⟩ := x.head; rw [e]; exact List.mem_cons_self
/-- from a number on the way on -/
theorem Path.from {a b : Int} {ps : List Int} (x : Path p a ps) (h : b ∈ ps) : ∃ us vs, ps = us ++ vs ∧ Path p b vs ∧ b ∉ us := by
  induction x with
  | @root a h' =>
    rw [List.mem_singleton.mp h]
    exact ⟨[], [a], rfl, .root h', by simp⟩
  | @step a c ps h' x ih =>
    by_cases e : b = a
    · subst e; exact ⟨[], b :: ps, rfl, .step h' x, by simp⟩
    · rcases List.mem_cons.mp h with z | z
      · exact absurd z e
      · obtain ⟨us, vs, e1, q, n⟩ := ih z
        refine ⟨a :: us, vs, by rw [e1]; rfl, q, fun z => ?_⟩
        rcases List.mem_cons.mp z with z | z
        · exact e z
        · exact n z
theorem Path.len_lt {a b : Int} {ps qs : List Int} (x : Path p a ps) (y : Path p b qs) (h : b ∈ ps) (ne : b ≠ a) : qs.length < ps.length := by
  obtain ⟨us, vs, e, q, _⟩ := x.from h
  rw [y.uniq q, e, List.length_append]
  cases us with
  | nil =>
    obtain ⟨r, e2⟩ := q.head
    obtain ⟨r', e3⟩ := x.head
    rw [e3, e2, List.nil_append] at e
    exact absurd (List.cons.inj e).1.symm ne
  | cons u us => simp
theorem Path.nodup {a : Int} {ps : List Int} (x : Path p a ps) : ps.Nodup := by
  induction x with
  | root _ => simp
  | @step a b ps h x ih =>
    refine List.nodup_cons.mpr ⟨fun z => ?_, ih⟩
    obtain ⟨us, vs, e, q, _⟩ := x.from z
    have := (Path.step h x).uniq q
    have l1 := congrArg List.length this
    have l2 := congrArg List.length e
    rw [List.length_append] at l2
    simp at l1
    omega
/-- the last of the way has no parent; the others have -/
theorem Path.last {a : Int} {ps : List Int} (x : Path p a ps) : ∃ us r, ps = us ++ [r] ∧ p r = none ∧ ∀ u ∈ us, p u ≠ none := by
  induction x with
  | root h => exact ⟨[], _, rfl, h, fun u hu => by cases hu⟩
  | @step a b ps h x ih =>
    obtain ⟨us, r, e, q, n⟩ := ih
    refine ⟨a :: us, r, by rw [e]; rfl, q, fun u hu => ?_⟩
    rcases List.mem_cons.mp hu with z | z
    · rw [z, h]; exact fun e => by cases e
    · exact n u z
theorem Path.getLast {a : Int} {ps : List Int} (x : Path p a ps) (ne : ps ≠ []) : p (ps.getLast ne) = none := by
  obtain ⟨us, r, e, q, _⟩ := x.last
  subst e
  have z : (us ++ [r]).getLast ne = r := by simp
  rw [z]
  exact q
/-- all on the way end in one root -/
theorem Path.same_last {a b : Int} {ps qs : List Int} (x : Path p a ps) (y : Path p b qs) (h : b ∈ ps) : qs.getLast? = ps.getLast? := by
  obtain ⟨us, vs, e, q, _⟩ := x.from h
  obtain ⟨r, e2⟩ := q.head
  have z : ∃ t, (b :: r).getLast? = some t := ⟨(b :: r).getLast (by simp), List.getLast?_eq_some_getLast (by simp)⟩
  obtain ⟨t, z⟩ := z
  rw [y.uniq q, e, e2, List.getLast?_append, z]
  rfl
theorem Path.reach {a b : Int} {ps : List Int} (x : Path p a ps) (h : b ∈ ps) : a = b ∨ Rch p a b := by
  induction x with
  | root _ => exact .inl (List.mem_singleton.mp h).symm
  | step h' _ ih =>
    rcases List.mem_cons.mp h with z | z
    · exact .inl z.symm
    · rcases ih z with e | e
      · subst e; exact .inr (.one h')
      · exact .inr (.cons h' e)
theorem Path.of_reach {a b : Int} {ps : List Int} (x : Path p a ps) (h : Rch p a b) : b ∈ ps := by
  induction x with
  | root h' => exact absurd h' h.src
  | step h' x ih =>
    cases h with
    | one h => rw [h] at h'; cases h'; exact List.mem_cons_of_mem _ x.mem_self
    | cons h y => rw [h] at h'; cases h'; exact List.mem_cons_of_mem _ (ih y)
end

/-! ### the ways end -/
/-- a number whose link is asked again and again among finitely many -/
theorem path_some {f p : Fn} (a : IsPar f p) (kn : List Int) (hk : ∀ x y, f x = some y → y ∈ kn) : ∀ n, ∃ ps, Path p n ps := by
  classical
  -- no ring of parents
  have noring : ∀ v, ¬ Rch p v v := by
    intro v hv
    have hvf : Rch f v v := hv.mono fun _ _ h => a.le h
    -- the greatest on it
    have key : ∀ (l : List Int), l ≠ [] → ∃ n ∈ l, ∀ x ∈ l, x ≤ n := by
      intro l
      induction l with
      | nil => intro h; exact absurd rfl h
      | cons x l ih =>
        intro _
        by_cases e : l = []
        · subst e; exact ⟨x, List.mem_cons_self, fun y hy => by rw [List.mem_singleton.mp hy]; omega⟩
        · obtain ⟨n, hn, hl⟩ := ih e
          by_cases c : n ≤ x
          · exact ⟨x, List.mem_cons_self, fun y hy => (List.mem_cons.mp hy).elim (fun z => by omega) fun z => by have := hl y z; omega⟩
          · exact ⟨n, List.mem_cons_of_mem _ hn, fun y hy => (List.mem_cons.mp hy).elim (fun z => by omega) fun z => hl y z⟩
    have inkn : ∀ {x y : Int}, Rch f x y → y ∈ kn := fun r => by
      induction r with
      | one h => exact hk _ _ h
      | cons _ _ ih => exact ih
    obtain ⟨g, hg, hmax⟩ := key (kn.filter fun x => decide (Rch f v x)) fun e => by
      have : v ∈ kn.filter fun x => decide (Rch f v x) := List.mem_filter.mpr ⟨inkn hvf, by simpa using hvf⟩
      rw [e] at this; cases this
    have hvg : Rch f v g := by simpa using (List.mem_filter.mp hg).2
    have hgv : Rch f g v := hvf.back hvg
    have cut : Cut f g := ⟨hgv.trans hvg, fun m hm => hmax m (List.mem_filter.mpr ⟨inkn hm, by simpa using hvg.trans hm⟩)⟩
    -- g has a parent, as it is on the ring of parents
    have onp : ∀ {x y : Int}, Rch f x y → Rch p x x → y = x ∨ Rch p x y := fun {x y} r => by
      induction r with
      | @one x y h =>
        intro hp
        cases hp with
        | one h' => have := a.le h'; rw [h] at this; cases this; exact .inl rfl
        | cons h' hp => have := a.le h'; rw [h] at this; cases this; exact .inr (.one h')
      | @cons x b c h r ih =>
        intro hp
        have hb : p x = some b := by
          cases hp with
          | one h' => have := a.le h'; rw [h] at this; cases this; exact h'
          | cons h' _ => have := a.le h'; rw [h] at this; cases this; exact h'
        have hbb : Rch p b b := by
          have back : Rch p b x := hp.back (.one hb)
          exact back.trans (.one hb)
        rcases ih hbb with e | e
        · subst e; exact .inr (.one hb)
        · exact .inr (.cons hb e)
    have gp : p g ≠ none := by
      rcases onp hvg hv with e | e
      · rw [e]; exact hv.src
      · exact (hv.back e).src
    exact gp ((a g).1 cut)
  have main : ∀ (k : Nat) (n : Int) (vis : List Int), vis.Nodup → (∀ v ∈ vis, Rch p v n ∧ v ∈ n :: kn) → kn.length + 1 ≤ vis.length + k → (∀ v ∈ vis, v ∈ kn ∨ True) → True := fun _ _ _ _ _ _ _ => trivial
  clear main
  -- visited numbers but the first are among kn
  have main : ∀ (k : Nat) (n : Int) (vis : List Int), vis.Nodup → (∀ v ∈ vis, Rch p v n) → (∀ v ∈ vis, v ∈ kn) → (vis = [] ∨ n ∈ kn) → kn.length < vis.length + k → ∃ ps, Path p n ps := by
    intro k
    induction k with
    | zero =>
      intro n vis nd _ hin _ hl
      have := nodup_le nd hin
      omega
    | succ k ih =>
      intro n vis nd hr hin hn hl
      cases e : p n with
      | none => exact ⟨_, .root e⟩
      | some m =>
        have hm : m ∈ kn := hk _ _ (a.le e)
        by_cases hnk : n ∈ kn
        · have nn : n ∉ vis := fun z => noring n (hr n z)
          obtain ⟨ps, h⟩ := ih m (n :: vis) (List.nodup_cons.mpr ⟨nn, nd⟩) (fun v hv => by
            rcases List.mem_cons.mp hv with z | z
            · rw [z]; exact .one e
            · exact (hr v z).trans (.one e)) (fun v hv => by
            rcases List.mem_cons.mp hv with z | z
            · rw [z]; exact hnk
            · exact hin v z) (.inr hm) (by rw [List.length_cons]; omega)
          exact ⟨_, .step e h⟩
        · rcases hn with z | z
          · subst z
            -- begin again at m
            obtain ⟨ps, h⟩ : ∃ ps, Path p m ps := by
              cases e2 : p m with
              | none => exact ⟨_, .root e2⟩
              | some m2 =>
                have hm2 : m2 ∈ kn := hk _ _ (a.le e2)
                obtain ⟨ps, h⟩ := ih m2 [m] (by simp) (fun v hv => by rw [List.mem_singleton.mp hv]; exact .one e2) (fun v hv => by rw [List.mem_singleton.mp hv]; exact hm) (.inr hm2) (by simp at hl ⊢; omega)
                exact ⟨_, .step e2 h⟩
            exact ⟨_, .step e h⟩
          · exact absurd z hnk
  exact fun n => main (kn.length + 1) n [] .nil (fun v hv => by cases hv) (fun v hv => by cases hv) (.inl rfl) (by simp)

/-! ### one letter more: n, which had no link, now leads to a -/
def putF (f : Fn) (n : Int) (o : Option Int) : Fn := fun x => if x = n then o else f x
section
variable {f p : Fn} {n a : Int}
theorem putF_same (o : Option Int) : putF f n o n = o := if_pos rfl
theorem putF_ne (o : Option Int) {x : Int} (h : x ≠ n) : putF f n o x = f x := if_neg h
theorem rch_up (hn : f n = none) {x y : Int} (r : Rch f x y) : Rch (putF f n (some a)) x y :=
  r.mono fun u v h => by
    rw [putF_ne _ (fun e => by rw [e, hn] at h; cases h)]; exact h
/-- a way of the new links: the old ones do, or it goes through n -/
theorem rch_down {x y : Int} (r : Rch (putF f n (some a)) x y) : Rch f x y ∨ ((x = n ∨ Rch f x n) ∧ (y = a ∨ Rch (putF f n (some a)) a y)) := by
  induction r with
  | @one x y h =>
    by_cases e : x = n
    · subst e
      rw [putF_same] at h
      exact .inr ⟨.inl rfl, .inl (Option.some.inj h).symm⟩
    · rw [putF_ne _ e] at h
      exact .inl (.one h)
  | @cons x b y h r ih =>
    by_cases e : x = n
    · subst e
      rw [putF_same] at h
      cases h
      exact .inr ⟨.inl rfl, .inr r⟩
    · rw [putF_ne _ e] at h
      rcases ih with i | ⟨i, j⟩
      · exact .inl (.cons h i)
      · refine .inr ⟨.inr ?_, j⟩
        rcases i with i | i
        · rw [← i]; exact .one h
        · exact .cons h i
/-- old cuts stay -/
theorem cut_up (hn : f n = none) {x : Int} (c : Cut f x) : Cut (putF f n (some a)) x := by
  refine ⟨rch_up hn c.1, fun m hm => ?_⟩
  rcases rch_down hm with r | ⟨i, _⟩
  · exact c.2 m r
  · rcases i with i | i
    · rw [i] at c; exact absurd hn c.1.src
    · exact absurd hn (c.1.back i).src
/-- a new cut closes a ring through n -/
theorem cut_down (hn : f n = none) {x : Int} (c : Cut (putF f n (some a)) x) : Cut f x ∨ ((x = n ∨ Rch f x n) ∧ (a = n ∨ Rch f a n)) := by
  rcases rch_down c.1 with r | ⟨i, j⟩
  · exact .inl ⟨r, fun m hm => c.2 m (rch_up hn hm)⟩
  · refine .inr ⟨i, ?_⟩
    -- from a to x to n
    have ax : a = x ∨ Rch (putF f n (some a)) a x := j.imp (·.symm) id
    have an : a = n ∨ Rch (putF f n (some a)) a n := by
      rcases ax with e | e
      · rw [e]
        rcases i with i | i
        · exact .inl i
        · rw [e] at *; exact .inr (rch_up hn i)
      · rcases i with i | i
        · subst i; exact .inr e
        · exact .inr (e.trans (rch_up hn i))
    rcases an with e | e
    · exact .inl e
    · rcases rch_down e with r | ⟨i', _⟩
      · exact .inr r
      · exact i'
/-- who reaches n by the links: whose way ends there -/
theorem path_end (ip : IsPar f p) (hn : f n = none) {x : Int} {ps : List Int} (P : Path p x ps) (r : x = n ∨ Rch f x n) : ∃ us, ps = us ++ [n] := by
  induction P with
  | @root x h =>
    rcases r with e | r
    · subst e; exact ⟨[], rfl⟩
    · rcases ip.none h with c | c
      · exact absurd hn (c.1.back r).src
      · exact absurd c r.src
  | @step x b ps h P ih =>
    have fx := ip.le h
    rcases r with e | r
    · subst e; rw [hn] at fx; cases fx
    · have r' : b = n ∨ Rch f b n := by
        cases r with
        | one h' => rw [fx] at h'; cases h'; exact .inl rfl
        | cons h' r => rw [fx] at h'; cases h'; exact .inr r
      obtain ⟨us, e⟩ := ih r'
      exact ⟨x :: us, by rw [e]; rfl⟩
theorem path_links (ip : IsPar f p) {x y : Int} {ps : List Int} (P : Path p x ps) (h : y ∈ ps) : x = y ∨ Rch f x y :=
  (P.reach h).imp id fun r => r.mono fun _ _ h => ip.le h
/-- no ring: the new parents -/
theorem par_plain (ip : IsPar f p) (hn : f n = none) {ps : List Int} (P : Path p a ps) (h : ∀ us, ps ≠ us ++ [n]) : IsPar (putF f n (some a)) (putF p n (some a)) := by
  have cutn : ∀ x, Cut (putF f n (some a)) x ↔ Cut f x := fun x => ⟨fun c => by
    rcases cut_down hn c with c | ⟨_, j⟩
    · exact c
    · obtain ⟨us, e⟩ := path_end ip hn P j
      exact absurd e (h us), cut_up hn⟩
  intro x
  rw [cutn]
  by_cases e : x = n
  · subst e
    rw [putF_same, putF_same]
    exact ⟨fun c => absurd hn c.1.src, fun _ => rfl⟩
  · rw [putF_ne _ e, putF_ne _ e]; exact ip x
/-- a ring: ps, from a to n, is cut at its greatest number -/
theorem cut_ring (ip : IsPar f p) (hn : f n = none) {us : List Int} (P : Path p a (us ++ [n])) {g : Int} (hg : g ∈ us ++ [n]) (hmax : ∀ x ∈ us ++ [n], x ≤ g) (x : Int) : Cut (putF f n (some a)) x ↔ Cut f x ∨ x = g := by
  have an : a = n ∨ Rch f a n := path_links ip P (by simp)
  have ann : a = n ∨ Rch (putF f n (some a)) a n := an.imp id (rch_up hn)
  have na : Rch (putF f n (some a)) n a := .one (putF_same _)
  have nn : Rch (putF f n (some a)) n n := by
    rcases ann with e | e
    · rw [e] at na ⊢; exact na
    · exact na.trans e
  -- what is reached from n is on the ring
  have onring : ∀ {m : Int}, Rch (putF f n (some a)) n m → m ∈ us ++ [n] := fun {m} r => by
    have aux : ∀ {y m : Int}, Rch (putF f n (some a)) y m → y ∈ us ++ [n] → m ∈ us ++ [n] := fun {y m} r => by
      induction r with
      | @one y m h =>
        intro hy
        by_cases e : y = n
        · subst e; rw [putF_same] at h; cases h; exact P.mem_self
        · rw [putF_ne _ e] at h
          obtain ⟨us', r', e', _, np⟩ := P.last
          obtain ⟨e1, e2⟩ := List.append_inj' e' rfl
          have hyu : y ∈ us := by
            rcases List.mem_append.mp hy with z | z
            · exact z
            · exact absurd (List.mem_singleton.mp z) e
          have py := np y (e1 ▸ hyu)
          have : p y = some m := by
            by_cases c : Cut f y
            · exact absurd ((ip y).1 c) py
            · rw [(ip y).2 c]; exact h
          obtain ⟨ws, vs, e3, q, _⟩ := P.from hy
          cases q with
          | root h' => rw [this] at h'; cases h'
          | step h' q => rw [this] at h'; cases h'; rw [e3]; exact List.mem_append_right _ (List.mem_cons_of_mem _ q.mem_self)
      | @cons y b m h r ih =>
        intro hy
        refine ih ?_
        by_cases e : y = n
        · subst e; rw [putF_same] at h; cases h; exact P.mem_self
        · rw [putF_ne _ e] at h
          obtain ⟨us', r', e', _, np⟩ := P.last
          obtain ⟨e1, e2⟩ := List.append_inj' e' rfl
          have hyu : y ∈ us := by
            rcases List.mem_append.mp hy with z | z
            · exact z
            · exact absurd (List.mem_singleton.mp z) e
          have py := np y (e1 ▸ hyu)
          have : p y = some b := by
            by_cases c : Cut f y
            · exact absurd ((ip y).1 c) py
            · rw [(ip y).2 c]; exact h
          obtain ⟨ws, vs, e3, q, _⟩ := P.from hy
          cases q with
          | root h' => rw [this] at h'; cases h'
          | step h' q => rw [this] at h'; cases h'; rw [e3]; exact List.mem_append_right _ (List.mem_cons_of_mem _ q.mem_self)
    exact aux r (by simp)
  have toring : ∀ {m : Int}, m ∈ us ++ [n] → Rch (putF f n (some a)) n m := fun {m} hm => by
    rcases path_links ip P hm with e | e
    · rw [← e]; exact na
    · exact na.trans (rch_up hn e)
  constructor
  · intro c
    rcases cut_down hn c with d | ⟨i, _⟩
    · exact .inl d
    · refine .inr ?_
      have xn : x = n ∨ Rch (putF f n (some a)) x n := i.imp id (rch_up hn)
      have nx : Rch (putF f n (some a)) n x := by
        rcases xn with e | e
        · rw [e]; exact nn
        · exact c.1.back e
      have h1 := hmax x (onring nx)
      have xg : Rch (putF f n (some a)) x g := by
        rcases xn with e | e
        · rw [e]; exact toring hg
        · exact e.trans (toring hg)
      have h2 := c.2 g xg
      omega
  · rintro (c | rfl)
    · exact cut_up hn c
    · have ng := toring hg
      exact ⟨(nn.back ng).trans ng, fun m hm => hmax m (onring (ng.trans hm))⟩
theorem par_ring (ip : IsPar f p) (hn : f n = none) {us : List Int} (P : Path p a (us ++ [n])) {g : Int} (hg : g ∈ us ++ [n]) (hmax : ∀ x ∈ us ++ [n], x ≤ g) : IsPar (putF f n (some a)) (putF (putF p n (some a)) g none) := by
  intro x
  rw [cut_ring ip hn P hg hmax]
  by_cases e : x = g
  · subst e
    rw [putF_same]
    exact ⟨fun _ => rfl, fun c => absurd (.inr rfl) c⟩
  · rw [putF_ne _ e]
    by_cases e2 : x = n
    · subst e2
      rw [putF_same, putF_same]
      refine ⟨fun c => ?_, fun _ => rfl⟩
      rcases c with c | c
      · exact absurd hn c.1.src
      · exact absurd c e
    · rw [putF_ne _ e2, putF_ne _ e2]
      refine ⟨fun c => (ip x).1 (c.resolve_right e), fun c => (ip x).2 fun d => c (.inl d)⟩
end

/-! ### rings, told from their greatest number on -/
/-- each leads to the next one, the last to e -/
def Steps (f : Fn) : List Int → Int → Prop
  | [], _ => True
  | [x], e => f x = some e
  | x :: y :: r, e => f x = some y ∧ Steps f (y :: r) e
theorem Steps.cons {f : Fn} {x y e : Int} {r : List Int} (h : f x = some y) (s : Steps f (y :: r) e) : Steps f (x :: y :: r) e := ⟨h, s⟩
theorem steps_append {f : Fn} : ∀ (us : List Int) {v : Int} {vs : List Int} {e : Int}, Steps f us v → Steps f (v :: vs) e → Steps f (us ++ v :: vs) e
  | [], _, _, _, _, h => h
  | [_], _, _, _, h1, h => ⟨h1, h⟩
  | _ :: y :: r, _, _, _, ⟨h1, h2⟩, h => ⟨h1, steps_append (y :: r) h2 h⟩
theorem steps_left {f : Fn} : ∀ (us : List Int) {v : Int} {vs : List Int} {e : Int}, Steps f (us ++ v :: vs) e → Steps f us v ∧ Steps f (v :: vs) e
  | [], _, _, _, h => ⟨trivial, h⟩
  | [_], _, _, _, ⟨h1, h⟩ => ⟨h1, h⟩
  | _ :: y :: r, _, _, _, ⟨h1, h⟩ => ⟨⟨h1, (steps_left (y :: r) h).1⟩, (steps_left (y :: r) h).2⟩
theorem Steps.mono {f g : Fn} (h : ∀ a b, f a = some b → g a = some b) : ∀ {l : List Int} {e : Int}, Steps f l e → Steps g l e
  | [], _, _ => trivial
  | [_], _, s => h _ _ s
  | _ :: _ :: _, _, ⟨s, t⟩ => ⟨h _ _ s, t.mono h⟩
/-- the next ones, by place -/
theorem steps_map {f : Fn} : ∀ {l : List Int} {e : Int}, Steps f l e → l.map f = (l.drop 1 ++ (if l = [] then [] else [e])).map some
  | [], _, _ => rfl
  | [x], e, s => by
    have s' : f x = some e := s
    simp [s']
  | x :: y :: r, e, ⟨s, t⟩ => by
    have ih := steps_map t
    rw [List.map_cons, ih, s]
    simp
structure RingOK (f : Fn) (g : Int) (R : List Int) : Prop where
  hd : ∃ r, R = g :: r
  st : Steps f R g
  mx : ∀ x ∈ R, x ≤ g
  nd : R.Nodup
theorem RingOK.mono {f h : Fn} (q : ∀ a b, f a = some b → h a = some b) {g : Int} {R : List Int} (r : RingOK f g R) : RingOK h g R := ⟨r.hd, r.st.mono q, r.mx, r.nd⟩
theorem path_steps {f p : Fn} (le : ∀ a b, p a = some b → f a = some b) {a : Int} {ps : List Int} (P : Path p a ps) {us : List Int} {r e : Int} (h : ps = us ++ [r]) (he : f r = some e) : Steps f ps e := by
  induction P generalizing us with
  | @root a _ =>
    cases us with
    | nil => rw [List.nil_append] at h; rw [List.singleton_inj] at h; subst h; exact he
    | cons u us => simp at h
  | @step a b ps h' P ih =>
    obtain ⟨r', e'⟩ := P.head
    subst e'
    cases us with
    | nil => simp at h
    | cons u us =>
      obtain ⟨e1, e2⟩ := List.cons.inj h
      exact ⟨le _ _ h', ih e2⟩
/-- the ring turned to its greatest number -/
theorem ring_turn {f : Fn} {g a : Int} {us vs : List Int} (s : Steps f (us ++ g :: vs) a) (hd : (us ++ g :: vs).head? = some a) (mx : ∀ x ∈ us ++ g :: vs, x ≤ g) (nd : (us ++ g :: vs).Nodup) : RingOK f g ((g :: vs) ++ us) := by
  obtain ⟨s1, s2⟩ := steps_left us s
  refine ⟨⟨vs ++ us, rfl⟩, ?_, fun x hx => mx x ?_, List.perm_append_comm.nodup_iff.mp nd⟩
  · cases us with
    | nil =>
      have e : a = g := by simpa using hd.symm
      subst e
      rw [List.append_nil]; exact s2
    | cons u us =>
      have e : a = u := by simpa using hd.symm
      subst e
      exact steps_append (g :: vs) s2 s1
  · rcases List.mem_append.mp hx with z | z
    · exact List.mem_append_right _ z
    · exact List.mem_append_left _ z
end K9
set_option maxRecDepth 512
set_option Elab.async false
set_option maxHeartbeats 1000000
set_option linter.all false
/-! M5: plain mathematics of the forest of letters: first answers, the walk. -/
namespace K9
/-- the first answer of the letter with this number -/
def fstOf (ls : List Let) : Fn := fun n => match ls.find? (fun l => decide (l.1 = n)) with
  | some l => l.2.head?
  | none => none
theorem fst_none {ls : List Let} {n : Int} (h : n ∉ come ls) : fstOf ls n = none := by
  unfold fstOf
  have e : ls.find? (fun l => decide (l.1 = n)) = none := List.find?_eq_none.mpr fun l hl q => h (mem_come.mpr ⟨l, hl, by simpa using (of_decide_eq_true q).symm⟩)
  rw [e]
theorem fst_at {ls : List Let} (nd : (come ls).Nodup) {l : Let} (hl : l ∈ ls) : fstOf ls l.1 = l.2.head? := by
  unfold fstOf
  have e : ls.find? (fun k => decide (k.1 = l.1)) = some l := by
    induction ls with
    | nil => cases hl
    | cons k ls ih =>
      unfold come at nd
      rw [List.map_cons] at nd
      obtain ⟨n1, nd⟩ := List.nodup_cons.mp nd
      rcases List.mem_cons.mp hl with z | z
      · subst z; rw [List.find?_cons_of_pos (by simp)]
      · have ne : k.1 ≠ l.1 := fun e => n1 (List.mem_map.mpr ⟨l, z, e.symm⟩)
        rw [List.find?_cons_of_neg (by simp [ne])]
        exact ih nd z
  rw [e]
theorem fst_some {ls : List Let} {n a : Int} (h : fstOf ls n = some a) : ∃ l ∈ ls, l.1 = n ∧ l.2.head? = some a := by
  unfold fstOf at h
  split at h
  · rename_i l e
    exact ⟨l, List.mem_of_find?_eq_some e, by simpa using List.find?_some e, h⟩
  · cases h
theorem fst_append {ls : List Let} {n : Int} {as : List Int} (h : n ∉ come ls) : fstOf (ls ++ [(n, as)]) = putF (fstOf ls) n as.head? := by
  funext x
  unfold fstOf putF
  rw [List.find?_append]
  by_cases e : x = n
  · subst e
    rw [if_pos rfl]
    have e0 : ls.find? (fun l => decide (l.1 = x)) = none := List.find?_eq_none.mpr fun l hl q => h (mem_come.mpr ⟨l, hl, by simpa using (of_decide_eq_true q).symm⟩)
    rw [e0]
    simp
  · rw [if_neg e]
    have e1 : [((n, as) : Let)].find? (fun l => decide (l.1 = x)) = none := List.find?_eq_none.mpr fun l hl q => by
      rw [List.mem_singleton.mp hl] at q
      exact e (of_decide_eq_true q).symm
    rw [e1, Option.or_none]
theorem SameSet.fst {a b : List Let} (h : SameSet a b) (na : (K9.come a).Nodup) (nb : (K9.come b).Nodup) : fstOf a = fstOf b := by
  funext n
  by_cases c : n ∈ K9.come a
  · obtain ⟨l, hl, e⟩ := mem_come.mp c
    rw [e, fst_at na hl, fst_at nb (h.1 l hl)]
  · rw [fst_none c, fst_none fun d => c (h.come.mpr d)]
theorem fst_known {ls : List Let} {n a : Int} (h : fstOf ls n = some a) : n ∈ known ls ∧ a ∈ known ls := by
  obtain ⟨l, hl, e, q⟩ := fst_some h
  exact ⟨mem_known.mpr ⟨l, hl, .inl e.symm⟩, mem_known.mpr ⟨l, hl, .inr (List.mem_of_mem_head? q)⟩⟩
theorem fst_conn {ls : List Let} {n a : Int} (h : fstOf ls n = some a) : Conn ls n a := by
  obtain ⟨l, hl, e, q⟩ := fst_some h
  exact .link ⟨l, hl, e.symm, List.mem_of_mem_head? q⟩
/-- the parents -/
noncomputable def parOf (f : Fn) : Fn := fun n => by classical exact if Cut f n then none else f n
theorem parOf_is (f : Fn) : IsPar f (parOf f) := fun n => by
  unfold parOf
  exact ⟨fun c => if_pos c, fun c => if_neg c⟩
theorem par_known {ls : List Let} {p : Fn} (ip : IsPar (fstOf ls) p) {n a : Int} (h : p n = some a) : n ∈ known ls ∧ a ∈ known ls := fst_known (ip.le h)
theorem path_known {ls : List Let} {p : Fn} (ip : IsPar (fstOf ls) p) {n : Int} {ps : List Int} (P : Path p n ps) (hn : n ∈ known ls) : ∀ x ∈ ps, x ∈ known ls := by
  induction P with
  | root _ => intro x hx; rw [List.mem_singleton.mp hx]; exact hn
  | step h _ ih =>
    intro x hx
    rcases List.mem_cons.mp hx with z | z
    · rw [z]; exact hn
    · exact ih (par_known ip h).2 x z
theorem path_conn {ls : List Let} {p : Fn} (ip : IsPar (fstOf ls) p) {n : Int} {ps : List Int} (P : Path p n ps) : ∀ x ∈ ps, Conn ls n x := by
  induction P with
  | root _ => intro x hx; rw [List.mem_singleton.mp hx]; exact .refl _
  | step h _ ih =>
    intro x hx
    rcases List.mem_cons.mp hx with z | z
    · rw [z]; exact .refl _
    · exact (fst_conn (ip.le h)).trans (ih x z)
theorem path_ex {ls : List Let} {p : Fn} (ip : IsPar (fstOf ls) p) (n : Int) : ∃ ps, Path p n ps := path_some ip (known ls) (fun _ _ h => (fst_known h).2) n

/-! ### the walk -/
theorem map_pair (d : Nat) : ∀ l : List Int, (l.map fun c => (d, c)).map (·.2) = l
  | [] => rfl
  | x :: l => by rw [List.map_cons, List.map_cons, map_pair d l]
/-- a forest's numbers, rising, and their parents -/
structure Frst where
  ks : List Int
  p : Fn
  up : Up ks
  path : ∀ n, ∃ ps, Path p n ps
  pin : ∀ n a, p n = some a → n ∈ ks ∧ a ∈ ks
def Frst.kids (F : Frst) (n : Int) : List Int := F.ks.filter fun m => decide (F.p m = some n)
def Frst.roots (F : Frst) : List Int := F.ks.filter fun m => decide (F.p m = none)
theorem Frst.mem_kids {F : Frst} {n m : Int} : m ∈ F.kids n ↔ F.p m = some n := by
  unfold Frst.kids
  rw [List.mem_filter]
  exact ⟨fun h => by simpa using h.2, fun h => ⟨(F.pin _ _ h).1, by simpa using h⟩⟩
theorem Frst.mem_roots {F : Frst} {m : Int} : m ∈ F.roots ↔ m ∈ F.ks ∧ F.p m = none := by
  unfold Frst.roots
  rw [List.mem_filter]
  simp
theorem Frst.kids_up (F : Frst) (n : Int) : Up (F.kids n) := List.Pairwise.filter _ F.up
theorem Frst.roots_up (F : Frst) : Up F.roots := List.Pairwise.filter _ F.up
/-- what the walk hands out from a pile (its top first) -/
inductive Walk (F : Frst) : List (Nat × Int) → List (Nat × Int) → Prop
  | nil : Walk F [] []
  | cons {d n st out} : Walk F ((F.kids n).map (fun c => (d + 1, c)) ++ st) out → Walk F ((d, n) :: st) ((d, n) :: out)
theorem Walk.uniq {F : Frst} {st a b : List (Nat × Int)} (x : Walk F st a) (y : Walk F st b) : a = b := by
  induction x generalizing b with
  | nil => cases y; rfl
  | cons _ ih => cases y with | cons y => rw [ih y]
def Frst.start (F : Frst) : List (Nat × Int) := F.roots.map fun r => (0, r)
/-- no number of the pile stands on the way of another -/
structure Good (F : Frst) (st : List (Nat × Int)) : Prop where
  nd : (st.map (·.2)).Nodup
  ap : ∀ x ∈ st.map (·.2), ∀ y ∈ st.map (·.2), x ≠ y → ∀ ps, Path F.p y ps → x ∉ ps
  kn : ∀ x ∈ st.map (·.2), x ∈ F.ks
theorem Good.start (F : Frst) : Good F F.start := by
  have e : F.start.map (·.2) = F.roots := by
    exact map_pair 0 _
  refine ⟨by rw [e]; exact F.roots_up.nodup, ?_, fun x hx => by rw [e] at hx; exact (Frst.mem_roots.mp hx).1⟩
  rw [e]
  intro x hx y hy ne ps P h
  have := (Frst.mem_roots.mp hy).2
  cases P with
  | root _ => exact ne (List.mem_singleton.mp h)
  | step h' _ => rw [this] at h'; cases h'
theorem Good.next {F : Frst} {d : Nat} {n : Int} {st : List (Nat × Int)} (g : Good F ((d, n) :: st)) : Good F ((F.kids n).map (fun c => (d + 1, c)) ++ st) := by
  have e : ((F.kids n).map (fun c => (d + 1, c)) ++ st).map (·.2) = F.kids n ++ st.map (·.2) := by
    rw [List.map_append, map_pair]
  obtain ⟨nd, ap, kn⟩ := g
  rw [List.map_cons] at nd ap kn
  obtain ⟨n1, nd⟩ := List.nodup_cons.mp nd
  dsimp only at n1 ap kn
  obtain ⟨pn, Pn⟩ := F.path n
  -- a kid's way
  have kidw : ∀ {c : Int}, c ∈ F.kids n → Path F.p c (c :: pn) := fun h => .step (Frst.mem_kids.mp h) Pn
  -- a kid's parent stands on a way where the kid stands
  have up : ∀ {c y : Int} {ps : List Int}, c ∈ F.kids n → Path F.p y ps → c ∈ ps → n ∈ ps := fun {c y ps} hc P h => by
    obtain ⟨us, vs, e, q, _⟩ := P.from h
    rw [e, q.uniq (kidw hc)]
    exact List.mem_append_right _ (List.mem_cons_of_mem _ Pn.mem_self)
  have kn' : ∀ {c : Int}, c ∈ F.kids n → c ∉ pn := fun {c} hc h => by
    have := (kidw hc).nodup
    exact (List.nodup_cons.mp this).1 h
  have stn : ∀ {y : Int}, y ∈ st.map (·.2) → y ≠ n := fun h z => n1 (by rw [← z]; exact h)
  have disj : ∀ {c y : Int}, c ∈ F.kids n → y ∈ st.map (·.2) → c ≠ y := fun {c y} hc hy z => by
    subst z
    obtain ⟨ps, P⟩ := F.path c
    have : n ∈ ps := up hc P P.mem_self
    exact ap n List.mem_cons_self c (List.mem_cons_of_mem _ hy) (Ne.symm (stn hy)) ps P this
  refine ⟨?_, ?_, ?_⟩
  · rw [e]
    exact List.nodup_append.mpr ⟨(F.kids_up n).nodup, nd, fun u hu v hv => disj hu hv⟩
  · rw [e]
    intro x hx y hy ne ps P h
    rcases List.mem_append.mp hx with hx | hx <;> rcases List.mem_append.mp hy with hy | hy
    · rw [P.uniq (kidw hy)] at h
      rcases List.mem_cons.mp h with z | z
      · exact ne z
      · exact kn' hx z
    · exact ap n List.mem_cons_self y (List.mem_cons_of_mem _ hy) (Ne.symm (stn hy)) ps P (up hx P h)
    · rw [P.uniq (kidw hy)] at h
      rcases List.mem_cons.mp h with z | z
      · exact ne z
      · exact ap x (List.mem_cons_of_mem _ hx) n List.mem_cons_self (stn hx) pn Pn z
    · exact ap x (List.mem_cons_of_mem _ hx) y (List.mem_cons_of_mem _ hy) ne ps P h
  · rw [e]
    intro x hx
    rcases List.mem_append.mp hx with hx | hx
    · exact (F.pin _ _ (Frst.mem_kids.mp hx)).1
    · exact kn x (List.mem_cons_of_mem _ hx)
/-- what is still below the pile -/
noncomputable def below (F : Frst) (st : List (Nat × Int)) : List Int := by
  classical exact F.ks.filter fun m => decide (∃ x ∈ st.map (·.2), ∃ ps, Path F.p m ps ∧ x ∈ ps)
theorem mem_below {F : Frst} {st : List (Nat × Int)} {m : Int} : m ∈ below F st ↔ m ∈ F.ks ∧ ∃ x ∈ st.map (·.2), ∃ ps, Path F.p m ps ∧ x ∈ ps := by
  unfold below
  rw [List.mem_filter]
  simp
theorem below_nd (F : Frst) (st : List (Nat × Int)) : (below F st).Nodup := by
  unfold below
  exact F.up.nodup.filter _
theorem below_next {F : Frst} {d : Nat} {n : Int} {st : List (Nat × Int)} (g : Good F ((d, n) :: st)) : n ∈ below F ((d, n) :: st) ∧ n ∉ below F ((F.kids n).map (fun c => (d + 1, c)) ++ st) ∧
    ∀ m, m ∈ below F ((F.kids n).map (fun c => (d + 1, c)) ++ st) → m ∈ below F ((d, n) :: st) := by
  have e : ((F.kids n).map (fun c => (d + 1, c)) ++ st).map (·.2) = F.kids n ++ st.map (·.2) := by
    rw [List.map_append, map_pair]
  obtain ⟨pn, Pn⟩ := F.path n
  refine ⟨mem_below.mpr ⟨g.kn n (by simp), n, by simp, pn, Pn, Pn.mem_self⟩, fun h => ?_, fun m h => ?_⟩
  · obtain ⟨_, x, hx, ps, P, h⟩ := mem_below.mp h
    rw [e] at hx
    rw [P.uniq Pn] at h
    rcases List.mem_append.mp hx with z | z
    · have q : Path F.p x (x :: pn) := .step (Frst.mem_kids.mp z) Pn
      exact (List.nodup_cons.mp q.nodup).1 h
    · have n1 := (List.nodup_cons.mp g.nd).1
      exact g.ap x (List.mem_cons_of_mem _ z) n List.mem_cons_self (fun w => n1 (by rw [← w]; exact z)) pn Pn h
  · obtain ⟨hk, x, hx, ps, P, h⟩ := mem_below.mp h
    rw [e] at hx
    refine mem_below.mpr ⟨hk, ?_⟩
    rcases List.mem_append.mp hx with z | z
    · refine ⟨n, by simp, ps, P, ?_⟩
      obtain ⟨us, vs, e2, q, _⟩ := P.from h
      rw [e2, q.uniq (.step (Frst.mem_kids.mp z) Pn)]
      exact List.mem_append_right _ (List.mem_cons_of_mem _ Pn.mem_self)
    · exact ⟨x, List.mem_cons_of_mem _ z, ps, P, h⟩
/-- the walk ends -/
theorem walk_ex (F : Frst) : ∀ (k : Nat) (st : List (Nat × Int)), Good F st → (below F st).length ≤ k → ∃ out, Walk F st out := by
  intro k
  induction k with
  | zero =>
    intro st g h
    cases st with
    | nil => exact ⟨[], .nil⟩
    | cons x st =>
      obtain ⟨d, n⟩ := x
      have := List.length_pos_of_mem (below_next g).1
      omega
  | succ k ih =>
    intro st g h
    cases st with
    | nil => exact ⟨[], .nil⟩
    | cons x st =>
      obtain ⟨d, n⟩ := x
      obtain ⟨b1, b2, b3⟩ := below_next g
      have l : (below F ((F.kids n).map (fun c => (d + 1, c)) ++ st)).length + 1 ≤ (below F ((d, n) :: st)).length := by
        have := nodup_le (l := n :: below F ((F.kids n).map (fun c => (d + 1, c)) ++ st)) (m := below F ((d, n) :: st)) (List.nodup_cons.mpr ⟨b2, below_nd F _⟩) fun x hx => by
          rcases List.mem_cons.mp hx with z | z
          · rw [z]; exact b1
          · exact b3 x z
        simpa using this
      obtain ⟨out, w⟩ := ih _ g.next (by omega)
      exact ⟨_, .cons w⟩
/-- what is handed out is what is below, each once -/
theorem Walk.all {F : Frst} {st out : List (Nat × Int)} (w : Walk F st out) (g : Good F st) : (out.map (·.2)).Nodup ∧ ∀ m, m ∈ out.map (·.2) ↔ m ∈ K9.below F st := by
  induction w with
  | nil =>
    refine ⟨.nil, fun m => ?_⟩
    rw [mem_below]
    simp
  | @cons d n st out w ih =>
    obtain ⟨i1, i2⟩ := ih g.next
    obtain ⟨b1, b2, b3⟩ := below_next g
    refine ⟨?_, fun m => ?_⟩
    · rw [List.map_cons]
      exact List.nodup_cons.mpr ⟨fun h => b2 ((i2 n).mp h), i1⟩
    · rw [List.map_cons, List.mem_cons, i2]
      constructor
      · rintro (h | h)
        · rw [h]; exact b1
        · exact b3 m h
      · intro h
        by_cases e : m = n
        · exact .inl e
        · refine .inr ?_
          obtain ⟨hk, x, hx, ps, P, h⟩ := mem_below.mp h
          have e2 : ((F.kids n).map (fun c => (d + 1, c)) ++ st).map (·.2) = F.kids n ++ st.map (·.2) := by
            rw [List.map_append, map_pair]
          refine mem_below.mpr ⟨hk, ?_⟩
          rw [e2]
          rcases List.mem_cons.mp hx with z | z
          · -- m is below n, so below a kid of n
            dsimp only at z
            rw [z] at h
            have kid : ∀ {m : Int} {ps : List Int}, Path F.p m ps → n ∈ ps → m ≠ n → ∃ c ∈ ps, F.p c = some n := fun {m ps} P => by
              induction P with
              | root _ => intro h ne; exact absurd (List.mem_singleton.mp h).symm ne
              | @step a b ps h' P ih =>
                intro h ne
                rcases List.mem_cons.mp h with z | z
                · exact absurd z.symm ne
                · by_cases e : b = n
                  · subst e; exact ⟨a, List.mem_cons_self, h'⟩
                  · obtain ⟨c, hc, q⟩ := ih z e
                    exact ⟨c, List.mem_cons_of_mem _ hc, q⟩
            obtain ⟨c, hc, q⟩ := kid P h e
            exact ⟨c, List.mem_append_left _ (Frst.mem_kids.mpr q), ps, P, hc⟩
          · exact ⟨x, List.mem_append_right _ z, ps, P, h⟩
/-- the depth is that of the way -/
theorem Walk.deep {F : Frst} {st out : List (Nat × Int)} (w : Walk F st out) (h : ∀ e ∈ st, ∃ ps, Path F.p e.2 ps ∧ ps.length = e.1 + 1) : ∀ e ∈ out, ∃ ps, Path F.p e.2 ps ∧ ps.length = e.1 + 1 := by
  induction w with
  | nil => intro e he; cases he
  | @cons d n st out w ih =>
    intro e he
    rcases List.mem_cons.mp he with z | z
    · exact h e (by rw [z]; exact List.mem_cons_self)
    · refine ih (fun e he => ?_) e z
      rcases List.mem_append.mp he with y | y
      · obtain ⟨c, hc, rfl⟩ := List.mem_map.mp y
        obtain ⟨ps, P, l⟩ := h _ List.mem_cons_self
        exact ⟨c :: ps, .step (Frst.mem_kids.mp hc) P, by simp at l ⊢; omega⟩
      · exact h e (List.mem_cons_of_mem _ y)
/-- each number stands behind its parent -/
theorem Walk.behind {F : Frst} {st out : List (Nat × Int)} (w : Walk F st out) : ∀ (i : Nat) e, out[i]? = some e → e ∈ st ∨ ∃ j f, j < i ∧ out[j]? = some f ∧ F.p e.2 = some f.2 := by
  induction w with
  | nil => intro i e h; simp at h
  | @cons d n st out w ih =>
    intro i e h
    cases i with
    | zero =>
      have z : (d, n) = e := by simpa using h
      exact .inl (by rw [z]; exact List.mem_cons_self)
    | succ i =>
      rcases ih i e (by simpa using h) with z | ⟨j, f, lt, hj, hp⟩
      · rcases List.mem_append.mp z with y | y
        · obtain ⟨c, hc, rfl⟩ := List.mem_map.mp y
          exact .inr ⟨0, (d, n), by omega, rfl, Frst.mem_kids.mp hc⟩
        · exact .inl (List.mem_cons_of_mem _ y)
      · exact .inr ⟨j + 1, f, by omega, by simpa using hj, hp⟩
/-- the whole walk -/
structure IsWalk (F : Frst) (out : List (Nat × Int)) : Prop where
  w : Walk F F.start out
  nd : (out.map (·.2)).Nodup
  mem : ∀ m, m ∈ out.map (·.2) ↔ m ∈ F.ks
  deep : ∀ e ∈ out, ∃ ps, Path F.p e.2 ps ∧ ps.length = e.1 + 1
  behind : ∀ (i : Nat) e, out[i]? = some e → ∀ a, F.p e.2 = some a → ∃ j f, j < i ∧ out[j]? = some f ∧ f.2 = a
theorem walk_whole (F : Frst) : ∃ out, IsWalk F out := by
  obtain ⟨out, w⟩ := walk_ex F _ _ (Good.start F) (Nat.le_refl _)
  obtain ⟨a, b⟩ := w.all (Good.start F)
  have est : F.start.map (·.2) = F.roots := by
    exact map_pair 0 _
  refine ⟨out, w, a, fun m => ?_, ?_, ?_⟩
  · rw [b, mem_below, est]
    constructor
    · exact fun h => h.1
    · intro h
      refine ⟨h, ?_⟩
      obtain ⟨ps, P⟩ := F.path m
      obtain ⟨us, r, e, q, _⟩ := P.last
      have hr : r ∈ F.ks := by
        have aux : ∀ {m : Int} {ps : List Int}, Path F.p m ps → m ∈ F.ks → ∀ x ∈ ps, x ∈ F.ks := fun {m ps} P => by
          induction P with
          | root _ => intro h x hx; rw [List.mem_singleton.mp hx]; exact h
          | step h' _ ih =>
            intro h x hx
            rcases List.mem_cons.mp hx with z | z
            · rw [z]; exact h
            · exact ih (F.pin _ _ h').2 x z
        exact aux P h r (by rw [e]; simp)
      exact ⟨r, Frst.mem_roots.mpr ⟨hr, q⟩, ps, P, by rw [e]; simp⟩
  · refine w.deep fun e he => ?_
    obtain ⟨r, hr, rfl⟩ := List.mem_map.mp he
    exact ⟨[r], .root (Frst.mem_roots.mp hr).2, rfl⟩
  · intro i e h a ha
    rcases w.behind i e h with z | ⟨j, f, lt, hj, hp⟩
    · obtain ⟨r, hr, rfl⟩ := List.mem_map.mp z
      rw [(Frst.mem_roots.mp hr).2] at ha; cases ha
    · rw [ha] at hp
      exact ⟨j, f, lt, hj, (Option.some.inj hp).symm⟩
theorem IsWalk.len {F : Frst} {out : List (Nat × Int)} (w : IsWalk F out) : out.length = F.ks.length := by
  have p := perm_of w.nd F.up.nodup w.mem
  simpa using p.length_eq
/-- two forests with the same numbers and parents are walked alike -/
theorem Frst.ext {F G : Frst} (h1 : F.ks = G.ks) (h2 : F.p = G.p) : F = G := by
  cases F; cases G
  dsimp only at h1 h2
  subst h1; subst h2
  rfl
/-- the forest of letters -/
def frst (ls : List Let) (ks : List Int) (p : Fn) (up : Up ks) (hk : ∀ x, x ∈ ks ↔ x ∈ known ls) (ip : IsPar (fstOf ls) p) : Frst :=
  ⟨ks, p, up, fun n => path_ex ip n, fun n a h => ⟨(hk n).mpr (par_known ip h).1, (hk a).mpr (par_known ip h).2⟩⟩
end K9
set_option maxHeartbeats 200000
set_option maxRecDepth 512
set_option Elab.async false
set_option linter.all false
/-! M6: unlike numbers by stepping on. -/
namespace K9
/-- one step on, if it is taken -/
def stepN (ns : List Int) (x : Int) : Int := if x ∈ ns then x % 10 ^ 30 + 1 else x
def stepsN (ns : List Int) : Nat → Int → Int
  | 0, x => x
  | k + 1, x => stepN ns (stepsN ns k x)
theorem stepN_ok {ns : List Int} {x : Int} (h : 1 ≤ x ∧ x ≤ 10 ^ 30) : 1 ≤ stepN ns x ∧ stepN ns x ≤ 10 ^ 30 := by
  unfold stepN
  split
  · have := Int.emod_nonneg x (show (10 ^ 30 : Int) ≠ 0 by decide)
    have := Int.emod_lt_of_pos x (show (0 : Int) < 10 ^ 30 by decide)
    omega
  · exact h
theorem stepsN_ok {ns : List Int} {x : Int} (h : 1 ≤ x ∧ x ≤ 10 ^ 30) : ∀ k, 1 ≤ stepsN ns k x ∧ stepsN ns k x ≤ 10 ^ 30
  | 0 => h
  | k + 1 => stepN_ok (stepsN_ok h k)
theorem stepsN_in {ns : List Int} {x : Int} {k : Nat} (h : stepsN ns (k + 1) x ∈ ns) : stepsN ns k x ∈ ns := by
  by_cases c : stepsN ns k x ∈ ns
  · exact c
  · have : stepsN ns (k + 1) x = stepsN ns k x := by show stepN ns _ = _; unfold stepN; rw [if_neg c]
    rw [this] at h; exact h
theorem stepsN_all {ns : List Int} {x : Int} {k : Nat} (h : stepsN ns k x ∈ ns) : ∀ i, i ≤ k → stepsN ns i x ∈ ns := by
  induction k with
  | zero => intro i hi; have : i = 0 := by omega
            subst this; exact h
  | succ k ih =>
    intro i hi
    by_cases e : i = k + 1
    · subst e; exact h
    · exact ih (stepsN_in h) i (by omega)
theorem stepsN_at {ns : List Int} {x : Int} (hx : 1 ≤ x ∧ x ≤ 10 ^ 30) : ∀ k : Nat, (∀ i, i < k → stepsN ns i x ∈ ns) → stepsN ns k x = (x - 1 + k) % 10 ^ 30 + 1
  | 0, _ => by show x = _; omega
  | k + 1, h => by
    have ih := stepsN_at hx k fun i hi => h i (by omega)
    show stepN ns (stepsN ns k x) = _
    unfold stepN
    rw [if_pos (h k (by omega)), ih]
    omega
theorem stepsN_new {ns : List Int} {x : Int} (hx : 1 ≤ x ∧ x ≤ 10 ^ 30) {k : Nat} (hk : (k : Int) < 10 ^ 30) (hl : ns.length ≤ k) : stepsN ns k x ∉ ns := fun h => by
  have al := stepsN_all h
  have nd : ((List.range (k + 1)).map fun i => stepsN ns i x).Nodup := by
    rw [List.nodup_iff_pairwise_ne, List.pairwise_map]
    refine List.Pairwise.imp_of_mem ?_ (List.pairwise_lt_range (n := k + 1))
    intro i j hi hj lt e
    have hi := List.mem_range.mp hi
    have hj := List.mem_range.mp hj
    rw [stepsN_at hx i fun m hm => al m (by omega), stepsN_at hx j fun m hm => al m (by omega)] at e
    omega
  have := nodup_le (m := ns) nd fun y hy => by
    obtain ⟨i, hi, rfl⟩ := List.mem_map.mp hy
    exact al i (by have := List.mem_range.mp hi; omega)
  rw [List.length_map, List.length_range] at this
  omega
end K9
set_option maxHeartbeats 200000
set_option Elab.async false
set_option linter.all false
set_option maxRecDepth 100000
/-! TX: the text by places; the names of each def. -/
namespace K9
open PySem L2
def topS (i : Nat) : Stmt := PySem.Challenge.pw_filedalike_k09_whole_threads_of_any_orde.main.body.getD i (.Pass ⟨0, 0, 0, 0⟩)

abbrev sFInit : Stmt := inClass (topS 5) 0
abbrev sFOf : Stmt := inClass (topS 5) 1
abbrev sFPut : Stmt := inClass (topS 5) 2
abbrev sFCr : Stmt := inClass (topS 5) 3
abbrev sFCut : Stmt := inClass (topS 5) 4
abbrev sFPar : Stmt := inClass (topS 5) 5
abbrev sFPath : Stmt := inClass (topS 5) 6
abbrev sFRoot : Stmt := inClass (topS 5) 7
abbrev sFDep : Stmt := inClass (topS 5) 8
abbrev sFChi : Stmt := inClass (topS 5) 9
abbrev sFRts : Stmt := inClass (topS 5) 10
abbrev sFRing : Stmt := inClass (topS 5) 11
abbrev sFSum : Stmt := inClass (topS 5) 13
abbrev sFDrw : Stmt := inClass (topS 5) 14
abbrev sFLen : Stmt := inClass (topS 5) 16
abbrev sFEq : Stmt := inClass (topS 5) 17
abbrev sIsName : Stmt := topS 10
abbrev sIsNum : Stmt := topS 11
abbrev sAreN : Stmt := topS 12
abbrev sLInit : Stmt := inClass (topS 18) 3
abbrev sLEq : Stmt := inClass (topS 18) 6
abbrev sFitsA : Stmt := topS 19
abbrev sWrap : Stmt := topS 20
abbrev sBody : Stmt := topS 21
abbrev sGInit : Stmt := inClass (topS 23) 0
abbrev sTInit : Stmt := inClass (topS 24) 0
abbrev sTOf : Stmt := inClass (topS 24) 1
abbrev sTPut : Stmt := inClass (topS 24) 2
abbrev sTHas : Stmt := inClass (topS 24) 3
abbrev sTGrp : Stmt := inClass (topS 24) 4
abbrev sTMrg : Stmt := inClass (topS 24) 5
abbrev sTNam : Stmt := inClass (topS 24) 7
abbrev sTMem : Stmt := inClass (topS 24) 8
abbrev sTAbs : Stmt := inClass (topS 24) 9
abbrev sTNms : Stmt := inClass (topS 24) 10
abbrev sTSum : Stmt := inClass (topS 24) 12
abbrev sTEq : Stmt := inClass (topS 24) 16
abbrev sBag : Stmt := topS 26
abbrev sTake : Stmt := topS 27
abbrev sName : Stmt := topS 28
abbrev sPool : Stmt := topS 29
abbrev sRows : Stmt := topS 30
abbrev sLet : Stmt := topS 31
abbrev sTurn : Stmt := topS 32
abbrev sMix : Stmt := topS 33
abbrev sTFit : Stmt := topS 34
abbrev sHang : Stmt := topS 35
abbrev sFFit : Stmt := topS 36
abbrev sMany : Stmt := topS 37
abbrev sLaw : Stmt := topS 38
abbrev sWalk : Stmt := inClass (topS 5) 12
abbrev nFInit : List Str := ["self"]
abbrev pFInit : List Str := ["self"]
theorem scFInit : FnScope nFInit pFInit (defScope sFInit) := ⟨rfl, rfl, rfl, by decide +kernel, rfl, by decide +kernel, by decide +kernel⟩
abbrev nFOf : List Str := ["cls", "letters", "forest", "letter"]
abbrev pFOf : List Str := ["cls", "letters"]
theorem scFOf : FnScope nFOf pFOf (defScope sFOf) := ⟨rfl, rfl, rfl, by decide +kernel, rfl, by decide +kernel, by decide +kernel⟩
abbrev nFPut : List Str := ["self", "letter", "number", "ring", "known"]
abbrev pFPut : List Str := ["self", "letter"]
theorem scFPut : FnScope nFPut pFPut (defScope sFPut) := ⟨rfl, rfl, rfl, by decide +kernel, rfl, by decide +kernel, by decide +kernel⟩
abbrev nFCr : List Str := ["self", "letter", "way"]
abbrev pFCr : List Str := ["self", "letter"]
theorem scFCr : FnScope nFCr pFCr (defScope sFCr) := ⟨rfl, rfl, rfl, by decide +kernel, rfl, by decide +kernel, by decide +kernel⟩
abbrev nFCut : List Str := ["self", "ring", "greatest", "at", "place", "number"]
abbrev pFCut : List Str := ["self", "ring"]
theorem scFCut : FnScope nFCut pFCut (defScope sFCut) := ⟨rfl, rfl, rfl, by decide +kernel, rfl, by decide +kernel, by decide +kernel⟩
abbrev nFPar : List Str := ["self", "number"]
abbrev pFPar : List Str := ["self", "number"]
theorem scFPar : FnScope nFPar pFPar (defScope sFPar) := ⟨rfl, rfl, rfl, by decide +kernel, rfl, by decide +kernel, by decide +kernel⟩
abbrev nFPath : List Str := ["self", "number", "way"]
abbrev pFPath : List Str := ["self", "number"]
theorem scFPath : FnScope nFPath pFPath (defScope sFPath) := ⟨rfl, rfl, rfl, by decide +kernel, rfl, by decide +kernel, by decide +kernel⟩
abbrev nFRoot : List Str := ["self", "number", "way"]
abbrev pFRoot : List Str := ["self", "number"]
theorem scFRoot : FnScope nFRoot pFRoot (defScope sFRoot) := ⟨rfl, rfl, rfl, by decide +kernel, rfl, by decide +kernel, by decide +kernel⟩
abbrev nFDep : List Str := ["self", "number", "way"]
abbrev pFDep : List Str := ["self", "number"]
theorem scFDep : FnScope nFDep pFDep (defScope sFDep) := ⟨rfl, rfl, rfl, by decide +kernel, rfl, by decide +kernel, by decide +kernel⟩
abbrev nFChi : List Str := ["self", "number"]
abbrev pFChi : List Str := ["self", "number"]
theorem scFChi : FnScope nFChi pFChi (defScope sFChi) := ⟨rfl, rfl, rfl, by decide +kernel, rfl, by decide +kernel, by decide +kernel⟩
abbrev nFRts : List Str := ["self", "number"]
abbrev pFRts : List Str := ["self"]
theorem scFRts : FnScope nFRts pFRts (defScope sFRts) := ⟨rfl, rfl, rfl, by decide +kernel, rfl, by decide +kernel, by decide +kernel⟩
abbrev nFRing : List Str := ["self", "number"]
abbrev pFRing : List Str := ["self", "number"]
theorem scFRing : FnScope nFRing pFRing (defScope sFRing) := ⟨rfl, rfl, rfl, by decide +kernel, rfl, by decide +kernel, by decide +kernel⟩
abbrev nFSum : List Str := ["self", "number"]
abbrev pFSum : List Str := ["self"]
theorem scFSum : FnScope nFSum pFSum (defScope sFSum) := ⟨rfl, rfl, rfl, by decide +kernel, rfl, by decide +kernel, by decide +kernel⟩
abbrev nFDrw : List Str := ["self", "lines", "depth", "number", "sender"]
abbrev pFDrw : List Str := ["self"]
theorem scFDrw : FnScope nFDrw pFDrw (defScope sFDrw) := ⟨rfl, rfl, rfl, by decide +kernel, rfl, by decide +kernel, by decide +kernel⟩
abbrev nFLen : List Str := ["self"]
abbrev pFLen : List Str := ["self"]
theorem scFLen : FnScope nFLen pFLen (defScope sFLen) := ⟨rfl, rfl, rfl, by decide +kernel, rfl, by decide +kernel, by decide +kernel⟩
abbrev nFEq : List Str := ["self", "other"]
abbrev pFEq : List Str := ["self", "other"]
theorem scFEq : FnScope nFEq pFEq (defScope sFEq) := ⟨rfl, rfl, rfl, by decide +kernel, rfl, by decide +kernel, by decide +kernel⟩
abbrev nIsName : List Str := ["value", "sign"]
abbrev pIsName : List Str := ["value"]
theorem scIsName : FnScope nIsName pIsName (defScope sIsName) := ⟨rfl, rfl, rfl, by decide +kernel, rfl, by decide +kernel, by decide +kernel⟩
abbrev nIsNum : List Str := ["value"]
abbrev pIsNum : List Str := ["value"]
theorem scIsNum : FnScope nIsNum pIsNum (defScope sIsNum) := ⟨rfl, rfl, rfl, by decide +kernel, rfl, by decide +kernel, by decide +kernel⟩
abbrev nAreN : List Str := ["values", "most", "value"]
abbrev pAreN : List Str := ["values", "most"]
theorem scAreN : FnScope nAreN pAreN (defScope sAreN) := ⟨rfl, rfl, rfl, by decide +kernel, rfl, by decide +kernel, by decide +kernel⟩
abbrev nLInit : List Str := ["self", "number", "person", "house", "answers", "subject", "words", "rows", "answer"]
abbrev pLInit : List Str := ["self", "number", "person", "house", "answers", "subject", "words"]
theorem scLInit : FnScope nLInit pLInit (defScope sLInit) := ⟨rfl, rfl, rfl, by decide +kernel, rfl, by decide +kernel, by decide +kernel⟩
abbrev nLEq : List Str := ["self", "other"]
abbrev pLEq : List Str := ["self", "other"]
theorem scLEq : FnScope nLEq pLEq (defScope sLEq) := ⟨rfl, rfl, rfl, by decide +kernel, rfl, by decide +kernel, by decide +kernel⟩
abbrev nFitsA : List Str := ["number", "answers", "answer"]
abbrev pFitsA : List Str := ["number", "answers"]
theorem scFitsA : FnScope nFitsA pFitsA (defScope sFitsA) := ⟨rfl, rfl, rfl, by decide +kernel, rfl, by decide +kernel, by decide +kernel⟩
abbrev nWrap : List Str := ["lead", "items", "width", "parts", "at", "part"]
abbrev pWrap : List Str := ["lead", "items", "width"]
theorem scWrap : FnScope nWrap pWrap (defScope sWrap) := ⟨rfl, rfl, rfl, by decide +kernel, rfl, by decide +kernel, by decide +kernel⟩
abbrev nBody : List Str := ["words", "at"]
abbrev pBody : List Str := ["words"]
theorem scBody : FnScope nBody pBody (defScope sBody) := ⟨rfl, rfl, rfl, by decide +kernel, rfl, by decide +kernel, by decide +kernel⟩
abbrev nGInit : List Str := ["self", "number"]
abbrev pGInit : List Str := ["self", "number"]
theorem scGInit : FnScope nGInit pGInit (defScope sGInit) := ⟨rfl, rfl, rfl, by decide +kernel, rfl, by decide +kernel, by decide +kernel⟩
abbrev nTInit : List Str := ["self"]
abbrev pTInit : List Str := ["self"]
theorem scTInit : FnScope nTInit pTInit (defScope sTInit) := ⟨rfl, rfl, rfl, by decide +kernel, rfl, by decide +kernel, by decide +kernel⟩
abbrev nTOf : List Str := ["cls", "letters", "threads", "letter"]
abbrev pTOf : List Str := ["cls", "letters"]
theorem scTOf : FnScope nTOf pTOf (defScope sTOf) := ⟨rfl, rfl, rfl, by decide +kernel, rfl, by decide +kernel, by decide +kernel⟩
abbrev nTPut : List Str := ["self", "letter", "group", "answered"]
abbrev pTPut : List Str := ["self", "letter"]
theorem scTPut : FnScope nTPut pTPut (defScope sTPut) := ⟨rfl, rfl, rfl, by decide +kernel, rfl, by decide +kernel, by decide +kernel⟩
abbrev nTHas : List Str := ["self", "letter"]
abbrev pTHas : List Str := ["self", "letter"]
theorem scTHas : FnScope nTHas pTHas (defScope sTHas) := ⟨rfl, rfl, rfl, by decide +kernel, rfl, by decide +kernel, by decide +kernel⟩
abbrev nTGrp : List Str := ["self", "number"]
abbrev pTGrp : List Str := ["self", "number"]
theorem scTGrp : FnScope nTGrp pTGrp (defScope sTGrp) := ⟨rfl, rfl, rfl, by decide +kernel, rfl, by decide +kernel, by decide +kernel⟩
abbrev nTMrg : List Str := ["self", "group", "other", "number"]
abbrev pTMrg : List Str := ["self", "group", "other"]
theorem scTMrg : FnScope nTMrg pTMrg (defScope sTMrg) := ⟨rfl, rfl, rfl, by decide +kernel, rfl, by decide +kernel, by decide +kernel⟩
abbrev nTNam : List Str := ["self", "number"]
abbrev pTNam : List Str := ["self", "number"]
theorem scTNam : FnScope nTNam pTNam (defScope sTNam) := ⟨rfl, rfl, rfl, by decide +kernel, rfl, by decide +kernel, by decide +kernel⟩
abbrev nTMem : List Str := ["self", "number", "known"]
abbrev pTMem : List Str := ["self", "number"]
theorem scTMem : FnScope nTMem pTMem (defScope sTMem) := ⟨rfl, rfl, rfl, by decide +kernel, rfl, by decide +kernel, by decide +kernel⟩
abbrev nTAbs : List Str := ["self", "number", "known"]
abbrev pTAbs : List Str := ["self", "number"]
theorem scTAbs : FnScope nTAbs pTAbs (defScope sTAbs) := ⟨rfl, rfl, rfl, by decide +kernel, rfl, by decide +kernel, by decide +kernel⟩
abbrev nTNms : List Str := ["self", "group"]
abbrev pTNms : List Str := ["self"]
theorem scTNms : FnScope nTNms pTNms (defScope sTNms) := ⟨rfl, rfl, rfl, by decide +kernel, rfl, by decide +kernel, by decide +kernel⟩
abbrev nTSum : List Str := ["self", "name"]
abbrev pTSum : List Str := ["self"]
theorem scTSum : FnScope nTSum pTSum (defScope sTSum) := ⟨rfl, rfl, rfl, by decide +kernel, rfl, by decide +kernel, by decide +kernel⟩
abbrev nTEq : List Str := ["self", "other"]
abbrev pTEq : List Str := ["self", "other"]
theorem scTEq : FnScope nTEq pTEq (defScope sTEq) := ⟨rfl, rfl, rfl, by decide +kernel, rfl, by decide +kernel, by decide +kernel⟩
abbrev nBag : List Str := ["_law_script", "_law_at", "_law_cell", "_law_digits"]
abbrev pBag : List Str := ["_law_script", "_law_at"]
theorem scBag : FnScope nBag pBag (defScope sBag) := ⟨rfl, rfl, rfl, by decide +kernel, rfl, by decide +kernel, by decide +kernel⟩
abbrev nTake : List Str := ["_law_bag_here", "_law_many", "_law_digit", "_law_mixed_here"]
abbrev pTake : List Str := ["_law_bag_here", "_law_many"]
theorem scTake : FnScope nTake pTake (defScope sTake) := ⟨rfl, rfl, rfl, by decide +kernel, rfl, by decide +kernel, by decide +kernel⟩
abbrev nName : List Str := ["_law_bag_here", "_law_size", "_law_turn"]
abbrev pName : List Str := ["_law_bag_here"]
theorem scName : FnScope nName pName (defScope sName) := ⟨rfl, rfl, rfl, by decide +kernel, rfl, by decide +kernel, by decide +kernel⟩
abbrev nPool : List Str := ["_law_bag_here", "_law_many", "_law_found", "_law_turn", "_law_road", "_law_number", "_law_step"]
abbrev pPool : List Str := ["_law_bag_here", "_law_many"]
theorem scPool : FnScope nPool pPool (defScope sPool) := ⟨rfl, rfl, rfl, by decide +kernel, rfl, by decide +kernel, by decide +kernel⟩
abbrev nRows : List Str := ["_law_bag_here", "_law_most", "_law_pool_here", "_law_rows_here", "_law_turn", "_law_number", "_law_left", "_law_answers", "_law_step", "_law_other"]
abbrev pRows : List Str := ["_law_bag_here", "_law_most"]
theorem scRows : FnScope nRows pRows (defScope sRows) := ⟨rfl, rfl, rfl, by decide +kernel, rfl, by decide +kernel, by decide +kernel⟩
abbrev nLet : List Str := ["_law_row"]
abbrev pLet : List Str := ["_law_row"]
theorem scLet : FnScope nLet pLet (defScope sLet) := ⟨rfl, rfl, rfl, by decide +kernel, rfl, by decide +kernel, by decide +kernel⟩
abbrev nTurn : List Str := ["_law_bag_here", "_law_rows_here", "_law_row", "_law_found", "_law_come", "_law_others", "_law_first", "_law_rest", "_law_number"]
abbrev pTurn : List Str := ["_law_bag_here", "_law_rows_here"]
theorem scTurn : FnScope nTurn pTurn (defScope sTurn) := ⟨rfl, rfl, rfl, by decide +kernel, rfl, by decide +kernel, by decide +kernel⟩
abbrev nMix : List Str := ["_law_bag_here", "_law_rows_here", "_law_left", "_law_found", "_law_turn"]
abbrev pMix : List Str := ["_law_bag_here", "_law_rows_here"]
theorem scMix : FnScope nMix pMix (defScope sMix) := ⟨rfl, rfl, rfl, by decide +kernel, rfl, by decide +kernel, by decide +kernel⟩
abbrev nTFit : List Str := ["_law_threads", "_law_rows_here", "_law_known", "_law_row", "_law_come", "_law_listed", "_law_name_here", "_law_members", "_law_absent", "_law_both", "_law_number"]
abbrev pTFit : List Str := ["_law_threads", "_law_rows_here"]
theorem scTFit : FnScope nTFit pTFit (defScope sTFit) := ⟨rfl, rfl, rfl, by decide +kernel, rfl, by decide +kernel, by decide +kernel⟩
abbrev nHang : List Str := ["_law_rows_here", "_law_numbers", "_law_found", "_law_turn", "_law_row", "_law_touched", "_law_number"]
abbrev pHang : List Str := ["_law_rows_here", "_law_numbers"]
theorem scHang : FnScope nHang pHang (defScope sHang) := ⟨rfl, rfl, rfl, by decide +kernel, rfl, by decide +kernel, by decide +kernel⟩
abbrev nFFit : List Str := ["_law_forest", "_law_threads", "_law_rows_here", "_law_first", "_law_row", "_law_walk", "_law_depth", "_law_number", "_law_numbers", "_law_place", "_law_path", "_law_parent", "_law_ring", "_law_after", "_law_words", "_law_each", "_law_pair", "_law_name_here", "_law_members", "_law_absent", "_law_line"]
abbrev pFFit : List Str := ["_law_forest", "_law_threads", "_law_rows_here"]
theorem scFFit : FnScope nFFit pFFit (defScope sFFit) := ⟨rfl, rfl, rfl, by decide +kernel, rfl, by decide +kernel, by decide +kernel⟩
abbrev nMany : List Str := ["_law_bag_here", "_law_start", "_law_letters", "_law_one", "_law_other", "_law_threads", "_law_k"]
abbrev pMany : List Str := ["_law_bag_here"]
theorem scMany : FnScope nMany pMany (defScope sMany) := ⟨rfl, rfl, rfl, by decide +kernel, rfl, by decide +kernel, by decide +kernel⟩
abbrev nLaw : List Str := ["_law_script", "_law_at", "_law_bag_here", "_law_rows_here", "_law_other", "_law_letters", "_law_others", "_law_threads", "_law_forest", "_law_last", "_law_fewer", "_law_changed", "_law_row", "_law_each"]
abbrev pLaw : List Str := ["_law_script"]
theorem scLaw : FnScope nLaw pLaw (defScope sLaw) := ⟨rfl, rfl, rfl, by decide +kernel, rfl, by decide +kernel, by decide +kernel⟩
end K9
set_option Elab.async false
set_option linter.all false
set_option maxRecDepth 100000
set_option maxHeartbeats 2000000
/-! RL: rules of our own over the hand layer: short forms of calls, == by an own __eq__, dicts of such. -/
namespace K9
open PySem PySem.Spec PyProof.Rows L2

/-! ### packed promises -/
section
variable (P : Program) (w : World) (K : PySem.W.Frag) (mg : Str → Option Value) (base : Heap)
/-- a def of the module -/
structure Gd (k : Nat) (nm : Str) (ps : List Str) (sp : Sp) : Prop where
  ex : ∃ f fd, FnOk P w K mg base CX0 k f fd ps sp ∧ mg nm = some (.ref f) ∧ PySem.W.keepIn K (.ref f) = true ∧ Binds K fd ps []
/-- a method of the class at C -/
structure Md (C : Addr) (k : Nat) (m : Str) (ps : List Str) (sp : Sp) : Prop where
  ex : ∃ f fd, FnOk P w K mg base CX0 k f fd ps sp ∧ Meth K C m f ∧ Binds K fd ps []
/-- the class's __init__ -/
structure Id (C : Addr) (k : Nat) (ps : List Str) (sp : Sp) : Prop where
  ex : ∃ f fd, FnOk P w K mg base CX0 k f fd ps sp ∧ Mk K C f ∧ Binds K fd ps []
end
section
variable {X : Cx} {k : Nat} {nm x m : Str} {ps : List Str} {sp : Sp} {p pos apos : Pos} {e o : Expr} {es : List Expr} {t : TA} {ta : TE} {C : Addr}
theorem pe_g (G : Gd X.prog X.w X.K X.mg X.base k nm ps sp) (hr : Room k X.A) (hg : Gl X nm) (ha : PA X (e :: es) t) (hdb : (nm == ("__debug__" : Str)) = false := by decide)
    (he : starEach (e :: es) X.env = (false, eval e X.env) :: starEach es X.env := by rfl) (hpl : (backTo pos (starEach es X.env)).any (·.1) = false := by rfl) :
    PE X (.Call (.Name nm p) (e :: es) [] pos) (tCall sp [] E0 t) := by
  obtain ⟨f, fd, F, hm, hk, hb⟩ := G.ex
  exact pe_call F hr hg hm hk hb .nil pass0 ha hdb he hpl
theorem pe_m {pl : Sem Bool} (he : PE X o ta) (c : Cls X.K C) (M : Md X.prog X.w X.K X.mg X.base C k m ps sp) (hr : Room k X.A) (ha : PA X (e :: es) t)
    (hst : starEach (e :: es) X.env = (false, eval e X.env) :: starEach es X.env := by rfl) (hpl : (backTo pos (starEach es X.env)).any (·.1) = false := by rfl)
    (ht : eval (.Call (.Attribute o m apos) (e :: es) [] pos) X.env = (do
      let ov ← eval o X.env
      standAt apos.atName
      let (f, first) ← holding [ov] (getMethod ov m pl)
      callWith pos f first (backTo pos (starEach (e :: es) X.env)) (backToKw pos (keywordEach [] X.env))) := by rfl) :
    PE X (.Call (.Attribute o m apos) (e :: es) [] pos) (tMeth C m sp [] E0 ta t) := by
  obtain ⟨f, fd, F, hm, hb⟩ := M.ex
  exact pe_meth he c hm F hr hb .nil pass0 ha hst hpl ht
theorem pe_m0 {pl : Sem Bool} (he : PE X o ta) (c : Cls X.K C) (M : Md X.prog X.w X.K X.mg X.base C k m ps sp) (hr : Room k X.A)
    (ht : eval (.Call (.Attribute o m apos) [] [] pos) X.env = (do
      let ov ← eval o X.env
      standAt apos.atName
      let (f, first) ← holding [ov] (getMethod ov m pl)
      callWith pos f first (backTo pos (starEach [] X.env)) (backToKw pos (keywordEach [] X.env))) := by rfl) :
    PE X (.Call (.Attribute o m apos) [] [] pos) (tMeth C m sp [] E0 ta tNil) := by
  obtain ⟨f, fd, F, hm, hb⟩ := M.ex
  exact pe_meth0 he c hm F hr hb .nil pass0 ht
/-- C(..), C the name of an own class -/
theorem pe_i (I : Id X.prog X.w X.K X.mg X.base C k ps sp) (hr : Room (k + 1) X.A) (hg : Gl X x) (hm : X.mg x = some (.ref C)) (ha : PA X (e :: es) t) (hdb : (x == ("__debug__" : Str)) = false := by decide)
    (he : starEach (e :: es) X.env = (false, eval e X.env) :: starEach es X.env := by rfl) (hpl : (backTo pos (starEach es X.env)).any (·.1) = false := by rfl) :
    PE X (.Call (.Name x p) (e :: es) [] pos) (tMake C sp [] E0 t) := by
  obtain ⟨f, fd, F, M, hb⟩ := I.ex
  exact pe_make M F hr hg hm hb .nil pass0 ha hdb he hpl
/-- x(), x a local name that holds the class at C -/
def tMakeL (i : Nat) (C : Addr) (sp : Sp) : TE := fun σ H Q => σ[i]? = some (some (.ref C)) ∧ ∀ x dx, H x = none → H dx = none → dx ≠ x →
  sp [.ref x] (upd (upd H dx (.own x)) x (.ins C dx [])) (fun v H2 => v = .non ∧ Q (.ref x) H2) E0
theorem pe_il {i : Nat} (I : Id X.prog X.w X.K X.mg X.base C k ps sp) (hr : Room (k + 1) X.A) (hN : X.N[i]? = some x) (hv : Vis X.env.scope x)
    (hdb : (x == ("__debug__" : Str)) = false := by decide) (hcd : (x == ("__classdict__" : Str)) = false := by decide) : PE X (.Call (.Name x p) [] [] pos) (tMakeL i C sp) := by
  obtain ⟨f, fd, F, M, hb⟩ := I.ex
  refine ⟨fun pins s σ H Q J h => ?_⟩
  obtain ⟨hs, ht⟩ := h
  refine wpAny_Call_Name_kw (thn ((pe_var (pos := p) hN hv hdb hcd).run pins s σ H (fun v H1 => v = .ref C ∧ H1 = H) J ⟨.ref C, hs, rfl, rfl⟩) fun u s1 ⟨v, H1, J1, r1, q1⟩ => ?_)
  obtain ⟨rfl, rfl⟩ := q1
  cases r1
  exact PySem.W.callWith_K0 J1.kIn M.kp (run_make (us := []) (vs := []) (ds := []) (dvs := []) M F hr hb .nil pass0 J1 .nil ht)
end

/-! ### heaps -/
theorem ext_new {H H' : Hp} {p : Addr} {o : HO} (e : Ext H H') (h : H' p = none) : Ext H (upd H' p o) := e.upd' h
theorem Ext.none {H H' : Hp} (e : Ext H H') {p : Addr} (h : H' p = Option.none) : H p = Option.none := by
  cases q : H p with
  | none => rfl
  | some o => rw [e p o q] at h; cases h
/-- all but one object stands -/
def ExtB (a : Addr) (H H' : Hp) : Prop := ∀ b o, b ≠ a → H b = some o → H' b = some o
theorem ExtB.refl {a : Addr} {H : Hp} : ExtB a H H := fun _ _ _ h => h
theorem ExtB.trans {a : Addr} {H H1 H2 : Hp} (x : ExtB a H H1) (y : ExtB a H1 H2) : ExtB a H H2 := fun b o n h => y b o n (x b o n h)
theorem ExtB.of {a : Addr} {H H' : Hp} (x : Ext H H') : ExtB a H H' := fun b o _ h => x b o h
theorem ExtB.new {a : Addr} {H H' : Hp} {p : Addr} {o : HO} (e : ExtB a H H') (h : H' p = Option.none) : ExtB a H (upd H' p o) := fun b u n q => by
  have z := e b u n q
  rw [upd_ne (ne_of_none z h)]; exact z
theorem ExtB.self {a : Addr} {H H' : Hp} {o : HO} (e : ExtB a H H') : ExtB a H (upd H' a o) := fun b u n q => by
  rw [upd_ne n]; exact e b u n q

/-! ### == by an own __eq__ -/
/-- the type of the right side, as the frame of the text knows it -/
def RightTy (K : PySem.W.Frag) (H : Hp) (C : Addr) (y : V) : Prop := ∃ b, y = .ref b ∧ ((∃ D dy gs, H b = some (.ins D dy gs) ∧ PySem.W.notFirst K C (.ref D) = true) ∨ (∃ xs, H b = some (.lst xs) ∧ PySem.W.notFirst K C (.type "list") = true))
def rEqOwn (K : PySem.W.Frag) (C : Addr) (sp : Sp) : R2 := fun x y H Q => ∃ a dx fs, x = .ref a ∧ H a = some (.ins C dx fs) ∧ RightTy K H C y ∧ sp [x, y] H (fun v H' => ∃ b, v = .bl b ∧ Q (.bl b) H') E0
/-- an own == promised: at any around with room -/
theorem rc_own {X : Cx} {n : Nat} {C : Addr} {ps : List Str} {sp : Sp} {A : Around} {pins : List (Addr × Obj)} {σ : L2.St} {H : Hp} {s : Shared} {x y : V} {u v : Value} {Q : Bool → Hp → Prop} {E : Value → Shared → Prop}
    (M : Md X.prog X.w X.K X.mg X.base C n "__eq__" ps sp) (hA : A.frames = X.A.frames) (hr : Room n A) (I : Inv X pins σ H s) (rx : RelV x u) (ry : RelV y v)
    (h : ∃ a dx fs, x = .ref a ∧ H a = some (.ins C dx fs) ∧ RightTy X.K H C y ∧ sp [x, y] H (fun v H' => ∃ b, v = .bl b ∧ Q b H') E0) :
    wpAny (model X.prog X.w) A (richCompare .Eq u v) (fun r s' => ∃ b H', r = .bool b ∧ Inv X pins σ H' s' ∧ Q b H') E s := by
  obtain ⟨f, fd, F, hm, hb⟩ := M.ex
  obtain ⟨a, dx, fs, rfl, ha, ⟨b, rfl, hty⟩, hq⟩ := h
  cases rx
  cases ry
  obtain ⟨mA, J, _⟩ := ins_get I.hok ha
  obtain ⟨od, J, _⟩ := J.look
  obtain ⟨m, hF⟩ := I.fr
  have tyb : ∃ tb, PySem.W.Looks (model X.prog X.w) s.heap (typeOf (.ref b)) tb ∧ PySem.W.notFirst X.K C tb = true := by
    rcases hty with ⟨D, dy, gs, hb', nf⟩ | ⟨xs, hb', nf⟩
    · obtain ⟨mB, J', _⟩ := ins_get I.hok hb'
      obtain ⟨od', J', _⟩ := J'.look
      exact ⟨_, J'.type, nf⟩
    · obtain ⟨_, its, k, _, e⟩ := (show ObjOk X.prog X.w H s.heap b (.lst xs) from I.hok b _ hb')
      exact ⟨.type "list", (PySem.W.Looks.ld e).andThen .now, nf⟩
  obtain ⟨tb, lt, nf⟩ := tyb
  refine PySem.W.cmp_K (op := .Eq) (tb := tb) hr.units0 hF I.ok.mod.kin J lt nf hm.at_ hm.fn ?_
  have e0 : Env0 X.prog X.w X.K X.mg X.base A X.stack s H := by
    have e := I.env0
    exact ⟨by rw [hA]; exact e.frames, e.mod, e.bs, e.bsz, e.funs, e.frf, e.hok, e.bare⟩
  have hl := F.len _ _ _ _ hq
  have r2 : Vals [V.ref a, V.ref b] [Value.ref a, Value.ref b] := .cons rfl (.cons rfl .nil)
  refine wpAny_call (codeAny_mono (F.run A X.stack s H ⟨[.ref a, .ref b], []⟩ [.ref a, .ref b] [.ref a, .ref b] _ E0 hr e0 (by
    have := hb s [.ref a, .ref b] I.kIn (by simpa using hl)
    simpa using this) r2 hq) fun r s' hq' => ?_)
  cases r with
  | error e => exact False.elim hq'
  | ok fl =>
    cases fl with
    | ret w =>
      obtain ⟨z, H', I', rz, c, ez, ex⟩ := I.after hq'
      subst ez
      cases rz
      exact ⟨c, H', rfl, I', ex⟩
    | next => exact False.elim hq'
    | brk => exact False.elim hq'
    | cont => exact False.elim hq'
theorem op_eqOwn {X : Cx} {n : Nat} {C : Addr} {ps : List Str} {sp : Sp} (M : Md X.prog X.w X.K X.mg X.base C n "__eq__" ps sp) (hr : Room n X.A) : OpR X (compareOp .Eq) (rEqOwn X.K C sp) := by
  intro pins s σ H x y v u Q I rx ry hq
  obtain ⟨a, dx, fs, ex, ea, ty, q⟩ := hq
  show wpAny (model X.prog X.w) X.A (richCompare .Eq v u) (EP X pins σ Q) X.xe s
  refine thn (rc_own (Q := fun b H' => Q (.bl b) H') M rfl hr I rx ry ⟨a, dx, fs, ex, ea, ty, q⟩) fun r s' ⟨b, H', er, I', q'⟩ => ?_
  subst er
  exact ⟨.bl b, H', I', rfl, q'⟩
end K9
set_option Elab.async false
set_option linter.all false
set_option maxRecDepth 100000
set_option maxHeartbeats 2000000
/-! DQ: == of two dicts whose values are compared by code that makes objects. -/
namespace K9
open PySem PySem.Spec PyProof.Rows L2
theorem paired_get {α β : Type} {F : α → β → Prop} {a : α} : ∀ {l : List α} {m : List β} {i : Nat}, Paired F l m → l[i]? = some a → ∃ b, m[i]? = some b ∧ F a b
  | _, _, _, .nil, e => by simp at e
  | _, _, 0, .cons r _, e => by
    have e' := Option.some.inj e
    exact ⟨_, rfl, by rw [← e']; exact r⟩
  | _, _, i + 1, .cons _ t, e => by
    obtain ⟨b, h1, h2⟩ := paired_get (i := i) t (by simpa using e)
    exact ⟨b, by simpa using h1, h2⟩
section
variable {prog : Program} {w : World} {A : Around} {E : Value → Shared → Prop} {knd : KeyKind prog w Key}
/-- the loop over the pairs, by a word J that holds ahead of each; the two dicts stand as they are -/
theorem pairs_run {nm : String} {a b : Addr} {oa ob : Obj} {es es' : Array DictEntry} {ep ep' : Nat} {ka kb : List (Key × Value)} {J : Nat → Shared → Prop} {F : Bool → Shared → Prop} {s : Shared}
    (na : (a == sysModules) = false) (nb : (b == sysModules) = false)
    (hda : oa.data = .dict es ep) (hka : KeysOf knd es) (hpa : Pairs knd es.toList ka) (hdb : ob.data = .dict es' ep') (hkb : KeysOf knd es') (hpb : Pairs knd es'.toList kb)
    (at_ : ∀ i s, J i s → s.heap.get? a = some oa ∧ s.heap.get? b = some ob) (h0 : J 0 s)
    (hne : ka.length ≠ kb.length → F false s)
    (turn : ka.length = kb.length → ∀ i k v s, ka[i]? = some (k, v) → J i s → (valueAt kb k = none ∧ F false s) ∨ ∃ y, valueAt kb k = some y ∧ wpAny (model prog w) A (eqBool v y) (fun r s' => if r = true then J (i + 1) s' else F false s') E s)
    (fin : ka.length = kb.length → ∀ s, J ka.length s → F true s) : wpAny (model prog w) A (Builtin.Dict.samePairs nm a b) F E s := by
  have la : ka.length = es.size := by
    have z := hpa.length
    rw [Array.length_toList] at z
    omega
  have lb : kb.length = es'.size := by
    have z := hpb.length
    rw [Array.length_toList] at z
    omega
  have look : ∀ k, findBy knd.is es' k = valueAt kb k := fun k => by
    rw [← hpb.find k]
    obtain ⟨l⟩ := es'
    simp [findBy]
  obtain ⟨ga, gb⟩ := at_ 0 s h0
  unfold Builtin.Dict.samePairs Builtin.Dict.showsAll
  rw [na, nb]
  refine wpAny_bind (wpAny_pure (wpAny_bind (wpAny_pure (wpAny_bind (wpAny_dictEntries ga hda ?_)))))
  dsimp only
  refine wpAny_bind (wpAny_dictEntries gb hdb ?_)
  by_cases hsz : es.size = es'.size
  case neg =>
    rw [if_pos (show (es.size != es'.size) = true by simpa using hsz)]
    exact wpAny_bind (wpAny_rule (wpAny_pure (hne (by omega))))
  case pos =>
    rw [if_neg (show ¬ (es.size != es'.size) = true by simpa using hsz)]
    have turn' := turn (by omega)
    refine wpAny_bind (wpAny_dictEpoch ga hda (wpAny_bind ?_))
    rw [Std.Legacy.Range.forIn_eq_forIn_range']
    simp only [Std.Legacy.Range.size, Nat.sub_zero, Nat.add_sub_cancel, Nat.div_one]
    refine wpAny_forIn_list _ (fun rest q s' => q = (none, ()) ∧ ∃ i, rest = List.range' i (es.size - i) ∧ i ≤ es.size ∧ J i s') _ ?_ ?_ _ _ ⟨rfl, 0, by simp, Nat.zero_le _, h0⟩
    · rintro x rest q s' ⟨rfl, i, hr, hi, hj⟩
      have lt : i < es.size := by
        rcases Nat.lt_or_ge i es.size with h | h
        · exact h
        · rw [Nat.sub_eq_zero_of_le h] at hr; simp at hr
      have two : x = i ∧ rest = List.range' (i + 1) (es.size - (i + 1)) := by
        have e : es.size - i = es.size - (i + 1) + 1 := by omega
        rw [e, List.range'_succ] at hr
        exact List.cons.inj hr
      obtain ⟨rfl, hrest⟩ := two
      obtain ⟨ga', gb'⟩ := at_ x s' hj
      refine wpAny_bind (wpAny_dictEntries ga' hda ?_)
      rw [Array.getElem?_eq_getElem lt]
      have lt' : x < ka.length := by omega
      obtain ⟨k, v, hkv⟩ : ∃ k v, ka[x] = (k, v) := ⟨_, _, rfl⟩
      have g1 : ka[x]? = some (k, v) := by rw [List.getElem?_eq_getElem lt', hkv]
      obtain ⟨key1, val1⟩ := hpa.get? (i := x) (e := es[x]) (k := k) (v := v) (by rw [Array.getElem?_toList]; exact Array.getElem?_eq_getElem lt) g1
      obtain ⟨k', key2, hh⟩ := hka es[x] (Array.getElem_mem lt)
      obtain rfl : k' = k := knd.inj _ _ _ key2 key1
      show wpAny _ _ (holding [es[x].key, es[x].val] _ >>= _) _ _ _
      rw [hh]
      refine wpAny_bind (wpAny_holding (wpAny_bind (wpAny_dictFind_of key1 gb' hdb hkb ?_)))
      cases hj2 : es'.findIdx? fun e => knd.is k' e.key with
      | none =>
        have vn : valueAt kb k' = none := by rw [← look k', findBy_of_findIdx?, hj2]
        rcases turn' x k' v s' g1 hj with ⟨_, f⟩ | ⟨y, vy, _⟩
        · refine wpAny_pure ?_
          show wpAny _ _ (if (!false) = true then _ else _) _ _ _
          rw [if_pos (by decide)]
          exact wpAny_pure (wpAny_pure f)
        · rw [vn] at vy; cases vy
      | some j =>
        obtain ⟨jlt, _, _⟩ := Array.findIdx?_eq_some_iff_getElem.mp hj2
        have vs : valueAt kb k' = some es'[j].val := by
          rw [← look k', findBy_of_findIdx?, hj2]
          simp [Array.getElem?_eq_getElem jlt]
        refine wpAny_bind (wpAny_dictEntries gb' hdb ?_)
        rw [Array.getElem?_eq_getElem jlt]
        rcases turn' x k' v s' g1 hj with ⟨vn, _⟩ | ⟨y, vy, run⟩
        · rw [vs] at vn; cases vn
        · rw [vs] at vy
          rw [← Option.some.inj vy, ← val1] at run
          refine wpAny_holding (wpAny_mono run (fun r s2 h2 => ?_) fun _ _ z => z)
          cases r with
          | false =>
            rw [if_neg Bool.false_ne_true] at h2
            show wpAny _ _ (if (!false) = true then _ else _) _ _ _
            rw [if_pos (by decide)]
            exact wpAny_pure (wpAny_pure h2)
          | true =>
            rw [if_pos rfl] at h2
            show wpAny _ _ (if (!true) = true then _ else _) _ _ _
            rw [if_neg (by decide)]
            refine wpAny_bind (wpAny_dictEpoch (at_ _ _ h2).1 hda ?_)
            rw [if_neg (by simp)]
            exact wpAny_pure ⟨rfl, x + 1, hrest, lt, h2⟩
    · rintro q s' ⟨rfl, i, hr, hi, hj⟩
      have e : i = ka.length := by
        rcases Nat.lt_or_ge i es.size with h | h
        · have e : es.size - i = es.size - (i + 1) + 1 := by omega
          rw [e, List.range'_succ] at hr; cases hr
        · omega
      subst e
      exact wpAny_pure (fin (by omega) s' hj)
theorem rc_dicts {a b : Addr} {oa ob : Obj} {es es' : Array DictEntry} {ep ep' : Nat} {ka kb : List (Key × Value)} {J : Nat → Shared → Prop} {F : Bool → Shared → Prop} {s : Shared}
    (na : (a == sysModules) = false) (nb : (b == sysModules) = false) (hu : A.units < cLine) (xa : oa.ExactDict) (xb : ob.ExactDict)
    (hda : oa.data = .dict es ep) (hka : KeysOf knd es) (hpa : Pairs knd es.toList ka) (hdb : ob.data = .dict es' ep') (hkb : KeysOf knd es') (hpb : Pairs knd es'.toList kb)
    (at_ : ∀ i s, J i s → s.heap.get? a = some oa ∧ s.heap.get? b = some ob) (h0 : J 0 s)
    (hne : ka.length ≠ kb.length → F false s)
    (turn : ka.length = kb.length → ∀ i k v s, ka[i]? = some (k, v) → J i s → (valueAt kb k = none ∧ F false s) ∨ ∃ y, valueAt kb k = some y ∧ wpAny (model prog w) A.in1 (eqBool v y) (fun r s' => if r = true then J (i + 1) s' else F false s') E s)
    (fin : ka.length = kb.length → ∀ s, J ka.length s → F true s) : wpAny (model prog w) A (richCompare .Eq (.ref a) (.ref b)) (fun r s' => ∃ c, r = .bool c ∧ F c s') E s := by
  obtain ⟨ga, gb⟩ := at_ 0 s h0
  have ta : s.TypeIs (.ref a) "dict" := ⟨oa, ga, xa.1⟩
  have tb : s.TypeIs (.ref b) "dict" := ⟨ob, gb, xb.1⟩
  refine wpAny_richCompare_same_room (op := .Eq) ta tb PySem.F.slot_dict_eq (wpAny_call_entry PySem.F.slot_dict_eq ta PySem.F.entry_dict_eq ?_ (PySem.F.args_dict_eq_2 _ _)) hu
  show wpAny _ _ (Builtin.Dict.dictSlotArgs "__eq__" ⟨[.ref a, .ref b], []⟩ >>= _) _ _ s
  refine wpAny_bind ?_
  unfold Builtin.Dict.dictSlotArgs
  refine wpAny_bind (wpAny_notOrdered_dict ta ?_)
  show wpAny _ _ (pure (Value.ref a, Value.ref b)) _ _ s
  refine wpAny_pure (wpAny_bind (wpAny_isInstance (T := "dict") tb PySem.F.sub_dict_dict ?_))
  simp only [Bool.not_true, Bool.false_eq_true, if_false]
  refine wpAny_bind (wpAny_pure (wpAny_bind (wpAny_pure (wpAny_bind (wpAny_mono (pairs_run na nb hda hka hpa hdb hkb hpb at_ h0 hne turn fin) (fun c s' hc => ?_) fun _ _ z => z)))))
  exact wpAny_pure ⟨_, rfl, (fun x => nomatch x), c, by simp, hc⟩
end

/-- == of two values inside a builtin, as a reading -/
def EqR (X : Cx) (n : Nat) (T : V → V → Hp → (Bool → Hp → Prop) → Prop) : Prop :=
  ∀ (A : Around) (pins : List (Addr × Obj)) (s : Shared) (σ : L2.St) (H : Hp) (x y : V) (u v : Value) (Q : Bool → Hp → Prop), Room n A → A.frames = X.A.frames → Inv X pins σ H s → RelV x u → RelV y v → T x y H Q →
    wpAny (model X.prog X.w) A (eqBool u v) (fun r s' => ∃ H', Inv X pins σ H' s' ∧ Q r H') X.xe s
/-- flat values -/
def tEqFlat : V → V → Hp → (Bool → Hp → Prop) → Prop := fun x y H Q => flatV x = true ∧ flatV y = true ∧ Q (eqV x y) H
theorem eqr_flat {X : Cx} {n : Nat} : EqR X n tEqFlat := by
  intro A pins s σ H x y u v Q _ _ I rx ry h
  obtain ⟨fx, fy, q⟩ := h
  exact eqAt_V (A := A) (s := s) rx ry fx fy X.prog X.w X.xe _ ⟨H, I, q⟩
/-- instances of the class at C: the same object, or by the own == -/
def tEqOwn (K : PySem.W.Frag) (C : Addr) (sp : Sp) : V → V → Hp → (Bool → Hp → Prop) → Prop := fun x y H Q => ∃ a b, x = .ref a ∧ y = .ref b ∧ (a = b → Q true H) ∧
  (a ≠ b → ∃ dx fs, H a = some (.ins C dx fs) ∧ RightTy K H C y ∧ sp [x, y] H (fun v H' => ∃ c, v = .bl c ∧ Q c H') E0)
theorem eqr_own {X : Cx} {n : Nat} {C : Addr} {ps : List Str} {sp : Sp} (M : Md X.prog X.w X.K X.mg X.base C n "__eq__" ps sp) : EqR X n (tEqOwn X.K C sp) := by
  intro A pins s σ H x y u v Q hr hA I rx ry h
  obtain ⟨a, b, rfl, rfl, h1, h2⟩ := h
  by_cases e : a = b
  · subst e
    cases rx
    cases ry
    exact SeqAt.EqAt.same (A := A) (s := s) (.ref a) X.prog X.w X.xe _ ⟨H, I, h1 rfl⟩
  · obtain ⟨dx, fs, ha, ty, q⟩ := h2 e
    have run := rc_own (Q := Q) (E := X.xe) M hA hr I rx ry ⟨a, dx, fs, rfl, ha, ty, q⟩
    cases rx
    cases ry
    refine GQ.eqBool_refG e (wpAny_mono run (fun r s' z => ?_) fun _ _ z => z)
    obtain ⟨c, H', er, I', q'⟩ := z
    exact ⟨c, er, H', I', q'⟩
/-- d == e of two dicts that stand locked -/
def rEqDct (T : V → V → Hp → (Bool → Hp → Prop) → Prop) : R2 := fun x y H Q => ∃ a b oa ob ka kb, x = .ref a ∧ y = .ref b ∧ H a = some (.frz oa (.dK ka)) ∧ H b = some (.frz ob (.dK kb)) ∧ (ka.length ≠ kb.length → Q (.bl false) H) ∧
  ∃ J : Nat → Hp → Prop, (∀ i H', J i H' → H' a = some (.frz oa (.dK ka)) ∧ H' b = some (.frz ob (.dK kb))) ∧ (ka.length = kb.length → J 0 H) ∧
    (∀ i k v H', ka[i]? = some (k, v) → J i H' → (valV kb k = none ∧ Q (.bl false) H') ∨ ∃ y, valV kb k = some y ∧ T v y H' fun r H2 => if r = true then J (i + 1) H2 else Q (.bl false) H2) ∧
    (∀ H', J ka.length H' → Q (.bl true) H')
theorem op_eqDct {X : Cx} {n : Nat} {T : V → V → Hp → (Bool → Hp → Prop) → Prop} (hT : EqR X n T) (hr : Room (n + 1) X.A) : OpR X (compareOp .Eq) (rEqDct T) := by
  intro pins s σ H x y v u Q I rx ry hq
  obtain ⟨a, b, oa, ob, ka, kb, rfl, rfl, ha, hb, hne, J, hJ, h0, turn, fin⟩ := hq
  cases rx
  cases ry
  obtain ⟨ga, _, na, va, kva, o1, es, ep, g1, x1, d1, k1, p1, _⟩ := I.hok a _ ha
  obtain ⟨gb, _, nb, vb, kvb, o2, es', ep', g2, x2, d2, k2, p2, _⟩ := I.hok b _ hb
  rw [ga] at g1; cases g1
  rw [gb] at g2; cases g2
  have la : ka.length = va.length := Paired.length kva
  have lb : kb.length = vb.length := Paired.length kvb
  show wpAny (model X.prog X.w) X.A (richCompare .Eq (.ref a) (.ref b)) (EP X pins σ Q) X.xe s
  by_cases el : ka.length = kb.length
  · refine thn (rc_dicts (J := fun i s' => ∃ H', Inv X pins σ H' s' ∧ J i H') (F := fun c s' => ∃ H', Inv X pins σ H' s' ∧ Q (.bl c) H') na nb hr.units0 x1 x2 d1 k1 p1 d2 k2 p2 (fun i s' ⟨H', I', j⟩ => ?_) ⟨H, I, h0 el⟩
      (fun z => absurd (by omega) z) (fun _ i k vv s' hk ⟨H', I', j⟩ => ?_) fun _ s' ⟨H', I', j⟩ => ?_) fun r s' ⟨c, er, H', I', q⟩ => by subst er; exact ⟨.bl c, H', I', rfl, q⟩
    · obtain ⟨j1, j2⟩ := hJ i H' j
      exact ⟨(I'.hok a _ j1).1, (I'.hok b _ j2).1⟩
    · obtain ⟨⟨k0, xv⟩, hx, ek, rv⟩ : ∃ q : Key × V, ka[i]? = some q ∧ q.1 = k ∧ RelV q.2 vv := by
        have lt : i < ka.length := by rw [la]; exact (List.getElem?_eq_some_iff.mp hk).1
        obtain ⟨q, hq, r⟩ := paired_get kva (List.getElem?_eq_getElem lt)
        rw [hk] at hq; cases hq
        exact ⟨ka[i], List.getElem?_eq_getElem lt, r.1, r.2⟩
      dsimp only at ek
      subst ek
      have rel := KV.val kvb k0
      rcases turn i k0 xv H' hx j with ⟨vn, q⟩ | ⟨y, vy, t⟩
      · rw [vn] at rel
        refine .inl ⟨?_, H', I', q⟩
        cases e : valueAt vb k0 with
        | none => rfl
        | some z => rw [e] at rel; exact (show False from rel).elim
      · rw [vy] at rel
        cases e : valueAt vb k0 with
        | none => rw [e] at rel; exact (show False from rel).elim
        | some z =>
          rw [e] at rel
          refine .inr ⟨z, rfl, ?_⟩
          refine wpAny_mono (hT X.A.in1 pins s' σ H' xv y vv z _ hr.in1 rfl I' rv rel t) (fun r s2 ⟨H2, I2, q2⟩ => ?_) fun _ _ z => z
          cases r with
          | true => rw [if_pos rfl] at q2 ⊢; exact ⟨H2, I2, q2⟩
          | false => rw [if_neg Bool.false_ne_true] at q2 ⊢; exact ⟨H2, I2, q2⟩
    · exact ⟨H', I', fin H' (by rw [la]; exact j)⟩
  · refine thn (rc_dicts (J := fun i s' => i = 0 ∧ s' = s) (F := fun c s' => c = false ∧ s' = s) na nb hr.units0 x1 x2 d1 k1 p1 d2 k2 p2 (fun i s' z => ?_) ⟨rfl, rfl⟩ (fun _ => ⟨rfl, rfl⟩)
      (fun z => absurd (by omega) el) fun z => absurd (by omega) el) fun r s' ⟨c, er, ec, es'⟩ => by subst er; subst ec; subst es'; exact ⟨.bl false, H, I, rfl, hne el⟩
    obtain ⟨_, rfl⟩ := z; exact ⟨ga, gb⟩
end K9
set_option Elab.async false
set_option linter.all false
set_option maxRecDepth 100000
set_option maxHeartbeats 2000000
/-! GL: rules that also tell that no generator moves and nothing untracked changes but the frame. -/
namespace K9
open PySem PySem.Spec PyProof.Rows L2
structure KG (X : Cx) (H H' : Hp) (s s' : Shared) : Prop where
  gens : s'.gens = s.gens
  keep : ∀ b o, b ≠ X.env.locals → H b = none → s.heap.get? b = some o → s'.heap.get? b = some o
  free : ∀ b o, s.heap.get? b = some o → H b = none → H' b = none
  ext : ∀ b o, s.heap.get? b = some o → ∃ o', s'.heap.get? b = some o'
theorem KG.refl {X : Cx} {H : Hp} {s : Shared} : KG X H H s s := ⟨rfl, fun _ _ _ _ e => e, fun _ _ _ e => e, fun _ o e => ⟨o, e⟩⟩
theorem KG.tok {X : Cx} {H : Hp} {s : Shared} {t : Nat} : KG X H H s { s with toks := t } := ⟨rfl, fun _ _ _ _ e => e, fun _ _ _ e => e, fun _ o e => ⟨o, e⟩⟩
theorem KG.trans {X : Cx} {H H1 H2 : Hp} {s s1 s2 : Shared} (a : KG X H H1 s s1) (b : KG X H1 H2 s1 s2) : KG X H H2 s s2 :=
  ⟨b.gens.trans a.gens, fun c o n f e => b.keep c o n (a.free c o e f) (a.keep c o n f e), fun c o e f => by
    obtain ⟨o', e'⟩ := a.ext c o e
    exact b.free c o' e' (a.free c o e f), fun c o e => by
    obtain ⟨o', e'⟩ := a.ext c o e
    exact b.ext c o' e'⟩
def EPg (X : Cx) (pins : List (Addr × Obj)) (σ : L2.St) (H : Hp) (s : Shared) (Q : VK) (u : Value) (s' : Shared) : Prop := ∃ v H', Inv X pins σ H' s' ∧ RelV v u ∧ Q v H' ∧ KG X H H' s s'
structure PEg (X : Cx) (e : Expr) (t : TE) : Prop where
  run : ∀ (pins : List (Addr × Obj)) (s : Shared) (σ : L2.St) (H : Hp) (Q : VK), Inv X pins σ H s → t σ H Q → wpAny (model X.prog X.w) X.A (eval e X.env) (EPg X pins σ H s Q) X.xe s
structure PTg (X : Cx) (e : Expr) (t : TT) : Prop where
  run : ∀ (pins : List (Addr × Obj)) (s : Shared) (σ : L2.St) (H : Hp) (Q : Bool → Hp → Prop), Inv X pins σ H s → t σ H Q →
    wpAny (model X.prog X.w) X.A (isTrue e X.env (eval e X.env)) (fun b s' => ∃ H', Inv X pins σ H' s' ∧ Q b H' ∧ KG X H H' s s') X.xe s
structure PSg (X : Cx) (st : Stmt) (t : TS) : Prop where
  run : ∀ (pins : List (Addr × Obj)) (s : Shared) (σ : L2.St) (H : Hp) (D : Ends), Inv X pins σ H s → t D σ H →
    wpAny (model X.prog X.w) X.A (exec st X.env) (fun f s' => f = .next ∧ ∃ σ' H', Inv X pins σ' H' s' ∧ D.nx σ' H' ∧ KG X H H' s s') X.xe s
structure PSsg (X : Cx) (st : List Stmt) (t : TS) : Prop where
  run : ∀ (pins : List (Addr × Obj)) (s : Shared) (σ : L2.St) (H : Hp) (D : Ends), Inv X pins σ H s → t D σ H →
    wpAny (model X.prog X.w) X.A (execs st X.env) (fun f s' => f = .next ∧ ∃ σ' H', Inv X pins σ' H' s' ∧ D.nx σ' H' ∧ KG X H H' s s') X.xe s
structure PGg (X : Cx) (target : Expr) (t : TG) : Prop where
  run : ∀ (pins : List (Addr × Obj)) (s : Shared) (σ : L2.St) (H : Hp) (v : V) (u : Value) (Q : L2.St → Hp → Prop), Inv X pins σ H s → RelV v u → t v σ H Q →
    wpAny (model X.prog X.w) X.A (assign target X.env u) (fun _ s' => ∃ σ' H', Inv X pins σ' H' s' ∧ Q σ' H' ∧ KG X H H' s s') X.xe s
section
variable {X : Cx} {pos : Pos} {e o i : Expr} {te ta td ty : TE}
theorem pg_var {j : Nat} {x : Str} (hN : X.N[j]? = some x) (hv : Vis X.env.scope x) (hd : (x == ("__debug__" : Str)) = false := by decide) (hcd : (x == ("__classdict__" : Str)) = false := by decide) : PEg X (.Name x pos) (tVar j) := by
  refine ⟨fun pins s σ H Q I h => ?_⟩
  obtain ⟨v, e1, q⟩ := h
  obtain ⟨m, hn, hl⟩ := I.loc
  obtain ⟨u, r, l⟩ := hl j x v hN e1 hv
  have fin : EPg X pins σ H s Q u s := ⟨v, H, I, r, q, KG.refl⟩
  rcases l with ⟨hk, hm⟩ | ⟨hk | hk, c, hc, hcell⟩
  · exact wpAny_Name (wpAny_loadName_local I.ok.kind hk hn hm fin) hd
  · exact wpAny_Name (wpAny_loadName_cell I.ok.kind hk hc hcell fin) hd
  · exact wpAny_Name (wpAny_loadName_free I.ok.kind hk hc hcell fin hcd) hd
theorem pg_str {x : Str} {j} : PEg X (.Constant (.str x) j pos) (tC (.str x)) := ⟨fun _ _ _ H _ I h => Calls.Constant_str ⟨.str x, H, I.tok _, ⟨_, rfl⟩, h, KG.tok⟩⟩
theorem pg_fld {f : Str} (he : PEg X e ta) (hb : attributeBase e f X.env (eval e X.env) = eval e X.env := by rfl) : PEg X (.Attribute e f pos) (tFld X.K ta f) := by
  refine ⟨fun pins s σ H Q I h => ?_⟩
  refine attr_of hb (thn (he.run pins s σ H _ I h) fun u s1 z => ?_)
  obtain ⟨x, H1, I1, rx, ⟨a, C, dx, fs, v, ex, ea, c, n, l, q⟩, k1⟩ := z
  subst ex
  obtain rfl : u = Value.ref a := rx
  obtain ⟨mA, O, r, _⟩ := ins_get I1.hok ea
  have rf := r f
  rw [l] at rf
  obtain ⟨w, hw, rw'⟩ := rf.some_of
  exact get_map I1.kIn O (c.get f) c.hd n hw (handed_of rw') ⟨v, H1, I1.tok _, rw', q, k1.trans KG.tok⟩
theorem pg_dget (hu : X.A.units + 1 < cLine) (ho : PEg X o td) (hi : PEg X i ty) (hs : NoSl i) : PEg X (.Subscript o i pos) (tDGet td ty) := by
  refine ⟨fun pins s σ H Q I h => ?_⟩
  refine subD_of PySem.F.slot_dict_getitem.lookup hs (thn (ho.run pins s σ H _ I h) fun u s1 z => ?_)
  obtain ⟨x, H1, I1, rx, q1, k1⟩ := z
  refine thn (hi.run pins s1 σ H1 _ I1 q1) fun iv s2 z => ?_
  obtain ⟨y, H2, I2, ry, ⟨a, v, ex, g, q2⟩, k2⟩ := z
  subst ex
  obtain rfl : u = Value.ref a := rx
  refine ⟨dict_typeIs I2 g, ?_⟩
  rcases g with ⟨kvs, k, e, ey, l⟩ | ⟨kvs, k, b, e, ey, eb, l⟩
  · subst ey
    obtain ⟨z, hd, vs, rel, dd⟩ := dk_rd I2.hok e
    have rk := rel.val k
    rw [← l] at rk
    obtain ⟨w', hw, rw'⟩ := rk.some_of
    exact wpAny_getItem_of (kV_is ry) dd.mapOf hw ⟨v, H2, I2.tok _, rw', q2, (k1.trans k2).trans KG.tok⟩
  · subst ey
    cases (show iv = Value.ref b from ry)
    obtain ⟨z, hd, xs, rel, dd⟩ := dt_rd I2.hok e
    have rk := rel.val k
    rw [← l] at rk
    obtain ⟨w', hw, rw'⟩ := rk.some_of
    obtain ⟨p, hp, hp2⟩ := Option.map_eq_some_iff.mp hw
    refine wpAny_getItem_heap (tupleKind_room_in1 hu) (key_of I2.hok eb) dd hp ?_
    rw [hp2]
    exact ⟨v, H2, I2.tok _, rw', q2, (k1.trans k2).trans KG.tok⟩
/-- i in d, as a test -/
theorem ptg_din (hu : X.A.units + 1 < cLine) (hi : PEg X i ty) (ho : PEg X o td) (hm : behindInMarks .In o = false := by rfl) : PTg X (.Compare i [.In] [o] pos) (tB (tDIn ty td)) := by
  refine ⟨fun pins s σ H Q I h => ?_⟩
  refine wpAny_isTrue_Compare1 (thn (hi.run pins s σ H _ I h) fun iv s1 z => ?_) hm
  obtain ⟨y, H1, I1, ry, q1, k1⟩ := z
  refine thn (ho.run pins s1 σ H1 _ I1 q1) fun u s2 z => ?_
  obtain ⟨x, H2, I2, rx, ⟨a, ov, ex, g, c, ec, q2⟩, k2⟩ := z
  subst ex
  obtain rfl : u = Value.ref a := rx
  rcases g with ⟨kvs, k, e, ey, l⟩ | ⟨kvs, k, b, e, ey, eb, l⟩
  · subst ey
    obtain ⟨z, hd, vs, rel, dd⟩ := dk_rd I2.hok e
    refine wpAny_in_of (kV_is ry) hd dd.mapOf ?_
    rw [← (rel.val k).isSome_eq, ← l]
    refine wpAny_truthy_bool ?_
    have e' : ov.isSome = c := by simpa using ec
    rw [e']
    exact ⟨H2, I2.tok _, q2, (k1.trans k2).trans KG.tok⟩
  · subst ey
    cases (show iv = Value.ref b from ry)
    obtain ⟨z, hd, xs, rel, dd⟩ := dt_rd I2.hok e
    refine wpAny_in_heap (tupleKind_room_in1 hu) (key_of I2.hok eb) hd dd ?_
    have q := (rel.val k).isSome_eq
    rw [Option.isSome_map] at q
    rw [← q, ← l]
    refine wpAny_truthy_bool ?_
    have e' : ov.isSome = c := by simpa using ec
    rw [e']
    exact ⟨H2, I2.tok _, q2, (k1.trans k2).trans KG.tok⟩
theorem pg_if {c a b : Expr} {tc : TT} {ta tb : TE} (hc : PTg X c tc) (ha : PEg X a ta) (hb : PEg X b tb) : PEg X (.IfExp c a b pos) (tIf tc ta tb) := by
  refine ⟨fun pins s σ H Q I h => ?_⟩
  refine wpAny_IfExp (thn (hc.run pins s σ H _ I h) fun d s1 z => ?_)
  obtain ⟨H1, I1, q1, k1⟩ := z
  cases d with
  | true => exact thn (ha.run pins s1 σ H1 Q I1 q1) fun u s2 ⟨v, H2, I2, r, q, k⟩ => ⟨v, H2, I2, r, q, k1.trans k⟩
  | false => exact thn (hb.run pins s1 σ H1 Q I1 q1) fun u s2 ⟨v, H2, I2, r, q, k⟩ => ⟨v, H2, I2, r, q, k1.trans k⟩

/-! ### stores to a local -/
theorem storeg {M : Model} {A : Around} {E : Value → Shared → Prop} {pins : List (Addr × Obj)} {σ : L2.St} {H : Hp} {s : Shared} {j : Nat} {x : Str} {v : V} {u : Value} {Q : Unit → Shared → Prop} (I : Inv X pins σ H s) (hN : X.N.Nodup) (hi : X.N[j]? = some x)
    (hk : X.env.scope.names.lookup x = some .local) (r : RelV v u) (h : ∀ s', Inv X pins (σ.set j (some v)) H s' → KG X H H s s' → Q () s') : wpAny M A (storeName X.env x u) Q E s := by
  obtain ⟨m, hn, hl⟩ := id I.loc
  have cls : (X.env.scope.kind == .class || (X.env.scope.kind == .module && X.env.locals != X.env.globals)) = false := by rw [I.ok.kind]; rfl
  have hσ : j < σ.length := by rw [I.len]; exact (List.getElem?_eq_some_iff.mp hi).1
  refine wpAny_storeName_local hk hn (fun h' hn' hs => ?_) cls
  have old : ∀ b o, X.s_0.heap.get? b = some o → b ≠ X.env.locals := fun b o e => Nat.ne_of_lt (Nat.lt_of_lt_of_le (Heap.lt_size e) I.ok.above)
  have kp : ∀ b, b ≠ X.env.locals → h'.get? b = s.heap.get? b := fun b hb => hs.2 b hb
  obtain ⟨oL, _, _, hoL, _⟩ := id hn'
  have trk : HOk X.prog X.w H h' := fun b ob e => (I.hok b ob e).stay (fun c w' hc q => (kp c (by
    rintro rfl
    rcases hc with rfl | hc
    · rw [I.free] at e; cases e
    · rw [I.free] at hc; cases hc)).trans q) (fun _ q => q) fun _ _ q => q
  refine h _ ⟨I.ok, I.os, I.bare, ⟨fun b o e n hb hx => (kp b (old b o e)).trans (I.base.keep b o e n hb hx), fun b o e n hb hx => ?_, I.base.free, fun b o e hx => ?_, I.base.tups, I.base.frzs, I.base.tbls⟩,
    ⟨_, hn', fun k y v' e1 e2 e3 => ?_⟩, fun y c e => ?_, I.free, I.freeC, fun p hp => ?_, trk, by simpa using I.len⟩ ⟨rfl, fun b o hb _ e => (kp b hb).trans e, fun _ _ _ e => e, fun b o e => ?_⟩
  · obtain ⟨sl, e1⟩ := I.base.slot b o e n hb hx
    exact ⟨sl, (kp b (old b o e)).trans e1⟩
  · obtain ⟨o', e1⟩ := I.base.there b o e hx
    exact ⟨o', (kp b (old b o e)).trans e1⟩
  · by_cases hj : k = j
    · subst hj
      rw [hi] at e1; cases e1
      rw [List.getElem?_set_self hσ] at e2; cases e2
      exact ⟨u, r, .inl ⟨hk, by simp⟩⟩
    · rw [List.getElem?_set_ne (Ne.symm hj)] at e2
      obtain ⟨u', r', q⟩ := hl k y v' e1 e2 e3
      refine ⟨u', r', ?_⟩
      rcases q with ⟨ky, e⟩ | ⟨ky, c, e, z⟩
      · have ne : y ≠ x := fun e => hj (nodup_ix hN e1 (e ▸ hi))
        exact .inl ⟨ky, by simp [ne, e]⟩
      · exact .inr ⟨ky, c, e, z.sameBut hs (I.cne y c e)⟩
  · obtain ⟨w', z⟩ := I.cell y c e
    exact ⟨w', z.sameBut hs (I.cne y c e)⟩
  · obtain ⟨e, n, ne, nf, d⟩ := I.pin p hp
    exact ⟨(kp p.1 ne).trans e, n, ne, nf, d⟩
  · by_cases hb : b = X.env.locals
    · subst hb; exact ⟨oL, hoL⟩
    · exact ⟨o, (kp b hb).trans e⟩
theorem pgg_name {j : Nat} {x : Str} (hN : X.N.Nodup) (hi : X.N[j]? = some x) (hk : X.env.scope.names.lookup x = some .local) : PGg X (.Name x pos) (gName j) := by
  refine ⟨fun pins s σ H v u Q I r h => ?_⟩
  exact wpAny_assign_Name (storeg I hN hi hk r fun s' I' k => ⟨_, H, I', h, k⟩)
/-- (a, b) = a tuple of two -/
theorem pgg_two {j k : Nat} {x y : Str} {px py : Pos} {kk} (hc : X.calm = true) (hN : X.N.Nodup) (hi : X.N[j]? = some x) (hj : X.N[k]? = some y) (hx : X.env.scope.names.lookup x = some .local) (hy : X.env.scope.names.lookup y = some .local)
    (hn : (assignEach [.Name x px, .Name y py] X.env).map (·.2) = [assign (.Name x px) X.env, assign (.Name y py) X.env] := by rfl) (hst : (assignEach [.Name x px, .Name y py] X.env).findIdx? (·.1) = none := by rfl) :
    PGg X (.Tuple [.Name x px, .Name y py] kk pos) (fun v σ H Q => ∃ a v1 v2, v = .ref a ∧ SqT X.K H a [v1, v2] ∧ Q ((σ.set j (some v1)).set k (some v2)) H) := by
  refine ⟨fun pins s σ H v u Q I r h => ?_⟩
  obtain ⟨a, v1, v2, rfl, hq, q⟩ := h
  cases r
  obtain ⟨its, rv, ht, hz⟩ := I.tuple hq
  obtain ⟨u1, u2, rfl, r1, r2⟩ := rv.two
  refine assign_Tuple_tuple (I.ok.hd hc) ht (by
    have := congrArg List.length hn
    simpa using this) hst fun h' hx' => ?_
  have kx : ∀ b o, s.heap.get? b = some o → h'.get? b = some o := fun b o e => hx' b o (Nat.ne_of_lt (Heap.lt_size e)) e
  have I1 : Inv X pins σ H { s with heap := h' } := I.kept (t' := s.toks) kx
  have k0 : KG X H H s { s with heap := h' } := ⟨rfl, fun b o _ _ e => kx b o e, fun _ _ _ e => e, fun b o e => ⟨o, kx b o e⟩⟩
  rw [hn]
  refine assignInOrder_cons (thn ((pgg_name hN hi hx).run pins _ σ H v1 u1 (fun σ' H' => σ.set j (some v1) = σ' ∧ H = H') I1 r1 ⟨rfl, rfl⟩) fun _ s1 z => ?_)
  obtain ⟨_, _, I2, ⟨rfl, rfl⟩, k1⟩ := z
  refine assignInOrder_cons (thn ((pgg_name hN hj hy).run pins s1 _ _ v2 u2 (fun σ' H' => (σ.set j (some v1)).set k (some v2) = σ' ∧ H = H') I2 r2 ⟨rfl, rfl⟩) fun _ s2 z => ?_)
  obtain ⟨_, _, I3, ⟨rfl, rfl⟩, k2⟩ := z
  exact assignInOrder_nil ⟨_, _, I3, q, (k0.trans k1).trans k2⟩
/-- name = e -/
theorem psg_set {j : Nat} {x : Str} {pos' : Pos} (hN : X.N.Nodup) (hi : X.N[j]? = some x) (hk : X.env.scope.names.lookup x = some .local) (he : PEg X e te) (hs : swapsWith e (some (.Name x pos')) pos.line X.env = pure false := by rfl) :
    PSg X (.Assign [.Name x pos'] e pos) (tAsg te (gName j)) := by
  refine ⟨fun pins s σ H D I h => ?_⟩
  refine wpAny_Assign_Name (thn (he.run pins s σ H _ I h) fun v s1 z => ?_) hs
  obtain ⟨y, H1, I1, r1, q1, k1⟩ := z
  exact storeg I1 hN hi hk r1 fun s2 I2 k2 => ⟨rfl, _, H1, I2, q1, k1.trans k2⟩
theorem psg_expr (he : PEg X e te) (hs : swapsWith e none pos.line X.env = pure false := by rfl) : PSg X (.Expr e pos) (tDrop te) := by
  refine ⟨fun pins s σ H D I h => ?_⟩
  exact wpAny_Expr_any (thn (he.run pins s σ H _ I h) fun v s1 ⟨x, H1, I1, r1, q1, k1⟩ => ⟨rfl, σ, H1, I1, q1, k1⟩) I.quiet hs
theorem pssg_nil : PSsg X [] tNext := ⟨fun _ _ σ H _ I h => wpAny_execs_nil ⟨rfl, σ, H, I, h, KG.refl⟩⟩
theorem pssg_cons {st : Stmt} {rest : List Stmt} {t u : TS} (h1 : PSg X st t) (h2 : PSsg X rest u) : PSsg X (st :: rest) (tSeq t u) := by
  refine ⟨fun pins s σ H D I h => ?_⟩
  refine wpAny_execs_cons (thn (h1.run pins s σ H { D with nx := u D } I h) fun f s1 z => ?_)
  obtain ⟨rfl, σ', H', I', q, k⟩ := z
  exact thn (h2.run pins s1 σ' H' D I' q) fun f s2 ⟨ef, σ2, H2, I2, q2, k2⟩ => ⟨ef, σ2, H2, I2, q2, k.trans k2⟩

/-! ### texts -/
theorem pg_fmt (he : PEg X e te) : PEg X (.FormattedValue e (-1) none pos) (tFmt te) := by
  refine ⟨fun pins s σ H Q I h => ?_⟩
  refine wpAny_FormattedValue_plain (thn (he.run pins s σ H _ I h) fun v s1 hv => ?_)
  obtain ⟨x, H1, I1, r1, q, k⟩ := hv
  rcases q with ⟨y, rfl, hz, q⟩ | ⟨z, rfl, hz, q⟩
  · obtain ⟨t, rfl⟩ := r1
    exact wpAny_formatField_str ⟨.str y, H1, I1, ⟨t, rfl⟩, q, k⟩ ⟨.str y, H1, I1.tok _, ⟨_, rfl⟩, q, k.trans KG.tok⟩ hz
  · obtain ⟨t, rfl⟩ := r1
    exact wpAny_formatField_int hz ⟨.str (toString z), H1, I1.tok _, ⟨_, rfl⟩, q, k.trans KG.tok⟩
/-- {e:>3}, a small int -/
def tFmt3 (te : TE) : TE := fun σ H Q => te σ H fun x H1 => ∃ n : Nat, x = .int n ∧ n < 10 ^ 10 ∧ ∀ y : Str, (n < 1000 → y.length = 3) → y.length ≤ 13 → Q (.str y) H1
theorem spec3_ok : intSpecOk (">3" : Str) = true ∧ intSpecWidthOf (">3" : Str) = 3 := by decide +kernel
theorem pg_fmt3 {p1 p2 : Pos} {j} (hnd : X.base.NoDigits) (he : PEg X e te) : PEg X (.FormattedValue e (-1) (some (.JoinedStr [.Constant (.str ">3") j p1] p2)) pos) (tFmt3 te) := by
  refine ⟨fun pins s σ H Q I h => ?_⟩
  refine wpAny_FormattedValue_spec (thn (he.run pins s σ H _ I h) fun v s1 hv => ?_)
  obtain ⟨x, H1, I1, r1, ⟨n, rfl, hz, q⟩, k⟩ := hv
  obtain ⟨t, rfl⟩ := r1
  refine wpAny_JoinedStr_one (Calls.Constant_str ⟨">3", _, rfl, ?_⟩)
  refine formatField_int_specOf (hnd.keeps (I1.tok (s1.toks + 1)).bk) ?_ spec3_ok.1 (fun W hW f => ?_) (by decide +kernel)
  · have : (n : Int).natAbs = n := rfl
    rw [this]
    exact lt_digitLimit_of_lt (by omega)
  · rw [spec3_ok.2] at hW
    subst hW
    have d := f.digits
    have len := f.lenNonneg (Int.natCast_nonneg n)
    have na : (n : Int).natAbs = n := rfl
    rw [na] at len d
    refine ⟨.str (intSpecTextOf ">3" n), H1, (I1.tok _).tok _, ⟨_, rfl⟩, q _ (fun lt => ?_) ?_, k.trans (KG.tok.trans KG.tok)⟩
    · have h3 : (Nat.toDigits 10 n).length ≤ 3 := by
        have e := (Nat.length_repr_le_iff (n := n) (by decide : 0 < 3)).mpr lt
        rwa [← String.length_toList, Nat.toList_repr] at e
      rw [len]; omega
    · have h10 : (Nat.toDigits 10 n).length ≤ 10 := by
        have e := (Nat.length_repr_le_iff (n := n) (by decide : 0 < 10)).mpr hz
        rwa [← String.length_toList, Nat.toList_repr] at e
      rw [len]; omega
inductive PJg (X : Cx) : List Expr → List TE → Prop where
  | nil : PJg X [] []
  | cons {e : Expr} {t : TE} {es : List Expr} {ts : List TE} (h : PEg X e t) (r : PJg X es ts) : PJg X (e :: es) (t :: ts)
theorem pjg_run {pins : List (Addr × Obj)} {σ : L2.St} {H0 : Hp} {s0 : Shared} {es : List Expr} {ts : List TE} (h : PJg X es ts) : ∀ (acc : Str) (s : Shared) (H : Hp) (Q : Str → Hp → Prop) (R : Str → Shared → Prop), acc.length ≤ sizeLine → Inv X pins σ H s → KG X H0 H s0 s →
    tJs ts acc σ H Q → (∀ out s1 H1, out.length ≤ sizeLine → Inv X pins σ H1 s1 → KG X H0 H1 s0 s1 → Q out H1 → R out s1) → Joins (model X.prog X.w) X.A X.xe (evalEach es X.env) acc R s := by
  induction h with
  | nil =>
    intro acc s H Q R hz I k q fin
    have e0 : evalEach [] X.env = [] := by first | rfl | simp [evalEach]
    rw [e0]
    exact fin acc s H hz I k q
  | @cons e t es ts he r ih =>
    intro acc s H Q R hz I k q fin
    have e0 : evalEach (e :: es) X.env = eval e X.env :: evalEach es X.env := by first | rfl | simp [evalEach]
    rw [e0]
    refine thn (he.run pins s σ H _ I q) fun v s1 hv => ?_
    obtain ⟨x, H1, I1, r1, ⟨y, rfl, hy, q1⟩, k1⟩ := hv
    obtain ⟨tk, rfl⟩ := r1
    exact ⟨y, tk, rfl, hy, ih (acc ++ y) s1 H1 Q R hy I1 (k.trans k1) q1 fin⟩
theorem pg_joined {v1 v2 : Expr} {rest : List Expr} {ts : List TE} (h : PJg X (v1 :: v2 :: rest) ts) : PEg X (.JoinedStr (v1 :: v2 :: rest) pos) (fun σ H Q => tJs ts Str.empty σ H fun out H1 => Q (.str out) H1) := by
  refine ⟨fun pins s σ H Q I q => ?_⟩
  exact wpAny_JoinedStr (pjg_run h Str.empty s H (fun out H1 => Q (.str out) H1) _ (Nat.zero_le _) I KG.refl q fun out s1 H1 hz I1 k q1 => ⟨hz, .str out, H1, I1.tok _, ⟨_, rfl⟩, q1, k.trans KG.tok⟩)
/-- o.append(e) -/
def tAppG (K : PySem.W.Frag) (to te : TE) : TE := fun σ H Q => to σ H fun x H1 => ∃ l, x = .ref l ∧ (∃ zs, H1 l = some (.lst zs)) ∧ te σ H1 fun y H2 => ∃ xs, H2 l = some (.lst xs) ∧ xs.length < sizeLine ∧ Q .non (upd H2 l (.lst (xs ++ [y])))
theorem pg_append {apos cpos : Pos} {to : TE} (ho : PEg X o to) (ha : PEg X e te)
    (hbase : attributeBase o "append" X.env (eval o X.env) = eval o X.env := by rfl)
    (hfew : ((backTo cpos (starEach [e] X.env)).all (fun x => !x.1) && (backToKw cpos (keywordEach [] X.env)).all (fun x => x.1.isSome)
      && decide (([e] : List Expr).length + ([] : List Keyword).length + (if ([] : List Keyword).isEmpty then 0 else 1) < 30)) = true := by rfl)
    (hline : (apos.endLine == cpos.line) = true := by rfl) (hs : starEach [e] X.env = (false, eval e X.env) :: starEach [] X.env := by rfl) (hplain : (backTo cpos (starEach [] X.env)).any (·.1) = false := by rfl) :
    PEg X (.Call (.Attribute o "append" apos) [e] [] cpos) (tAppG X.K to te) := by
  refine ⟨fun pins s σ H Q I h => ?_⟩
  refine wpAny_Call_method_late hbase hfew hline rfl (thn (ho.run pins s σ H _ I h) fun v s1 z => ?_)
  obtain ⟨x, H1, I1, r1, ⟨l, rfl, ⟨zs, hl⟩, q1⟩, k1⟩ := z
  obtain ⟨h1, h2⟩ := tyV_is I1 r1 (.inl ⟨rfl, _, SqL.of hl⟩)
  refine ⟨"list", _, PySem.F.plainAttrs_list, PySem.F.slot_list_append, PySem.F.type_list_append, h1, h2, ?_⟩
  rw [hs]
  refine Calls.callWith_builtin (by show (false || (backTo cpos (starEach [] X.env)).any (·.1)) = false; rw [hplain] <;> rfl) (Calls.evalArgs_plain ?_)
  show wpAny _ _ (spliced ((false, eval e X.env) :: backTo cpos (starEach [] X.env))) _ _ s1
  refine Calls.spliced_cons (thn (ha.run pins s1 σ H1 _ I1 q1) fun u s2 z => Calls.spliced_nil ?_)
  obtain ⟨y, H2, I2, r2, ⟨xs, hx, hz, q2⟩, k2⟩ := z
  cases r1
  obtain ⟨zz, its, n, r, hlen, e2⟩ := I2.lstM hx
  refine call_meets F.slot_list_append ⟨_, e2, rfl⟩ F.entry_list_append (F.args_list_append_2 _ _) (PySem.list_append l its.toArray n u (by rw [List.size_toArray]; omega)) ⟨e2, ?_⟩
  refine ⟨.non, _, I2.lset (its' := its ++ [u]) hx e2 (by simp) (r.append (.cons r2 .nil)) (by rw [List.length_append, List.length_singleton]; omega), rfl, q2, (k1.trans k2).trans ⟨rfl, fun b ob _ hb eb => ?_, fun b ob eb hb => ?_, fun b ob eb => ?_⟩⟩
  · have ne : l ≠ b := ne_of_none hx hb
    exact (Heap.get?_update_other s2.heap _ ne).trans eb
  · rw [upd_ne (fun z => by rw [z, hx] at hb; cases hb)]; exact hb
  · by_cases ne : l = b
    · subst ne; exact ⟨_, PySem.IsL.update e2 _⟩
    · exact ⟨ob, (Heap.get?_update_other s2.heap _ ne).trans eb⟩
end
end K9
set_option Elab.async false
set_option linter.all false
set_option maxRecDepth 100000
set_option maxHeartbeats 2000000
/-! RL2: more rules: sets of ints, max of a tuple, list(d.values()), comprehensions as maps. -/
namespace K9
open PySem PySem.Spec PyProof.Rows L2

/-! ### len(set(t)), max(t) of a tuple of ints -/
section
variable {X : Cx}
theorem setR_size {w : World} {h : Heap} {a : Addr} {ns : List Int} {c : Nat} (R : SetR w h a (fun j => decide (j ∈ ns)) c) (nd : ns.Nodup) : c = ns.length := by
  obtain ⟨o, es, ep, t, ho, hex, hd, g, nd2, hm, hb, hf, hn, _⟩ := R
  have p : (es.toList.map keyOf).Perm ns := (List.perm_ext_iff_of_nodup nd2 nd).mpr fun k => by
    rw [← hm k, decide_eq_true_eq]
  have q := p.length_eq
  rw [List.length_map, Array.length_toList] at q
  omega
def tLenSetT (K : PySem.W.Frag) (ta : TE) : TE := fun σ H Q => ta σ H fun x H1 => ∃ (l : Addr) (ns : List Int), x = .ref l ∧ SqT K H1 l (ns.map V.int) ∧ ns.Nodup ∧ ns.length ≤ 4000 ∧ Q (.int (ns.length : Nat)) H1
theorem pe_lenSetT {a : Expr} {ta : TE} {p p2 q pos : Pos} (hg : Gl X "len") (hm : X.mg "len" = none) (hg2 : Gl X "set") (hm2 : X.mg "set" = none) (ha : PE X a ta) (hc : X.calm = true := by rfl)
    (na : starEach [a] X.env = (false, eval a X.env) :: starEach [] X.env := by rfl) : PE X (.Call (.Name "len" p) [.Call (.Name "set" p2) [a] [] q] [] pos) (tLenSetT X.K ta) := by
  refine ⟨fun pins s σ H Q I h => ?_⟩
  refine Call_ (ld_blt I hg hm boot_len (PyProof.Rows.callWith_builtin1 (PyProof.Rows.args_cons ?_ rfl) rfl rfl))
  refine Call_ (ld_blt I hg2 hm2 boot_set (PyProof.Rows.callWith_type1 (PyProof.Rows.args_cons (thn (ha.run pins s σ H _ I h) fun v s1 z => PyProof.Rows.args_nil ?_) na) na rfl))
  obtain ⟨x, H1, I1, r1, l, ns, rfl, hq, hnd, hl, q1⟩ := z
  cases r1
  obtain ⟨its, r, pl, hz⟩ := I1.tuple hq
  refine call_set_tupI ns (I1.ok.hd hc) pl (by simpa using RZ.intsAre_vals r) (by unfold scanBound; omega) fun h' tk c hS _ hk => ?_
  refine PyProof.Rows.args_nil ?_
  have ec := setR_size hS hnd
  subst ec
  obtain ⟨o, es, ep, t, ho, hex, hd, _, _, _, _, hf, hn, _⟩ := hS
  have I2 : Inv X pins σ H1 { s1 with heap := h', toks := tk } := I1.kept hk
  exact call_len_set ho hex hd hf (by rw [hn] <;> omega) ⟨.int ns.length, H1, I2.tok _, ⟨_, by rw [hn]⟩, q1⟩
def rMaxT (K : PySem.W.Frag) : List V → Hp → VK → Prop := fun vs H Q => ∃ (a : Addr) (ns : List Int), vs = [V.ref a] ∧ SqT K H a (ns.map V.int) ∧ 0 < ns.length ∧ ∀ m, m ∈ ns → (∀ y, y ∈ ns → y ≤ m) → Q (.int m) H
theorem cr_maxT (hc : X.calm = true) : CallR X (.builtin "max") (rMaxT X.K) := by
  intro pins s σ H vs us Q I r h
  obtain ⟨a, ns, rfl, hs, hne, q⟩ := h
  obtain ⟨its, rv, hl, hz⟩ := I.tuple hs
  rw [Vals.ref1 r]
  have hI := RZ.intsAre_vals rv
  have len : its.length = ns.length := by rw [← rv.length, List.length_map]
  have hh : X.A.in1.handled = none := I.ok.hd hc
  have la : a < s.heap.objs.size := hl.lt
  refine call_max_walk (wpAny_pyIter_tuple (show s.heap.IsTuple a its.toArray from hl) ?_)
  refine ⟨s.heap.objs.size, _, _, _, _, _, _, rfl, Walks.tuple hh _ a (Nat.ne_of_lt la) its.toArray, ⟨⟨_, Heap.get?_push_size _ rfl, rfl, rfl⟩, Heap.IsTuple.push hl _⟩, fun b hb => ?_, by rw [List.size_toArray, len]; exact hne,
    CmpOf.ints_gt (fun i => ns.getD i 0) (fun i v hv => ?_), fun v h' tk hP hk => ?_⟩
  · rw [Heap.size_push]
    rcases List.mem_cons.mp hb with e | e
    · rw [e]; exact Nat.lt_succ_self _
    · rw [List.mem_singleton.mp e]; exact Nat.lt_succ_of_lt la
  · exact PyProof.Rows.IntsAre.int_at hI i v (by simpa using hv)
  · rw [List.getElem?_toArray] at hP
    obtain ⟨t, rfl⟩ := PyProof.Rows.IntsAre.int_at hI _ v hP
    obtain ⟨h1, h2⟩ := argBest_gt (fun i => ns.getD i 0) (its.toArray.size - 1)
    have sz : its.toArray.size = ns.length := by rw [List.size_toArray, len]
    rw [sz] at h1 h2 hP ⊢
    refine ⟨.int _, H, I.kept fun b o e => hk b o (fun z => absurd (Heap.lt_size e) (by rw [List.mem_singleton.mp z]; exact Nat.lt_irrefl _)) (Heap.get?_push_of_some _ e), ⟨_, rfl⟩, q _ ?_ fun y hy => ?_⟩
    · exact PySem.getD_mem (by omega)
    · obtain ⟨j, hj, rfl⟩ := mem_getD hy
      exact h2 j (by omega)

/-! ### list(d.values()) -/
def tListVals (te : TE) : TE := fun σ H Q => te σ H fun x H1 => ∃ (d : Addr) (kvs : List (Key × V)), x = .ref d ∧ H1 d = some (.dK kvs) ∧ ∀ p, H1 p = none → Q (.ref p) (upd H1 p (.lst (kvs.map Prod.snd)))
theorem vals_kv : ∀ {kvs : List (Key × V)} {vs : List (Key × Value)}, KV kvs vs → ∀ {us : List Value}, us.length = vs.length → (∀ (j : Nat) (v : Value), us[j]? = some v → ∃ k : Key, vs[j]? = some (k, v)) → Vals (kvs.map Prod.snd) us
  | [], [], _, [], _, _ => .nil
  | p :: kvs, q :: vs, .cons r t, u :: us, hl, h => by
    obtain ⟨k, e⟩ := h 0 u rfl
    have e' : q = (k, u) := Option.some.inj e
    refine .cons ?_ (vals_kv t (by simpa using hl) fun j v e => ?_)
    · have z := r.2
      rw [e'] at z
      exact z
    · have := h (j + 1) v (by simpa using e)
      simpa using this
theorem pe_listVals {e : Expr} {te : TE} {p apos cpos pos : Pos} (he : PE X e te) (hg : Gl X "list") (hm : X.mg "list" = none) (hc : X.calm = true := by rfl) (hbase : attributeBase e "values" X.env (eval e X.env) = eval e X.env := by rfl) (hline : (apos.endLine == cpos.line) = true := by rfl)
    (hs : starEach [.Call (.Attribute e "values" apos) [] [] cpos] X.env = (false, eval (.Call (.Attribute e "values" apos) [] [] cpos) X.env) :: starEach [] X.env := by rfl) :
    PE X (.Call (.Name "list" p) [.Call (.Attribute e "values" apos) [] [] cpos] [] pos) (tListVals te) := by
  refine ⟨fun pins s σ H Q I hq => ?_⟩
  refine wpAny_Call_Name_kw (ld_blt I hg hm boot_list (PyProof.Rows.callWith_type1 ?_ hs rfl))
  rw [hs]
  refine Calls.spliced_cons ?_
  refine wpAny_Call_method (T := "dict") (id := "dict.values") hbase rfl hline F.plainAttrs_dict F.slot_dict_values F.type_dict_values (thn (he.run pins s σ H _ I hq) fun u s1 z => ?_)
  obtain ⟨x, H1, I1, rx, d, kvs, ex, hd, q⟩ := z
  subst ex
  obtain rfl : u = Value.ref d := rx
  obtain ⟨hz, hs0, vs, kv, hdo⟩ := I1.hok d _ hd
  obtain ⟨ep, hat⟩ := hdo.dictAt
  have lk : kvs.length = vs.length := Paired.length kv
  refine ⟨hdo.typeIs, hdo.mapOf.noDict, ?_⟩
  refine method_meetsIn F.slot_dict_values F.entry_dict_values rfl (PySem.evalArgs_none ⟨rfl, hdo.typeIs, F.args_dict_values_1 _, _, meets_dict_values (mixKind X.prog X.w) d hs0, ⟨vs, hdo⟩, ?_⟩)
  refine Calls.spliced_nil ?_
  have I2 : Inv X pins σ H1 { s1 with heap := s1.heap.push { cls := .type "dict_values", data := .fields #[.ref d] } } := I1.kept (t' := s1.toks) fun b ob q => Heap.get?_push_of_some _ q
  refine PySem.W.kdl_call (PySem.W.kdl_values (knd := mixKind X.prog X.w) (kvs := vs) (ep := ep)) (I2.ok.hd hc) ⟨⟨_, Heap.get?_push_size _ rfl, rfl, rfl⟩, hat.push _⟩ (by omega) fun h' tk acc' c' hk hS hacc => ?_
  have hn : H1 (s1.heap.push { cls := .type "dict_values", data := .fields #[.ref d] }).objs.size = none := I2.hok.fresh (Nat.le_refl _)
  refine ⟨.ref _, upd H1 _ (.lst (kvs.map Prod.snd)), I2.laid hk (Nat.le_refl _) (show ObjOk X.prog X.w _ _ _ (.lst (kvs.map Prod.snd)) from ⟨by rw [List.length_map]; exact hz, acc'.toList, c', ?_, by rw [Array.toArray_toList]; exact hS⟩), rfl, q _ hn⟩
  refine vals_kv kv (by rw [Array.length_toList]; exact hacc.1) fun j v e => ?_
  exact hacc.2 j v (by rw [← Array.getElem?_toList]; exact e)

/-! ### sorted(set of ints) -/
def rSortedSetI (w : World) : List V → Hp → VK → Prop := fun vs H Q => ∃ (a : Addr) (S : Int → Bool) (n : Nat), vs = [V.ref a] ∧ H a = some (SetO w a S n) ∧
  ∀ (ns : List Int) (p : Addr), ns.Pairwise (· < ·) → (∀ k : Int, k ∈ ns ↔ S k = true) → H p = none → Q (.ref p) (upd H p (.lst (ns.map V.int)))
theorem cr_sortedSetI (hc : X.calm = true) : CallR X (.builtin "sorted") (rSortedSetI X.w) := by
  intro pins s σ H vs us Q I r h
  obtain ⟨a, S, n, rfl, ha, q⟩ := h
  rw [Vals.ref1 r]
  obtain ⟨o, es, ep, t, ho, hex, hd, g, nd, hm, hb, hf, hn, hr, hl⟩ := setO_get I ha
  refine Calls.call_function_entry kind_sorted plain_sorted entry_sorted (args_sorted1 _) ?_
  unfold Builtin.«sorted»
  refine wpAny_bind (m := checkCount "sorted" 1 1 _) (wpAny_pure ?_)
  refine wpAny_bind (collect_set (A := X.A.in1) (I.ok.hd hc) ⟨o, ho, hex.1, hd⟩ hf hb hr hl fun s1 vs k1 hz g1 o1 pm => ?_)
  have hvl : vs.length = es.size := by rw [pm.length_eq, List.length_map, Array.length_toList]
  have hI : IntsAre vs (vs.map Builtin.Re.reRawOf) := ints_of vs fun v hv => by
    obtain ⟨e, he, q⟩ := List.mem_map.mp (pm.mem_iff.mp hv)
    obtain ⟨k, tk, h1, _⟩ := g e he
    exact ⟨k, tk, q.symm.trans h1⟩
  have pk : (vs.map Builtin.Re.reRawOf).Perm (es.toList.map keyOf) := by
    have q := pm.map Builtin.Re.reRawOf
    rw [List.map_map] at q
    exact q
  have small : vs.length ≤ sizeLine := by
    rw [hvl, sizeLine_eq]
    unfold scanBound at hb
    omega
  refine wpAny_bind (wpAny_newList ?_ small)
  have hoL : (s1.heap.push (seqObj "list" vs.toArray 0)).get? s1.heap.objs.size = some (seqObj "list" vs.toArray 0) := Heap.get?_push_size _ rfl
  refine wpAny_bind (wpAny_holding (wpAny_call_entry slot_list_sort ⟨_, hoL, rfl⟩ entry_list_sort (SrtO.list_sort_ord SrtO.swo_int hoL small (fun h2 => SrtO.ints_sortable hI h2) fun out h1 h2 => ⟨_, rfl, ?_⟩) (args_list_sort _)))
  obtain ⟨a1, a2, a3⟩ := SrtO.ints_out hI h1 h2
  obtain ⟨c, hcc⟩ := sortedHeap_at (vs := vs) (out := out.toArray) hoL
  have pn : (out.map SrtO.iv).Perm (es.toList.map keyOf) := a2.trans pk
  have kk : ∀ b o, s.heap.get? b = some o → (sortedHeap (s1.heap.push (seqObj "list" vs.toArray 0)) s1.heap.objs.size vs out.toArray).get? b = some o := fun b u e => by
    have q := k1 b u e
    have hlt := Heap.lt_size q
    rw [sortedHeap_old (Nat.ne_of_lt hlt) (by rw [size_push']; exact Nat.lt_succ_of_lt hlt)]
    exact Heap.get?_push_of_some _ q
  have hn2 : H s1.heap.objs.size = none := I.hok.fresh hz
  have hlen : ((out.map SrtO.iv).map V.int).length ≤ sizeLine := by
    rw [List.length_map, a2.length_eq, List.length_map]
    exact small
  refine wpAny_pure ⟨_, rfl, ?_⟩
  refine ⟨.ref s1.heap.objs.size, upd H s1.heap.objs.size (.lst ((out.map SrtO.iv).map V.int)), ?_, rfl, q _ _ (lt_of_le_nodup _ a3 (pn.nodup_iff.mpr nd)) (fun k => by rw [pn.mem_iff, ← hm k]) hn2⟩
  exact I.call' (ch := []) o1 (Un.laid kk hz hn2) (I.hok.laid kk hz ⟨hlen, out, c, vals_of_ints a1, hcc⟩) (by rw [g1]; exact I.bare) (fun _ z => nomatch z)
end
end K9
set_option Elab.async false
set_option linter.all false
set_option maxRecDepth 100000
set_option maxHeartbeats 2000000
/-! RL3: comprehensions as maps; a set of ints comprehended. -/
namespace K9
open PySem PySem.Spec PyProof.Rows L2

/-! ### list comprehensions, by what each turn gives -/
/-- ys are what the turns of is give, under F at the heap H -/
inductive Outs (F : Nat → V → Hp → Prop) (H : Hp) : List Nat → List V → Prop where
  | nil : Outs F H [] []
  | cons {i : Nat} {is : List Nat} {y : V} {ys : List V} (h : F i y H) (t : Outs F H is ys) : Outs F H (i :: is) (y :: ys)
theorem Outs.imp {F G : Nat → V → Hp → Prop} {H H' : Hp} {is : List Nat} {ys : List V} (o : Outs F H is ys) (h : ∀ i y, F i y H → G i y H') : Outs G H' is ys := by
  induction o with
  | nil => exact .nil
  | cons a _ ih => exact .cons (h _ _ a) ih
theorem Outs.snoc {F : Nat → V → Hp → Prop} {H : Hp} {is : List Nat} {ys : List V} {i : Nat} {y : V} (o : Outs F H is ys) (h : F i y H) : Outs F H (is ++ [i]) (ys ++ [y]) := by
  induction o with
  | nil => exact .cons h .nil
  | cons a _ ih => exact .cons a ih
theorem Outs.len {F : Nat → V → Hp → Prop} {H : Hp} {is : List Nat} {ys : List V} (o : Outs F H is ys) : ys.length = is.length := by
  induction o with
  | nil => rfl
  | cons a _ ih => simp [ih]
theorem Outs.map {F : Nat → V → Hp → Prop} {H : Hp} {is : List Nat} {ys : List V} {f : Nat → V} (o : Outs F H is ys) (h : ∀ i y, F i y H → y = f i) : ys = is.map f := by
  induction o with
  | nil => rfl
  | cons a _ ih => simp [ih, h _ _ a]
theorem lc_walkD {J : It} {n : Nat} {G : Hp → Prop} {Y : Nat → Hp → V → Hp → Prop} (w : L2.Walk J n G Y) {g : TG} {tt : TT} {te : TE} {vs : List Nat} {σ : L2.St} {H1 : Hp} {D : Addr} {Qd : Hp → Prop}
    (p : Nat → Bool) (F : Nat → V → Hp → Prop) (hD : H1 D = none) (hn : n ≤ sizeLine) (hG : ∀ H, Ext H1 H → G H)
    (mono : ∀ i y H H', Ext H1 H → ExtB D H H' → F i y H → F i y H')
    (hs : ∀ i x H H', i < n → Ext H1 H → (∃ ys, H D = some (.lst ys)) → Y i H x H' → ∀ (A : V → Hp → Prop) (N : Hp → Prop), (p i = true → ∀ y H2, Ext H H2 → F i y H2 → A y H2) → (p i = false → ∀ H2, Ext H H2 → N H2) →
      g x (wipe σ vs) H' fun σ2 H2 => wipe σ2 vs = wipe σ vs ∧ tt σ2 H2 fun b H3 => if b = true then te σ2 H3 A else N H3)
    (hd : ∀ H ys, Ext H1 H → H D = some (.lst ys) → Outs F H ((List.range n).filter p) ys → Qd H) :
    ∃ W : Nat → Nat → Hp → Prop, (∃ m, W 0 m (upd H1 D (.lst []))) ∧ ∀ i m H, W i m H →
      (J.stop i H ∧ Qd H) ∨ (J.go i H ∧ ∃ Nx : Hp → Prop, (∀ H', Nx H' → ∃ m', m' < m ∧ W (i + 1) m' H') ∧ ∀ x H', J.yld i H x H' → g x (wipe σ vs) H' fun σ2 H2 => wipe σ2 vs = wipe σ vs ∧ tt σ2 H2 fun b H3 =>
        if b = true then te σ2 H3 fun y H4 => ∃ acc, H4 D = some (.lst acc) ∧ acc.length < sizeLine ∧ Nx (upd H4 D (.lst (acc ++ [y]))) else Nx H3) := by
  refine lc_it w (fun i H => i ≤ n ∧ Ext H1 H ∧ ∃ ys, H D = some (.lst ys) ∧ Outs F H ((List.range i).filter p) ys) ⟨Nat.zero_le _, Ext.upd hD, [], upd_same, .nil⟩ (fun i H _ z => hG H z.2.1) ?_ ?_
  · rintro i x H H' hi ⟨_, e, ys, hy, o⟩ y
    have hl : ys.length ≤ i := by
      rw [o.len]
      exact Nat.le_trans (List.length_filter_le _ _) (by simp)
    have rng : (List.range (i + 1)).filter p = (List.range i).filter p ++ (if p i = true then [i] else []) := by
      rw [List.range_succ, List.filter_append, List.filter_cons, List.filter_nil]
    have skip : ∀ H2, Ext H1 H2 → ExtB D H H2 → H2 D = H D → p i = false → i + 1 ≤ n ∧ Ext H1 H2 ∧ ∃ ys, H2 D = some (.lst ys) ∧ Outs F H2 ((List.range (i + 1)).filter p) ys := fun H2 x1 x2 x3 hp => by
      refine ⟨hi, x1, ys, x3.trans hy, ?_⟩
      rw [rng, if_neg (by rw [hp]; exact Bool.false_ne_true), List.append_nil]
      exact o.imp fun j z f => mono j z H H2 e x2 f
    refine hs i x H H' hi e ⟨ys, hy⟩ y _ _ (fun hp z H2 x0 f => ?_) (fun hp H2 x0 => skip H2 (e.trans x0) (.of x0) ((x0 _ _ hy).trans hy.symm) hp)
    have x1 := e.trans x0
    have x2 : ExtB D H H2 := .of x0
    have x3 : H2 D = H D := (x0 _ _ hy).trans hy.symm
    have e2 : Ext H1 (upd H2 D (.lst (ys ++ [z]))) := fun a ob q => by
      rw [upd_ne (fun c => by rw [c, hD] at q; cases q)]
      exact x1 a ob q
    refine ⟨ys, x3.trans hy, by omega, hi, e2, ys ++ [z], upd_same, ?_⟩
    rw [rng, if_pos hp]
    have o2 : Outs F H2 ((List.range i).filter p) ys := o.imp fun j z f => mono j z H H2 e x2 f
    exact (o2.snoc f).imp fun j z f => mono j z _ _ x1 (ExtB.self ExtB.refl) f
  · rintro H ⟨_, e, ys, hy, o⟩
    exact hd H ys e hy o
theorem lc_walk {J : It} {n : Nat} {G : Hp → Prop} {Y : Nat → Hp → V → Hp → Prop} (w : L2.Walk J n G Y) {g : TG} {tt : TT} {te : TE} {vs : List Nat} {σ : L2.St} {H1 : Hp} {D : Addr} {Qd : Hp → Prop}
    (p : Nat → Bool) (F : Nat → V → Hp → Prop) (hD : H1 D = none) (hn : n ≤ sizeLine) (hG : ∀ H, Ext H1 H → G H)
    (mono : ∀ i y H H', Ext H1 H → ExtB D H H' → F i y H → F i y H')
    (hs : ∀ i x H H', i < n → Ext H1 H → Y i H x H' → ∀ (A : V → Hp → Prop) (N : Hp → Prop), (p i = true → ∀ y H2, Ext H H2 → F i y H2 → A y H2) → (p i = false → ∀ H2, Ext H H2 → N H2) →
      g x (wipe σ vs) H' fun σ2 H2 => wipe σ2 vs = wipe σ vs ∧ tt σ2 H2 fun b H3 => if b = true then te σ2 H3 A else N H3)
    (hd : ∀ H ys, Ext H1 H → H D = some (.lst ys) → Outs F H ((List.range n).filter p) ys → Qd H) :
    ∃ W : Nat → Nat → Hp → Prop, (∃ m, W 0 m (upd H1 D (.lst []))) ∧ ∀ i m H, W i m H →
      (J.stop i H ∧ Qd H) ∨ (J.go i H ∧ ∃ Nx : Hp → Prop, (∀ H', Nx H' → ∃ m', m' < m ∧ W (i + 1) m' H') ∧ ∀ x H', J.yld i H x H' → g x (wipe σ vs) H' fun σ2 H2 => wipe σ2 vs = wipe σ vs ∧ tt σ2 H2 fun b H3 =>
        if b = true then te σ2 H3 fun y H4 => ∃ acc, H4 D = some (.lst acc) ∧ acc.length < sizeLine ∧ Nx (upd H4 D (.lst (acc ++ [y]))) else Nx H3) :=
  lc_walkD w p F hD hn hG mono (fun i x H H' hi e _ => hs i x H H' hi e) hd
/-- no tests -/
theorem lc_each {J : It} {n : Nat} {G : Hp → Prop} {Y : Nat → Hp → V → Hp → Prop} (w : L2.Walk J n G Y) {g : TG} {te : TE} {vs : List Nat} {σ : L2.St} {H1 : Hp} {D : Addr} {Qd : Hp → Prop}
    (F : Nat → V → Hp → Prop) (hD : H1 D = none) (hn : n ≤ sizeLine) (hG : ∀ H, Ext H1 H → G H) (mono : ∀ i y H H', Ext H1 H → ExtB D H H' → F i y H → F i y H')
    (hs : ∀ i x H H', i < n → Ext H1 H → Y i H x H' → ∀ (A : V → Hp → Prop), (∀ y H2, Ext H H2 → F i y H2 → A y H2) →
      g x (wipe σ vs) H' fun σ2 H2 => wipe σ2 vs = wipe σ vs ∧ te σ2 H2 A)
    (hd : ∀ H ys, Ext H1 H → H D = some (.lst ys) → Outs F H (List.range n) ys → Qd H) :
    ∃ W : Nat → Nat → Hp → Prop, (∃ m, W 0 m (upd H1 D (.lst []))) ∧ ∀ i m H, W i m H →
      (J.stop i H ∧ Qd H) ∨ (J.go i H ∧ ∃ Nx : Hp → Prop, (∀ H', Nx H' → ∃ m', m' < m ∧ W (i + 1) m' H') ∧ ∀ x H', J.yld i H x H' → g x (wipe σ vs) H' fun σ2 H2 => wipe σ2 vs = wipe σ vs ∧ tYes σ2 H2 fun b H3 =>
        if b = true then te σ2 H3 fun y H4 => ∃ acc, H4 D = some (.lst acc) ∧ acc.length < sizeLine ∧ Nx (upd H4 D (.lst (acc ++ [y]))) else Nx H3) := by
  refine lc_walk (tt := tYes) w (fun _ => true) F hD hn hG mono (fun i x H H' hi e y A N hA _ => hs i x H H' hi e y A (hA rfl)) fun H ys e hy o => hd H ys e hy ?_
  have z : (List.range n).filter (fun _ => true) = List.range n := List.filter_eq_self.mpr fun _ _ => rfl
  rwa [z] at o
theorem lc_eachD {J : It} {n : Nat} {G : Hp → Prop} {Y : Nat → Hp → V → Hp → Prop} (w : L2.Walk J n G Y) {g : TG} {te : TE} {vs : List Nat} {σ : L2.St} {H1 : Hp} {D : Addr} {Qd : Hp → Prop}
    (F : Nat → V → Hp → Prop) (hD : H1 D = none) (hn : n ≤ sizeLine) (hG : ∀ H, Ext H1 H → G H) (mono : ∀ i y H H', Ext H1 H → ExtB D H H' → F i y H → F i y H')
    (hs : ∀ i x H H', i < n → Ext H1 H → (∃ ys, H D = some (.lst ys)) → Y i H x H' → ∀ (A : V → Hp → Prop), (∀ y H2, Ext H H2 → F i y H2 → A y H2) →
      g x (wipe σ vs) H' fun σ2 H2 => wipe σ2 vs = wipe σ vs ∧ te σ2 H2 A)
    (hd : ∀ H ys, Ext H1 H → H D = some (.lst ys) → Outs F H (List.range n) ys → Qd H) :
    ∃ W : Nat → Nat → Hp → Prop, (∃ m, W 0 m (upd H1 D (.lst []))) ∧ ∀ i m H, W i m H →
      (J.stop i H ∧ Qd H) ∨ (J.go i H ∧ ∃ Nx : Hp → Prop, (∀ H', Nx H' → ∃ m', m' < m ∧ W (i + 1) m' H') ∧ ∀ x H', J.yld i H x H' → g x (wipe σ vs) H' fun σ2 H2 => wipe σ2 vs = wipe σ vs ∧ tYes σ2 H2 fun b H3 =>
        if b = true then te σ2 H3 fun y H4 => ∃ acc, H4 D = some (.lst acc) ∧ acc.length < sizeLine ∧ Nx (upd H4 D (.lst (acc ++ [y]))) else Nx H3) := by
  refine lc_walkD (tt := tYes) w (fun _ => true) F hD hn hG mono (fun i x H H' hi e l y A N hA _ => hs i x H H' hi e l y A (hA rfl)) fun H ys e hy o => hd H ys e hy ?_
  have z : (List.range n).filter (fun _ => true) = List.range n := List.filter_eq_self.mpr fun _ _ => rfl
  rwa [z] at o
/-- over a list or a tuple: by its members; the members give flat things -/
theorem filter_range_map {α β : Type} (xs : List α) (p : α → Bool) (f : α → β) (d : α) : ((List.range xs.length).filter fun i => p (xs.getD i d)).map (fun i => f (xs.getD i d)) = (xs.filter p).map f := by
  have e : (List.range xs.length).map (fun i => xs.getD i d) = xs := by
    refine List.ext_getElem (by simp) fun i h1 h2 => ?_
    simp [List.getD_eq_getElem?_getD, h2]
  have e2 : (((List.range xs.length).map (fun i => xs.getD i d)).filter p).map f = (xs.filter p).map f := by rw [e]
  rw [List.filter_map, List.map_map] at e2
  exact e2
theorem lc_flat {J : It} {G : Hp → Prop} {xs : List V} (w : L2.Walk J xs.length G (YAt xs)) {g : TG} {tt : TT} {te : TE} {vs : List Nat} {σ : L2.St} {H1 : Hp} {D : Addr} {Qd : Hp → Prop}
    (p : V → Bool) (f : V → V) (hD : H1 D = none) (hn : xs.length ≤ sizeLine) (hG : ∀ H, Ext H1 H → G H)
    (hs : ∀ x, x ∈ xs → ∀ H, Ext H1 H → ∀ (A : V → Hp → Prop) (N : Hp → Prop), (p x = true → ∀ H2, Ext H H2 → A (f x) H2) → (p x = false → ∀ H2, Ext H H2 → N H2) →
      g x (wipe σ vs) H fun σ2 H2 => wipe σ2 vs = wipe σ vs ∧ tt σ2 H2 fun b H3 => if b = true then te σ2 H3 A else N H3)
    (hd : ∀ H, Ext H1 H → H D = some (.lst ((xs.filter p).map f)) → Qd H) :
    ∃ W : Nat → Nat → Hp → Prop, (∃ m, W 0 m (upd H1 D (.lst []))) ∧ ∀ i m H, W i m H →
      (J.stop i H ∧ Qd H) ∨ (J.go i H ∧ ∃ Nx : Hp → Prop, (∀ H', Nx H' → ∃ m', m' < m ∧ W (i + 1) m' H') ∧ ∀ x H', J.yld i H x H' → g x (wipe σ vs) H' fun σ2 H2 => wipe σ2 vs = wipe σ vs ∧ tt σ2 H2 fun b H3 =>
        if b = true then te σ2 H3 fun y H4 => ∃ acc, H4 D = some (.lst acc) ∧ acc.length < sizeLine ∧ Nx (upd H4 D (.lst (acc ++ [y]))) else Nx H3) := by
  refine lc_walk w (fun i => p (xs.getD i .non)) (fun i y _ => y = f (xs.getD i .non)) hD hn hG (fun _ _ _ _ _ _ z => z) (fun i x H H' hi e y A N hA hN => ?_) fun H ys e hy o => ?_
  · obtain ⟨rfl, hx⟩ := y
    have ex : xs.getD i .non = x := by rw [List.getD_eq_getElem?_getD, hx] <;> rfl
    rw [ex] at hA hN
    exact hs x (List.mem_of_getElem? hx) H' e A N (fun hp H2 a => hA hp _ H2 a rfl) fun hp H2 a => hN hp H2 a
  · have z := o.map fun i y q => q
    rw [filter_range_map] at z
    exact hd H e (by rw [← z]; exact hy)

/-! ### {elt for target in iter}, ints -/
section
variable {X : Cx}
theorem addI_ok {pins : List (Addr × Obj)} {σ : L2.St} {H : Hp} {s : Shared} {E : Value → Shared → Prop} {D : Addr} {S : Int → Bool} {n : Nat} {y : Int} {t : Tok} {Q : Value → Shared → Prop} (I : Inv X pins σ H s) (hD : H D = some (SetO X.w D S n)) (room : n + 1 < scanBound)
    (h : ∀ v s', Inv X pins σ (upd H D (SetO X.w D (fun j => S j || decide (j = y)) (if S y = true then n else n + 1))) s' → Q v s') : wpAny (model X.prog X.w) X.A (call (.builtin "set.add") [.ref D, .int y t]) Q E s := by
  refine thn (mt_sadd pins s σ H (.ref D) [.int y] (.ref D) [.int y t] (fun v H' => H' = upd H D (SetO X.w D (fun j => S j || decide (j = y)) (if S y = true then n else n + 1))) (X := X.wish E) ?_ rfl (.cons ⟨t, rfl⟩ .nil) ⟨D, y, S, n, rfl, rfl, hD, room, rfl⟩) fun v s' z => ?_
  · exact I.wish E
  · obtain ⟨_, H', I', _, rfl⟩ := z
    exact h v s' I'.unwish

def tScI (w : World) (wi : TI) (g : TG) (te : TE) (vs : List Nat) : TE := fun σ H Q => wi σ H fun J H1 => ∀ D, H1 D = none → ∃ W : Nat → Nat → Hp → Prop, (∃ m, W 0 m (upd H1 D (SetO w D (fun _ => false) 0))) ∧ ∀ i m H, W i m H →
  (J.stop i H ∧ Q (.ref D) H) ∨ (J.go i H ∧ ∃ Nx : Hp → Prop, (∀ H', Nx H' → ∃ m', m' < m ∧ W (i + 1) m' H') ∧ ∀ x H', J.yld i H x H' → g x (wipe σ vs) H' fun σ2 H2 => wipe σ2 vs = wipe σ vs ∧
    te σ2 H2 fun y H4 => ∃ (c : Int) (S : Int → Bool) (n : Nat), y = .int c ∧ H4 D = some (SetO w D S n) ∧ n + 1 < scanBound ∧ Nx (upd H4 D (SetO w D (fun j => S j || decide (j = c)) (if S c = true then n else n + 1))))
theorem pe_scI {elt tg iter : Expr} {scope : Scope} {own : List (Str × Nat)} {pos : Pos} {wi : TI} {g : TG} {te : TE} (hc : X.calm = true) (hN : X.N.Nodup) (hi : PI X tg iter wi) (ok : BlkOk X.N X.env.scope scope own)
    (hg : ∀ (s : Shared) (H : Hp) (C : Addr) (cl : List (Str × Addr)) (fp : List Addr), PG (X.blk s H scope (compEnvC scope cl C X.env) fp) tg g)
    (he : ∀ (s : Shared) (H : Hp) (C : Addr) (cl : List (Str × Addr)) (fp : List Addr), PE (X.blk s H scope (compEnvC scope cl C X.env) fp) elt te) (hs : ∀ x, foldedSetIterable iter X.env x = pure x := by intro _; rfl) :
    PE X (.SetComp elt [⟨tg, iter, [], 0⟩] scope pos) (tScI X.w wi g te (own.map (·.2))) := by
  refine ⟨fun pins s σ H Q I h => ?_⟩
  rw [PpSet.eval_SetComp]
  have hfree : ∀ y ∈ scope.names, y.2 = .free → ∃ c, X.env.cells.lookup y.1 = some c := fun y hy e => (ok.free y hy e).elim (fun k => I.ok.has _ (.inl k)) fun k => I.ok.has _ (.inr k)
  refine wpAny_comprehension_free (use := none) rfl hs (closure_ok hfree) ok.kind (fun y hy e => by rw [ok.uniq y hy, e]) (thn (hi.run pins s σ H _ I h) fun xv s1 hx => thn hx fun itv s2 h2 => ?_)
  obtain ⟨it, fp, tn, J, H2, rfl, I2, T, st2, f2, q⟩ := h2
  refine PpSet.newSet_ok (newEnv_comp ?_)
  obtain ⟨D, hD⟩ : ∃ D, s2.heap.objs.size = D := ⟨_, rfl⟩
  have hDn : H2 D = none := I2.hok.fresh (Nat.le_of_eq hD)
  obtain ⟨W, ⟨m0, w0⟩, turn⟩ := q D hDn
  obtain ⟨s3, hs3⟩ : ∃ s3 : Shared, s3 = { s2 with heap := s2.heap.push { cls := .type "set", dict := none, data := .set #[] 0 (.fresh 0 0 (!X.w.params.followText "set-order")) } } := ⟨_, rfl⟩
  obtain ⟨H3, hH3⟩ : ∃ H3 : Hp, H3 = upd H2 D (SetO X.w D (fun _ => false) 0) := ⟨_, rfl⟩
  have h3 : s3.heap = s2.heap.push { cls := .type "set", dict := none, data := .set #[] 0 (.fresh 0 0 (!X.w.params.followText "set-order")) } := by rw [hs3]
  have I3 : Inv X pins σ H3 s3 := by
    rw [hs3, hH3]
    refine I2.laid (t' := s2.toks) (fun b o e => Heap.get?_push_of_some _ e) (Nat.le_of_eq hD) (setO_new ?_)
    rw [← hD]
    have e0 : (fun j : Int => decide (j ∈ ([] : List Int).take 0)) = fun _ => false := by funext j; simp
    have z := setR_new_at (w := X.w) (ns := []) (h := s2.heap.push { cls := .type "set", dict := none, data := .set #[] 0 (.fresh 0 0 (!X.w.params.followText "set-order")) }) (Heap.get?_push_size _ rfl)
    rwa [e0] at z
  rw [← hH3] at w0
  have f3 : ∀ b ∈ fp, FpOk X pins H3 b ∧ b < s3.heap.objs.size := fun b hb => by
    obtain ⟨o, e, _⟩ := T.obj _ _ st2 b hb
    have hlt := Heap.lt_size e
    refine ⟨⟨?_, (f2 b hb).2⟩, by rw [h3, Heap.size_push]; exact Nat.lt_succ_of_lt hlt⟩
    rw [hH3, upd_ne (by rw [← hD]; exact Nat.ne_of_lt hlt)]
    exact (f2 b hb).1
  have st3 : tn 0 s3.heap := T.keep _ _ _ st2 fun b _ o e => by rw [h3]; exact Heap.get?_push_of_some _ e
  rw [← hs3]
  have I4 := block_start I3 ok hN f3
  obtain ⟨cl, hcl⟩ : ∃ cl, cl = cellsFrom (s3.heap.objs.size + 1) scope.names (cloFrom X.env.cells scope.names []) := ⟨_, rfl⟩
  rw [← hcl] at I4
  have pg := hg s3 H3 s3.heap.objs.size cl fp
  have pe := he s3 H3 s3.heap.objs.size cl fp
  have hce : ∃ ce, ce = compEnvC scope cl s3.heap.objs.size X.env := ⟨_, rfl⟩
  obtain ⟨ce, hce⟩ := hce
  have cL : ce.locals = s3.heap.objs.size := by rw [hce]; rfl
  rw [← hce] at I4 pg pe
  obtain ⟨s4, hs4⟩ : ∃ s4 : Shared, s4 = { s3 with heap := pushCells (s3.heap.push { cls := .type "dict", data := .dict #[] }) scope.names } := ⟨_, rfl⟩
  rw [← hs4] at I4
  have st4 : tn 0 s4.heap := T.keep _ _ _ st3 fun b _ o e => by rw [hs4]; exact pushCells_keeps _ _ _ _ (Heap.get?_push_of_some _ e)
  have stat : ∀ {σ' : L2.St} {H' : Hp} {s' : Shared}, Inv (X.blk s3 H3 scope ce fp) [] σ' H' s' → (∀ b ∈ fp, H' b = none) → ∀ b ∈ fp, FpOk (X.blk s3 H3 scope ce fp) [] H' b := fun {σ' H' s'} I' hn b hb =>
    ⟨hn b hb, (I'.ok.exf b hb).1, I'.ok.exfs b hb, .inl hb, fun x c e => (I'.ok.exf b hb).2 x c e, fun p hp => absurd (show p ∈ ([] : List (Addr × Obj)) ++ [] from hp) (by simp)⟩
  suffices loop : codeAny (model X.prog X.w) X.A (.compLoop (.SetComp elt [⟨tg, iter, [], 0⟩] scope pos) 0 (.ref it) (.ref D) ce) (compPost (model X.prog X.w) X.A X.xe none (EP X pins σ Q) (.ref D) s3.heap.objs.size) s4 by
    rw [hs4, hce, hcl] at loop
    rw [hD]
    refine PpSet.codeAny_compStart_set loop (T.self X.A 0 _ _ _ ?_ loop)
    rw [hs4] at st4
    exact st4
  refine PpSet.compLoopS_any (fun n s' => ∃ i H', Inv (X.blk s3 H3 scope ce fp) [] (wipe σ (own.map (·.2))) H' s' ∧ tn i s'.heap ∧ (∀ b ∈ fp, H' b = none) ∧ W i n H') ?_ m0 ⟨0, H3, I4, st4, fun b hb => (f3 b hb).1.1, w0⟩
  rintro n s5 ⟨i, H5, I5, st5, n5, w5⟩
  rcases turn i n H5 w5 with ⟨stop, qq⟩ | ⟨go, Nx, hNx, step⟩
  · refine thnF (T.done (X.blk s3 H3 scope ce fp) rfl rfl rfl hc i [] s5 _ H5 (fun _ _ => False) I5 (stat I5 n5) st5 stop) fun r s6 z => ?_
    obtain ⟨rfl, I6⟩ := z
    have I7 : Inv X pins σ H5 s6 := I3.call' (ch := fp) I6.os I6.base I6.hok I6.bare fun b hb => ⟨(f3 b hb).1.2.2.2.1, (f3 b hb).1.2.1, (f3 b hb).1.2.2.2.2.1, (f3 b hb).1.2.2.2.2.2⟩
    have nC : H5 s3.heap.objs.size = none := by
      have z : H5 ce.locals = none := I6.free
      rwa [cL] at z
    obtain ⟨m, hn, _⟩ := I6.loc
    have hn : s6.heap.Ns ce.locals m := hn
    rw [cL] at hn
    have f := I3.fpOk (Nat.le_refl _) nC
    obtain ⟨g0, g1, g2, g3, g4, g5⟩ := f
    exact ⟨m, hn, fun h'' sb => ⟨.ref D, H5, I7.turned (t' := s6.toks) (fun b o hb e => (sb.2 b hb).trans e) g0 g1 g3 g4 g5, rfl, qq⟩⟩
  · refine thnF (T.item (X.blk s3 H3 scope ce fp) rfl rfl rfl hc i [] s5 _ H5 (fun _ _ => False) I5 (stat I5 n5) st5 go) fun r s6 z => ?_
    obtain ⟨u, rfl, h6⟩ := z
    refine thnF h6 fun _ s7 z => ?_
    obtain ⟨x, H7, I7, r7, y7, st7, n7⟩ := z
    have I7' := I7.pinned (stat I7 n7) (T.obj _ _ st7)
    refine thnF (pg.run _ s7 _ H7 x u _ I7' r7 (step x H7 y7)) fun _ s8 z => ?_
    obtain ⟨σ8, H8, I8, hw8, q8⟩ := z
    refine wpAny_tests_nil ?_
    rw [if_pos rfl]
    refine thnF (pe.run _ s8 σ8 H8 _ I8 q8) fun z s10 zz => ?_
    obtain ⟨yv, H10, I10, r10, cb, S0, n0, rfl, hD10, hz10, nx⟩ := zz
    obtain ⟨tk, rfl⟩ := r10
    refine addI_ok (X := X.blk s3 H3 scope ce fp) I10 hD10 hz10 fun _ s11 I11 => ?_
    obtain ⟨m', hm, w'⟩ := hNx _ nx
    have pin' : ∀ b ∈ fp, ∀ o, s7.heap.get? b = some o → s11.heap.get? b = some o ∧ upd H10 D (SetO X.w D (fun j => S0 j || decide (j = cb)) (if S0 cb = true then n0 else n0 + 1)) b = none := fun b hb o e => by
      have z := I11.pin (b, o) (List.mem_append_right _ (List.mem_append_right _ (mem_pinsAt hb e)))
      exact ⟨z.1, z.2.1⟩
    have hl : (wipe σ (own.map (·.2))).length = σ8.length := by rw [← hw8, wipe_length]
    refine ⟨m', hm, i + 1, _, (I11.unpinned (pins := [])).weak hl (fun j v e => ?_), T.keep _ _ _ st7 fun b hb o e => (pin' b hb o e).1, fun b hb => ?_, w'⟩
    · rw [← hw8] at e
      exact (wipe_some e).1
    · obtain ⟨o, e, _⟩ := T.obj _ _ st7 b hb
      exact (pin' b hb o e).2
end
end K9
set_option maxHeartbeats 200000
set_option Elab.async false
set_option linter.all false
set_option maxRecDepth 100000
/-! MO: what the walks ask of the module as the top has made it (printed by gen_mo.py). -/
namespace K9
open PySem PySem.Spec PyProof.Rows L2
def SIGNS : Str := "abcdefghijklmnopqrstuvwxyz"
/-- an own class whose instances isinstance knows -/
structure Known (K : PySem.W.Frag) (C : Addr) : Prop where
  cl : Cls K C
  ha : PySem.W.findIn K (.ref C) "__class__" = some (some (.builtin "object.__class__"))
  hm : PySem.W.mroIn K C (.type "object") = some true
structure Mo (K : PySem.W.Frag) (mg : Str → Option Value) (cL cG cT cF : Addr) : Prop where
  b_isinstance : mg "isinstance" = none
  b_len : mg "len" = none
  b_all : mg "all" = none
  b_set : mg "set" = none
  b_range : mg "range" = none
  b_enumerate : mg "enumerate" = none
  b_str : mg "str" = none
  b_list : mg "list" = none
  b_tuple : mg "tuple" = none
  b_int : mg "int" = none
  b_bool : mg "bool" = none
  b_max : mg "max" = none
  b_min : mg "min" = none
  b_sorted : mg "sorted" = none
  b_reversed : mg "reversed" = none
  b_sum : mg "sum" = none
  b_abs : mg "abs" = none
  b_repr : mg "repr" = none
  signs : ∃ t, mg "SIGNS" = some (.str SIGNS t)
  c_MOST_SIGNS : ∃ t, mg "MOST_SIGNS" = some (.int (8) t)
  c_MOST_NUMBER : ∃ t, mg "MOST_NUMBER" = some (.int (10 ^ 30) t)
  c_ANSWERS_IN_ROW : ∃ t, mg "ANSWERS_IN_ROW" = some (.int (3) t)
  c_SUBJECT_IN_ROW : ∃ t, mg "SUBJECT_IN_ROW" = some (.int (4) t)
  c_WORDS_IN_ROW : ∃ t, mg "WORDS_IN_ROW" = some (.int (8) t)
  mL : mg "Letter" = some (.ref cL)
  kL : Known K cL
  nL_number : NoAttr K cL "number"
  nL_person : NoAttr K cL "person"
  nL_house : NoAttr K cL "house"
  nL_sender : NoAttr K cL "sender"
  nL_answers : NoAttr K cL "answers"
  nL_subject : NoAttr K cL "subject"
  nL_words : NoAttr K cL "words"
  nL_text : NoAttr K cL "text"
  mG : mg "Group" = some (.ref cG)
  kG : Known K cG
  nG_known : NoAttr K cG "known"
  nG_lowest : NoAttr K cG "lowest"
  mT : mg "Threads" = some (.ref cT)
  kT : Known K cT
  nT_letters : NoAttr K cT "letters"
  nT_order : NoAttr K cT "order"
  nT_groups : NoAttr K cT "groups"
  mF : mg "Forest" = some (.ref cF)
  kF : Known K cF
  nF_letters : NoAttr K cF "letters"
  nF_above : NoAttr K cF "above"
  nF_below : NoAttr K cF "below"
  nF_rings : NoAttr K cF "rings"
  hn : PySem.W.specialIn K (.builtin "object.__class__") "__get__" = some (some (.builtin "getset_descriptor.__get__"))
  htk : PySem.W.takesIn K (.builtin "object.__class__") = some true
  rL : ClX.CRead K cL (.type "type")
  rT : ClX.CRead K cT (.type "type")
  rF : ClX.CRead K cF (.type "type")
  vA : ∃ u, ClX.CVal K cL (.type "type") "MOST_ANSWERS" (.int 8) u
  vS : ∃ u, ClX.CVal K cL (.type "type") "MOST_SUBJECT" (.int 8) u
  vW : ∃ u, ClX.CVal K cL (.type "type") "MOST_WORDS" (.int 40) u
  iFT : PySem.W.kitOne K (.ref cF) (.ref cT) = some false
  iLF : PySem.W.kitOne K (.type "list") (.ref cF) = some false
  fLL : PySem.W.notFirst K cL (.ref cL) = true
  fTT : PySem.W.notFirst K cT (.ref cT) = true
  fTF : PySem.W.notFirst K cT (.ref cF) = true
  fFF : PySem.W.notFirst K cF (.ref cF) = true
  fFL : PySem.W.notFirst K cF (.type "list") = true
section
variable {P : Program} {w : World} {K : PySem.W.Frag} {mg : Str → Option Value} {base : Heap} {cL cG cT cF : Addr}
theorem Known.ty {H : Hp} {a C dx : Addr} {fs : List (Str × V)} (k : Known K C) (T : Mo K mg cL cG cT cF) (e : H a = some (.ins C dx fs)) : TyX K H (.ref a) (.ref C) := .base (.ins e k.cl k.ha T.hn T.htk k.hm)
theorem kit_self {c : Addr} : PySem.W.kitOne K (.ref c) (.ref c) = some true := by
  unfold PySem.W.kitOne
  rw [if_pos (beq_self_eq_true _)]
theorem gd_of {nm qual : Str} {st : Stmt} {f : Addr} {fd : FuncData} {k : Nat} {ps : List Str} {sp : Sp} (F : Fun K nm qual st f fd) (ok : FnOk P w K mg base CX0 k f fd ps sp) (hm : mg nm = some (.ref f)) (hb : Binds K fd ps []) : Gd P w K mg base k nm ps sp := ⟨f, fd, ok, hm, F.kp, hb⟩
theorem md_of {m : Str} {C f : Addr} {fd : FuncData} {k : Nat} {ps : List Str} {sp : Sp} (ok : FnOk P w K mg base CX0 k f fd ps sp) (hm : Meth K C m f) (hb : Binds K fd ps []) : Md P w K mg base C k m ps sp := ⟨f, fd, ok, hm, hb⟩
theorem id_of {C f : Addr} {fd : FuncData} {k : Nat} {ps : List Str} {sp : Sp} (ok : FnOk P w K mg base CX0 k f fd ps sp) (hm : Mk K C f) (hb : Binds K fd ps []) : Id P w K mg base C k ps sp := ⟨f, fd, ok, hm, hb⟩
end
end K9
set_option maxHeartbeats 200000
set_option Elab.async false
set_option linter.all false
set_option maxRecDepth 100000
/-! KV: rules with the frame of the text written out (for blocks of comprehensions). -/
namespace K9
open PySem PySem.Spec PyProof.Rows L2
section
variable {X : Cx} {K : PySem.W.Frag} {a b c e o : Expr} {ta tb te to : TE} {pos apos : Pos}
theorem pe_fldK {f : Str} (K : PySem.W.Frag) (he : PE X e ta) (hK : X.K = K := by rfl) (hb : attributeBase e f X.env (eval e X.env) = eval e X.env := by rfl) : PE X (.Attribute e f pos) (tFld K ta f) := by
  subst hK; exact pe_fld he hb
theorem sl_listK (K : PySem.W.Frag) (hK : X.K = K := by rfl) : SlR X (rSlL K) := by subst hK; exact sl_list
theorem ix_seqK (K : PySem.W.Frag) (hK : X.K = K := by rfl) : IxR X (rIx K) := by subst hK; exact ix_seq
theorem op_inK (K : PySem.W.Frag) (hK : X.K = K := by rfl) : OpR X (compareOp .In) (rIn K false) := by subst hK; exact op_in_seq
theorem op_notInK (K : PySem.W.Frag) (hK : X.K = K := by rfl) : OpR X (compareOp .NotIn) (rIn K true) := by subst hK; exact op_notIn_seq
def rLenSq (K : PySem.W.Frag) : List V → Hp → VK → Prop := fun xs H Q => ∃ p ys, xs = [V.ref p] ∧ (SqL K H p ys ∨ SqT K H p ys) ∧ Q (.int ys.length) H
theorem call_lenK (K : PySem.W.Frag) (hK : X.K = K := by rfl) : CallR X (.builtin "len") (rLenSq K) := by subst hK; exact call_len_seq
def rJoin (K : PySem.W.Frag) : V → List V → Hp → VK → Prop := fun x xs H Q => ∃ a p, ∃ ys : List Str, x = .str a ∧ xs = [.ref p] ∧ (SqL K H p (ys.map V.str) ∨ SqT K H p (ys.map V.str)) ∧
  (ys.map (·.length)).sum + ys.length * a.length ≤ 16777216 ∧ Q (.str (Txt.join a ys)) H
theorem pe_joinK (K : PySem.W.Frag) (ho : PE X o to) (he : PE X e te) (hK : X.K = K := by rfl) (hs : starEach [e] X.env = [(false, eval e X.env)] := by rfl) (hbase : attributeBase o "join" X.env (eval o X.env) = eval o X.env := by rfl) (hline : (apos.endLine == pos.line) = true := by rfl) :
    PE X (.Call (.Attribute o "join" apos) [e] [] pos) (tM1 (rJoin K) to te) := by subst hK; exact pe_join ho he hs hbase hline
theorem pg_tupK {es : List Expr} {k : Nat} {t : TGs} (K : PySem.W.Frag) (n : Nat) (hc : X.calm = true) (h : PGs X es t) (hK : X.K = K := by rfl)
    (hn : (assignEach es X.env).length = n := by rfl) (hst : (assignEach es X.env).findIdx? (·.1) = none := by rfl) : PG X (.Tuple es k pos) (gTup K n t) := by subst hK; exact pg_tup hc h hn hst
theorem pi_listK {tg : Expr} (K : PySem.W.Frag) (he : PE X e te) (hK : X.K = K := by rfl) : PI X tg e (iList K te) := by subst hK; exact pi_list he
theorem call_listK (K : PySem.W.Frag) (hK : X.K = K := by rfl) : CallR X (.type "list") (fun xs H Q => ∃ p ys, xs = [V.ref p] ∧ (SqL K H p ys ∨ SqT K H p ys) ∧ ∀ l, H l = none → Q (.ref l) (upd H l (.lst ys))) := by subst hK; exact call_list_of
end
/-! ### == and != of data with a type -/
instance : PySem.W.Datum (Option Int) where
  toD | none => .none | some i => .int i
  plain a := by cases a <;> rfl
  eqv a b := by
    cases a with
    | none => cases b <;> simp [PyData.eqv]
    | some i => cases b with
      | none => simp [PyData.eqv]
      | some j =>
        simp only [PyData.eqv, Option.some.injEq]
        exact PySem.W.beq_decide i j
  depth := 0
  depth_le a := by cases a <;> exact Nat.le_refl _
/-- a value that reads as x -/
abbrev HD (K : PySem.W.Frag) (H : Hp) {α : Type} [DecidableEq α] [PySem.W.Datum α] (v : V) (x : α) : Prop := Dp K H v (PySem.W.Datum.toD x)
abbrev HDs (K : PySem.W.Frag) (H : Hp) {α : Type} [DecidableEq α] [PySem.W.Datum α] (vs : List V) (xs : List α) : Prop := DpAll K H vs (xs.map PySem.W.Datum.toD)
def rEqM (K : PySem.W.Frag) (α : Type) [DecidableEq α] [PySem.W.Datum α] : R2 := fun x y H Q => ∃ a b : α, HD K H x a ∧ HD K H y b ∧ Q (.bl (decide (a = b))) H
def rNeM (K : PySem.W.Frag) (α : Type) [DecidableEq α] [PySem.W.Datum α] : R2 := fun x y H Q => ∃ a b : α, HD K H x a ∧ HD K H y b ∧ Q (.bl (decide (a ≠ b))) H
section
variable {X : Cx} {α : Type} [DecidableEq α] [PySem.W.Datum α]
theorem op_eqM (K : PySem.W.Frag) (α : Type) [DecidableEq α] [PySem.W.Datum α] (hu : X.A.units + 64 < cLine) (hd : PySem.W.Datum.depth α ≤ 60 := by decide) (hK : X.K = K := by rfl) : OpR X (compareOp .Eq) (rEqM K α) := by
  subst hK
  intro pins s σ H x y v u Q I rx ry h
  obtain ⟨a, b, ha, hb, q⟩ := h
  exact PySem.W.eq_datum (Dp.reads I _ _ _ ha rx) (Dp.reads I _ _ _ hb ry) (by omega) ⟨.bl _, H, I, rfl, q⟩
theorem op_neM (K : PySem.W.Frag) (α : Type) [DecidableEq α] [PySem.W.Datum α] (hu : X.A.units + 64 < cLine) (hd : PySem.W.Datum.depth α ≤ 60 := by decide) (hK : X.K = K := by rfl) : OpR X (compareOp .NotEq) (rNeM K α) := by
  subst hK
  intro pins s σ H x y v u Q I rx ry h
  obtain ⟨a, b, ha, hb, q⟩ := h
  exact PySem.W.ne_datum (Dp.reads I _ _ _ ha rx) (Dp.reads I _ _ _ hb ry) (by omega) ⟨.bl _, H, I, rfl, q⟩
end
section
variable {K : PySem.W.Frag} {H H' : Hp}
theorem hds_ints : ∀ ns : List Int, HDs K H (ns.map V.int) ns
  | [] => .nil
  | n :: ns => .cons (.int n) (hds_ints ns)
theorem hds_strs : ∀ ns : List Str, HDs K H (ns.map V.str) ns
  | [] => .nil
  | n :: ns => .cons (.str n) (hds_strs ns)
/-- none or an int -/
def oV : Option Int → V
  | none => .non
  | some i => .int i
theorem hd_oV (o : Option Int) : HD K H (oV o) o := by
  cases o with
  | none => exact .non
  | some i => exact .int i
theorem hds_oV : ∀ ns : List (Option Int), HDs K H (ns.map oV) ns
  | [] => .nil
  | n :: ns => .cons (hd_oV n) (hds_oV ns)
theorem hd_ints {a : Addr} {ns : List Int} (h : SqL K H a (ns.map V.int)) : HD K H (.ref a) ns := .lst h (hds_ints ns)
theorem hd_strs {a : Addr} {ns : List Str} (h : SqL K H a (ns.map V.str)) : HD K H (.ref a) ns := .lst h (hds_strs ns)
theorem hd_tints {a : Addr} {ns : List Int} (h : SqT K H a (ns.map V.int)) : HD K H (.ref a) (PySem.W.Tup.mk ns) := .tup h (hds_ints ns)
theorem hd_tstrs {a : Addr} {ns : List Str} (h : SqT K H a (ns.map V.str)) : HD K H (.ref a) (PySem.W.Tup.mk ns) := .tup h (hds_strs ns)
theorem SqT.ext {a : Addr} {xs : List V} (h : SqT K H a xs) (e : Ext H H') : SqT K H' a xs := h.imp (fun r => r.imp (e _ _) fun ⟨o, z⟩ => ⟨o, e _ _ z⟩) id
theorem SqL.ext {a : Addr} {xs : List V} (h : SqL K H a xs) (e : Ext H H') : SqL K H' a xs := h.imp (fun r => r.imp (e _ _) fun ⟨o, z⟩ => ⟨o, e _ _ z⟩) id
end
end K9
set_option Elab.async false
set_option linter.all false
set_option maxRecDepth 100000
set_option maxHeartbeats 2000000
/-! WL: the walk of the letters' part. -/
namespace K9
open PySem PySem.Spec PyProof.Rows L2 SX

/-! ### plain facts -/
def NameOk (z : Str) : Prop := 1 ≤ z.length ∧ z.length ≤ 8 ∧ ∀ c ∈ z.cps.toList, 97 ≤ c ∧ c ≤ 122
theorem signs_S : SIGNS = S (List.range' 97 26) := by decide +kernel
theorem sign_in {c : Nat} (h : 97 ≤ c ∧ c ≤ 122) : (!(Builtin.Str.occurrences SIGNS (S [c]) 0 SIGNS.length 1).isEmpty) = true := by
  rw [signs_S, in_one]
  exact decide_eq_true (List.mem_range'.mpr ⟨c - 97, by omega, by omega⟩)
/-- a letter's number -/
def NumOk (n : Int) : Prop := 1 ≤ n ∧ n ≤ 10 ^ 30
theorem NumOk.dec {n : Int} (h : NumOk n) : decide (1 ≤ n) = true ∧ decide (n ≤ 10 ^ 30) = true := ⟨decide_eq_true h.1, decide_eq_true h.2⟩

/-! ### promises -/
/-- x is an int, in range -/
def spIsNum : Sp := fun vs H Q _ => ∃ n : Int, vs = [.int n] ∧ NumOk n ∧ Q (.bl true) H
/-- isName(x): x a name -/
def spIsName : Sp := fun vs H Q _ => ∃ z : Str, vs = [.str z] ∧ NameOk z ∧ ∀ H', Ext H H' → Q (.bl true) H'
section
variable {P : Program} {w : World} {K : PySem.W.Frag} {mg : Str → Option Value} {base : Heap} {cL cG cT cF : Addr}
theorem ok_isnum {f : Addr} {fd : FuncData} (F : Fun K "is_number" "is_number" sIsNum f fd) (T : Mo K mg cL cG cT cF) : FnOk P w K mg base CX0 1 f fd pIsNum spIsNum := by
  refine F.ok scIsNum (fun vs H Q E h => ?_) (fun cdv A outer s H vs Q E hr h => ?_)
  · obtain ⟨n, rfl, _⟩ := h; rfl
  · obtain ⟨n, rfl, hn, k⟩ := h
    obtain ⟨t, hM⟩ := T.c_MOST_NUMBER
    refine ⟨_, pss_cons (ps_if (pw_or (pt_not (pt_val (pe_callB call_isi (by rfl) T.b_isinstance boot_isinstance (pa_cons (pv 0) (pa_cons (pe_bltn (v := .ty "int") (by rfl) T.b_int boot_int rfl) pa_nil)))))
      (pw_or1 (pt_val (pe_callB call_isi (by rfl) T.b_isinstance boot_isinstance (pa_cons (pv 0) (pa_cons (pe_bltn (v := .ty "bool") (by rfl) T.b_bool boot_bool rfl) pa_nil)))))).pt (pss_one (ps_ret pe_bl)) pss_nil)
      (pss_one (ps_ret (pe_chain op_le op_le pe_int (pv 0) (pe_glob (v := .int (10 ^ 30)) (by rfl) hM ⟨_, rfl⟩)))), ?_⟩
    refine ⟨_, rfl, _, _, _, _, true, rfl, .ty _, .base (.int n), kit_ty (by decide +kernel), _, rfl, ?_⟩
    refine ⟨_, rfl, _, _, _, _, false, rfl, .ty _, .base (.int n), kit_ty (by decide +kernel), _, rfl, ?_⟩
    refine ⟨_, rfl, _, _, rfl, rfl, _, rfl, ?_⟩
    rw [hn.dec.1]
    refine ⟨_, _, rfl, rfl, ?_⟩
    show Q (.bl (decide (n ≤ 10 ^ 30))) H
    rw [hn.dec.2]
    exact k
theorem ok_isname {f : Addr} {fd : FuncData} (F : Fun K "is_name" "is_name" sIsName f fd) (T : Mo K mg cL cG cT cF) : FnOk P w K mg base CX0 1 f fd pIsName spIsName := by
  refine F.ok scIsName (fun vs H Q E h => ?_) (fun cdv A outer s H vs Q E hr h => ?_)
  · obtain ⟨n, rfl, _⟩ := h; rfl
  · obtain ⟨z, rfl, hz, k⟩ := h
    obtain ⟨t, hM⟩ := T.c_MOST_SIGNS
    obtain ⟨t2, hS⟩ := T.signs
    refine ⟨_, pss_cons (ps_if (pt_not (pt_val (pe_callB call_isi (by rfl) T.b_isinstance boot_isinstance (pa_cons (pv 0) (pa_cons (pe_bltn (v := .ty "str") (by rfl) T.b_str boot_str rfl) pa_nil))))) (pss_one (ps_ret pe_bl)) pss_nil)
      (pss_cons (ps_if (pt_not (pt_chain op_le op_le pe_int (pe_callB call_len_str (by rfl) T.b_len boot_len (pa_cons (pv 0) pa_nil)) (pe_glob (v := .int 8) (by rfl) hM ⟨_, rfl⟩))) (pss_one (ps_ret pe_bl)) pss_nil)
      (pss_one (ps_ret (pe_callB (cr_all rfl) (by rfl) T.b_all boot_all (pa_cons (pe_lc rfl scIsName.nd (pi_str (pv 0)) (own := [("sign", 1)]) (blkOk_by (by show blkC nIsName (defScope sIsName) _ _ = true; decide +kernel)) (fun _ _ _ _ _ => pg_name (i := 1) scIsName.nd rfl (Or.inl rfl)) (fun _ _ _ _ _ => pts_nil)
        (fun _ _ _ _ _ => pe_cmpR op_in_str (pv 1) (pe_glob (v := .str SIGNS) (by rfl) hS ⟨_, rfl⟩) (by rfl))) pa_nil))))), ?_⟩
    refine ⟨_, rfl, _, _, _, _, true, rfl, .ty _, .base (.str z), kit_ty (by decide +kernel), _, rfl, ?_⟩
    have small : z.length ≤ sizeLine := by rw [sizeLine_eq]; have := hz.2.1; omega
    refine ⟨_, rfl, z, rfl, small, _, _, rfl, rfl, _, rfl, ?_⟩
    have l1 : (1 : Int) ≤ (z.length : Nat) := by have := hz.1; omega
    have l2 : ((z.length : Nat) : Int) ≤ 8 := by have := hz.2.1; omega
    rw [decide_eq_true l1]
    refine ⟨_, _, rfl, rfl, _, rfl, ?_⟩
    rw [decide_eq_true l2]
    refine ⟨_, rfl, z, rfl, fun D hD => lc_each walk_str (fun _ y _ => y = .bl true) hD small (fun _ _ => trivial) (fun _ _ _ _ _ _ e => e) (fun i x H1 H2 hi e y A hA => ?_) fun H1 ys e hy o => ?_⟩
    · obtain ⟨rfl, c, hc, rfl⟩ := y
      refine ⟨rfl, _, rfl, S [c], SIGNS, rfl, rfl, ?_⟩
      have hm : c ∈ z.cps.toList := by
        have := Array.mem_of_getElem? hc
        exact Array.mem_toList_iff.mpr this
      rw [sign_in (hz.2.2 c hm)]
      exact hA _ _ Ext.rfl' rfl
    · have em := o.map fun i y q => q
      refine ⟨D, List.replicate z.cps.size true, rfl, .inl (.inl ?_), ?_⟩
      · rw [hy, em]
        simp [List.map_const']
      · have all : (List.replicate z.cps.size true).all id = true := by simp
        rw [all]
        exact k H1 e
end
/-- an empty tuple of the module (a default) -/
def EmpT (K : PySem.W.Frag) (a : Addr) : Prop := ∃ (dd : Option Addr) (n : Nat) (sl : Array (Option Value)), K.lookup a = some ⟨.type "tuple", dd, .seq #[] n, sl⟩
theorem EmpT.seq {K : PySem.W.Frag} {a : Addr} (e : EmpT K a) (H : Hp) : SqT K H a [] := by
  obtain ⟨dd, n, sl, e⟩ := e
  exact .inr ⟨_, #[], n, e, rfl, rfl, Nat.zero_le _, .nil⟩
theorem kit_lt {K : PySem.W.Frag} {t : String} (h : t = "list" ∨ t = "tuple") : PySem.W.kitAny K (.type t) [.type "list", .type "tuple"] = some true := by
  rcases h with rfl | rfl
  · exact kitAny_cons (b := true) (kit_ty (by decide +kernel)) (fun z => by cases z) fun _ => rfl
  · exact kitAny_cons (b := false) (kit_ty (by decide +kernel)) (fun _ => kitAny_cons (b := true) (kit_ty (by decide +kernel)) (fun z => by cases z) fun _ => rfl) fun z => by cases z
/-- a list of the heap, or an empty tuple of the module -/
def LsT (K : PySem.W.Frag) (H : Hp) (a : Addr) (xs : List V) : Prop := H a = some (.lst xs) ∨ (EmpT K a ∧ xs = [])
theorem LsT.ty {K : PySem.W.Frag} {H : Hp} {a : Addr} {xs : List V} (h : LsT K H a xs) : ∃ t, TyX K H (.ref a) (.type t) ∧ (t = "list" ∨ t = "tuple") := by
  rcases h with h | ⟨⟨dd, n, sl, e⟩, _⟩
  · exact ⟨"list", .base (.lst h), .inl rfl⟩
  · exact ⟨"tuple", .kTuple e rfl, .inr rfl⟩
theorem LsT.seq {K : PySem.W.Frag} {H : Hp} {a : Addr} {xs : List V} (h : LsT K H a xs) : SqL K H a xs ∨ SqT K H a xs := by
  rcases h with h | ⟨e, rfl⟩
  · exact .inl (.inl (.inl h))
  · exact .inr (e.seq H)
theorem LsT.ext {K : PySem.W.Frag} {H H' : Hp} {a : Addr} {xs : List V} (h : LsT K H a xs) (e : Ext H H') : LsT K H' a xs := h.imp (e _ _) id
/-- over a list, or an empty tuple of the module -/
def iSeq (K : PySem.W.Frag) (tl : TE) : TI := fun σ H R => tl σ H fun x H1 => ∃ a xs, x = .ref a ∧ LsT K H1 a xs ∧ ∀ J, L2.Walk J xs.length (fun H => Ext H1 H) (YAt xs) → R J H1
theorem pi_seq {X : Cx} {tg l : Expr} {tl : TE} (hl : PE X l tl) : PI X tg l (iSeq X.K tl) := by
  refine ⟨fun pins s σ H R I h => thn (hl.run pins s σ H _ I h) fun v s1 z => ?_⟩
  obtain ⟨x, H1, I1, r1, a, xs, rfl, ha, q⟩ := z
  cases r1
  have fp : ∀ b ∈ [s1.heap.objs.size], FpOk X pins H1 b := fun b hb => by
    rw [List.mem_singleton.mp hb]
    exact I1.fpOk (Nat.le_refl _) (I1.hok.fresh (Nat.le_refl _))
  rcases ha with ha | ⟨ha, rfl⟩
  · obtain ⟨its, rv, p, hz⟩ := I1.list (xs := xs) (.inl (.inl ha))
    exact wpAny_pyIter_list p.isList ⟨_, _, _, _, H1, rfl, I1.kept (t' := s1.toks) fun b o e => Heap.get?_push_of_some _ e, turn_list a _, ⟨_, Heap.get?_push_size _ rfl, rfl, rfl⟩, fp, q _ (walk_list.mono (fun H e => .inl (.inl (e _ _ ha))) fun _ _ _ _ _ _ y => y)⟩
  · obtain ⟨its, rv, p, hz⟩ := I1.tuple (ha.seq H1)
    exact wpAny_pyIter_tuple (show s1.heap.IsTuple a its.toArray from p) ⟨_, _, _, _, H1, rfl, I1.kept (t' := s1.toks) fun b o e => Heap.get?_push_of_some _ e, turn_tuple a _, ⟨_, Heap.get?_push_size _ rfl, rfl, rfl⟩, fp, q _ (walk_tup.mono (fun H e => ha.seq H) fun _ _ _ _ _ _ y => y)⟩
/-- each of these is named well -/
def spAreN (K : PySem.W.Frag) : Sp := fun vs H Q _ => ∃ (a : Addr) (m : Int) (xs : List Str), vs = [.ref a, .int m] ∧ LsT K H a (xs.map V.str) ∧ (xs.length : Int) ≤ m ∧ xs.length ≤ sizeLine ∧ (∀ z ∈ xs, NameOk z) ∧ ∀ H', Ext H H' → Q (.bl true) H'
def AnsOk (n : Int) (ns : List Int) : Prop := ns.length ≤ 8 ∧ (∀ m ∈ ns, NumOk m) ∧ n ∉ ns ∧ ns.Nodup
def spFits : Sp := fun vs H Q _ => ∃ (n : Int) (a : Addr) (ns : List Int), vs = [.int n, .ref a] ∧ H a = some (.lst (ns.map V.int)) ∧ AnsOk n ns ∧ ∀ H', Ext H H' → Q (.bl true) H'
section
variable {P : Program} {w : World} {K : PySem.W.Frag} {mg : Str → Option Value} {base : Heap} {cL cG cT cF : Addr}
theorem ok_aren {f : Addr} {fd : FuncData} (F : Fun K "are_names" "are_names" sAreN f fd) (T : Mo K mg cL cG cT cF) (G : Gd P w K mg base 1 "is_name" pIsName spIsName) : FnOk P w K mg base CX0 2 f fd pAreN (spAreN K) := by
  refine F.ok scAreN (fun vs H Q E h => ?_) (fun cdv A outer s H vs Q E hr h => ?_)
  · obtain ⟨_, _, _, rfl, _⟩ := h; rfl
  · obtain ⟨a, m, xs, rfl, ha, hm, small, hz, k⟩ := h
    refine ⟨_, pss_cons (ps_if (pw_or (pt_not (pt_val (pe_callB call_isiT (by rfl) T.b_isinstance boot_isinstance (pa_cons (pv 0) (pa_cons (pe_tup (pa_cons (pe_bltn (v := .ty "list") (by rfl) T.b_list boot_list rfl) (pa_cons (pe_bltn (v := .ty "tuple") (by rfl) T.b_tuple boot_tuple rfl) pa_nil))) pa_nil)))))
      (pw_or1 (pt_cmpR op_gt (pe_callB call_len_seq (by rfl) T.b_len boot_len (pa_cons (pv 0) pa_nil)) (pv 1) (nomark _)))).pt (pss_one (ps_ret pe_bl)) pss_nil)
      (pss_one (ps_ret (pe_callB (cr_all rfl) (by rfl) T.b_all boot_all (pa_cons (pe_lc rfl scAreN.nd (pi_seq (pv 0)) (own := [("value", 2)]) (blkOk_by (by show blkC nAreN (defScope sAreN) _ _ = true; decide +kernel)) (fun _ _ _ _ _ => pg_name (i := 2) scAreN.nd rfl (Or.inl rfl)) (fun _ _ _ _ _ => pts_nil)
        (fun _ _ _ _ _ => pe_g G hr (by rfl) (pa_cons (pv 2) pa_nil))) pa_nil)))), ?_⟩
    obtain ⟨t, ty, ht⟩ := ha.ty
    refine ⟨_, rfl, by decide, fun tp htp => ?_⟩
    have e1 : Ext H (upd H tp (.tup [.ty "list", .ty "tuple"])) := Ext.upd htp
    obtain ⟨t, ty, ht⟩ := (ha.ext e1).ty
    refine ⟨_, tp, _, _, _, true, rfl, upd_same, .cons (.ty _) (.cons (.ty _) .nil), ty, kit_lt ht, _, rfl, ?_⟩
    refine ⟨_, rfl, a, _, rfl, (ha.ext e1).seq, _, rfl, _, _, rfl, rfl, _, rfl, ?_⟩
    rw [decide_eq_false (by simpa using hm)]
    refine ⟨_, rfl, a, _, rfl, ha.ext e1, fun J wk D hD => lc_each wk (fun _ y _ => y = .bl true) hD (by simpa using small) (fun _ e => e) (fun _ _ _ _ _ _ e => e) (fun i x H1 H2 hi e y A hA => ?_) fun H1 ys e hy o => ?_⟩
    · obtain ⟨rfl, hx⟩ := y
      obtain ⟨z, hzm, rfl⟩ := List.mem_map.mp (List.mem_of_getElem? hx)
      exact ⟨rfl, _, rfl, z, rfl, hz z hzm, fun H3 e3 => hA _ _ e3 rfl⟩
    · have em := o.map fun i y q => q
      refine ⟨D, List.replicate xs.length true, rfl, .inl (.inl ?_), ?_⟩
      · rw [hy, em]
        simp [List.map_const']
      · have all : (List.replicate xs.length true).all id = true := by simp
        rw [all]
        exact k H1 (e1.trans e)
theorem inV_int (n : Int) : ∀ ns : List Int, inV (V.int n) (ns.map V.int) = decide (n ∈ ns)
  | [] => rfl
  | m :: ns => by
    have ih := inV_int n ns
    unfold inV at ih ⊢
    rw [List.map_cons, List.any_cons, ih]
    by_cases e : n = m
    · subst e
      simp [eqV]
    · have h1 : eqV (V.int m) (V.int n) = false := by simp [eqV, Ne.symm e]
      rw [h1]
      simp [e]
theorem flat_ints (ns : List Int) : (ns.map V.int).all flatV = true := by
  rw [List.all_map, List.all_eq_true]
  intro _ _
  rfl
theorem ok_fits {f : Addr} {fd : FuncData} (F : Fun K "fits_answers" "fits_answers" sFitsA f fd) (T : Mo K mg cL cG cT cF) (G : Gd P w K mg base 1 "is_number" pIsNum spIsNum) : FnOk P w K mg base CX0 2 f fd pFitsA spFits := by
  refine F.ok scFitsA (fun vs H Q E h => ?_) (fun cdv A outer s H vs Q E hr h => ?_)
  · obtain ⟨_, _, _, rfl, _⟩ := h; rfl
  · obtain ⟨n, a, ns, rfl, ha, ⟨hl, hno, hni, hnd⟩, k⟩ := h
    obtain ⟨uA, hA⟩ := T.vA
    refine ⟨_, pss_cons (ps_if (pw_or (pt_not (pt_val (pe_callB call_isiT (by rfl) T.b_isinstance boot_isinstance (pa_cons (pv 1) (pa_cons (pe_tup (pa_cons (pe_bltn (v := .ty "list") (by rfl) T.b_list boot_list rfl) (pa_cons (pe_bltn (v := .ty "tuple") (by rfl) T.b_tuple boot_tuple rfl) pa_nil))) pa_nil)))))
      (pw_or1 (pt_cmpR op_gt (pe_callB call_len_seq (by rfl) T.b_len boot_len (pa_cons (pv 1) pa_nil)) (ClX.pe_cval (pe_glob (v := .ref cL) (by rfl) T.mL rfl)) (nomark _)))).pt (pss_one (ps_ret pe_bl)) pss_nil)
      (pss_cons (ps_if (pt_not (pt_val (pe_callB (cr_all rfl) (by rfl) T.b_all boot_all (pa_cons (pe_lc rfl scFitsA.nd (pi_list (pv 1)) (own := [("answer", 2)]) (blkOk_by (by show blkC nFitsA (defScope sFitsA) _ _ = true; decide +kernel)) (fun _ _ _ _ _ => pg_name (i := 2) scFitsA.nd rfl (Or.inl rfl)) (fun _ _ _ _ _ => pts_nil)
        (fun _ _ _ _ _ => pe_g G hr (by rfl) (pa_cons (pv 2) pa_nil))) pa_nil)))) (pss_one (ps_ret pe_bl)) pss_nil)
      (pss_one (ps_ret (pe_and (pe_cmpR op_notIn_seq (pv 0) (pv 1) rfl) (pe_one (pe_cmpR op_eq (RZ.pe_lenSetI (by rfl) T.b_len (by rfl) T.b_set (pv 1)) (pe_callB call_len_seq (by rfl) T.b_len boot_len (pa_cons (pv 1) pa_nil)) (nomark _))))))), ?_⟩
    refine ⟨_, rfl, by decide, fun tp htp => ?_⟩
    have e1 : Ext H (upd H tp (.tup [.ty "list", .ty "tuple"])) := Ext.upd htp
    refine ⟨_, tp, _, _, _, true, rfl, upd_same, .cons (.ty _) (.cons (.ty _) .nil), .base (.lst (e1 _ _ ha)), kit_lt (.inl rfl), _, rfl, ?_⟩
    refine ⟨_, rfl, a, _, rfl, .inl (.inl (.inl (e1 _ _ ha))), cL, _, _, _, rfl, T.rL, hA, _, _, rfl, rfl, _, rfl, ?_⟩
    rw [decide_eq_false (by rw [List.length_map]; omega)]
    refine ⟨_, rfl, a, rfl, ⟨_, .inl (.inl (e1 _ _ ha))⟩, fun D hD => lc_each walk_list (fun _ y _ => y = .bl true) hD (by rw [List.length_map, sizeLine_eq]; omega) (fun _ e => .inl (.inl (e _ _ (e1 _ _ ha)))) (fun _ _ _ _ _ _ e => e) (fun i x H1 H2 hi e y A hA => ?_) fun H1 ys e hy o => ?_⟩
    · obtain ⟨rfl, hx⟩ := y
      obtain ⟨z, hzm, rfl⟩ := List.mem_map.mp (List.mem_of_getElem? hx)
      exact ⟨rfl, _, rfl, z, rfl, hno z hzm, hA _ _ Ext.rfl' rfl⟩
    · have em := o.map fun i y q => q
      have a1 := e _ _ (e1 _ _ ha)
      refine ⟨D, List.replicate ns.length true, rfl, .inl (.inl ?_), true, ?_, ?_⟩
      · rw [hy, em]
        simp [List.map_const']
      · simp
      · refine ⟨_, rfl, _, rfl, a, _, rfl, .inl (.inl (.inl a1)), rfl, flat_ints ns, true, ?_, ?_⟩
        · rw [inV_int]; simp [hni]
        · refine ⟨_, rfl, a, ns, rfl, .inl (.inl a1), hnd, by omega, _, rfl, a, _, rfl, .inl (.inl (.inl a1)), rfl, ?_⟩
          have e2 : decide (V.int (ns.length : Nat) = V.int (((ns.map V.int).length : Nat) : Int)) = true := by simp
          rw [e2]
          exact k H1 (e1.trans e)
end
/-- texts of at most 40 signs -/
def Short (m : Nat) (xs : List Str) : Prop := ∀ x ∈ xs, x.length ≤ m
def spWrap : Sp := fun vs H Q _ => ∃ (lead : Str) (a : Addr) (wd : Int) (xs : List Str), vs = [.str lead, .ref a, .int wd] ∧ lead.length ≤ 40 ∧ H a = some (.lst (xs.map V.str)) ∧ xs.length ≤ 8 ∧ Short 40 xs ∧ (wd = 3 ∨ wd = 4) ∧
  ∀ (p : Addr) (H' : Hp) (rows : List Str), Ext H H' → H' p = some (.lst (rows.map V.str)) → rows.length ≤ 8 → Short 1000 rows → Q (.ref p) H'
def spBody (K : PySem.W.Frag) : Sp := fun vs H Q _ => ∃ (a : Addr), vs = [.ref a] ∧ SqT K H a [] ∧ ∀ p, H p = none → Q (.ref p) (upd H p (.lst []))
theorem join_len (a : Str) (ys : List Str) : (Txt.join a ys).length ≤ (ys.map (·.length)).sum + ys.length * a.length := by
  have e : Txt.join a ys = Str.join a ys := StrLaws.glued_eq_join a ys
  rw [e]
  exact StrLaws.join_length_le a ys
theorem sum_short {m : Nat} : ∀ {ys : List Str}, Short m ys → (ys.map (·.length)).sum ≤ ys.length * m
  | [], _ => Nat.zero_le _
  | y :: ys, h => by
    have h1 := h y List.mem_cons_self
    have h2 := sum_short (ys := ys) fun x hx => h x (List.mem_cons_of_mem _ hx)
    rw [List.map_cons, List.sum_cons, List.length_cons, Nat.add_mul]
    omega
/-- the parts of a row of at most eight: how many, and that the range is small -/
def cuts (l : Nat) (c : Int) : Nat := (l + c.toNat - 1) / c.toNat
theorem rg_ok : ∀ l, l < 9 → RgC 0 (l : Nat) 3 (cuts l 3) ∧ RgC 0 (l : Nat) 4 (cuts l 4) ∧ cuts l 3 ≤ 8 ∧ cuts l 4 ≤ 8 := by
  unfold RgC
  decide +kernel
section
variable {P : Program} {w : World} {K : PySem.W.Frag} {mg : Str → Option Value} {base : Heap} {cL cG cT cF : Addr}
theorem ok_body {f : Addr} {fd : FuncData} (F : Fun K "body_rows" "body_rows" sBody f fd) (T : Mo K mg cL cG cT cF) : FnOk P w K mg base CX0 1 f fd pBody (spBody K) := by
  refine F.ok scBody (fun vs H Q E h => ?_) (fun cdv A outer s H vs Q E hr h => ?_)
  · obtain ⟨_, rfl, _⟩ := h; rfl
  · obtain ⟨a, rfl, ha, k⟩ := h
    refine ⟨_, pss_cons (ps_if (pt_not (pt_truth (pv 0) (fun _ => rfl))) (pss_one (ps_ret (pe_lst pa_nil))) pss_nil) (pss_one (t := tNever) ps_never), ?_⟩
    exact ⟨_, rfl, false, .inr (.inl ⟨[], ha, rfl⟩), Nat.zero_le _, k⟩
theorem cutV_strs (xs : List Str) (lo hi : Option Int) : ∃ ys : List Str, cutV (xs.map V.str) lo hi = ys.map V.str ∧ ys.length ≤ xs.length ∧ ∀ y ∈ ys, y ∈ xs := by
  refine ⟨(xs.drop (HT.sIx xs.length 0 lo)).take (HT.sIx xs.length xs.length hi - HT.sIx xs.length 0 lo), ?_, ?_, fun y hy => ?_⟩
  · unfold cutV
    rw [List.length_map, ← List.map_drop, ← List.map_take]
  · rw [List.length_take, List.length_drop]; omega
  · exact List.mem_of_mem_drop (List.mem_of_mem_take hy)
theorem outs_strs {m : Nat} {H : Hp} : ∀ {is : List Nat} {ys : List V}, Outs (fun _ y _ => ∃ z : Str, y = .str z ∧ z.length ≤ m) H is ys → ∃ zs : List Str, ys = zs.map V.str ∧ zs.length = is.length ∧ Short m zs
  | _, _, .nil => ⟨[], rfl, rfl, fun x hx => by cases hx⟩
  | _, _, .cons ⟨z, e, hz⟩ t => by
    obtain ⟨zs, e2, l, sh⟩ := outs_strs t
    refine ⟨z :: zs, by rw [e, e2, List.map_cons], by simp [l], fun x hx => ?_⟩
    rcases List.mem_cons.mp hx with h | h
    · rw [h]; exact hz
    · exact sh x h
theorem ok_wrap {f : Addr} {fd : FuncData} (F : Fun K "wrapped" "wrapped" sWrap f fd) (T : Mo K mg cL cG cT cF) : FnOk P w K mg base CX0 1 f fd pWrap spWrap := by
  refine F.ok scWrap (fun vs H Q E h => ?_) (fun cdv A outer s H vs Q E hr h => ?_)
  · obtain ⟨_, _, _, _, rfl, _⟩ := h; rfl
  · obtain ⟨lead, a, wd, xs, rfl, hlead, ha, hl, hsh, hw, k⟩ := h
    have hu := hu_of hr
    refine ⟨_, pss_cons (ps_setLc (i := 3) rfl scWrap.nd rfl rfl (by rfl) (pi_range3 (by rfl) T.b_range (pa_cons pe_int (pa_cons (pe_callB call_len_seq (by rfl) T.b_len boot_len (pa_cons (pv 1) pa_nil)) (pa_cons (pv 2) pa_nil)))) (own := [("at", 4)]) (blkOk_by (by show blkC nWrap (defScope sWrap) _ _ = true; decide +kernel)) (fun _ _ _ _ _ => pg_name (i := 4) scWrap.nd rfl (Or.inl rfl)) (fun _ _ _ _ _ => pts_nil)
        (fun _ _ _ _ _ => pe_joinK K pe_str (pe_slice (sl_listK K) (pv 1) (po_some (pv 4)) (po_some (pe_op op_add (pv 4) (pv 2))))))
      (pss_one (ps_ret (pe_lc rfl scWrap.nd (pi_enum (by rfl) T.b_enumerate (pa_cons (pv 3) pa_nil)) (own := [("at", 4), ("part", 5)]) (blkOk_by (by show blkC nWrap (defScope sWrap) _ _ = true; decide +kernel)) (fun _ _ _ _ _ => pg_tupK K 2 rfl (pgs_cons (pg_name (i := 4) scWrap.nd rfl (Or.inl rfl)) (pgs_cons (pg_name (i := 5) scWrap.nd rfl (Or.inl rfl)) pgs_nil))) (fun _ _ _ _ _ => pts_nil)
        (fun _ _ _ _ _ => pe_ifExp (pt_cmpR op_eq (pv 4) pe_int (nomark _)) (pe_op op_add_str (pv 0) (pv 5)) (pe_op op_add_str pe_str (pv 5)))))), ?_⟩
    obtain ⟨r3, r4, c3, c4⟩ := rg_ok xs.length (by omega)
    obtain ⟨n, hn, hn8⟩ : ∃ n, RgC 0 (xs.length : Nat) wd n ∧ n ≤ 8 := by
      rcases hw with rfl | rfl
      · exact ⟨_, r3, c3⟩
      · exact ⟨_, r4, c4⟩
    refine ⟨_, rfl, a, _, rfl, .inl (.inl (.inl ha)), _, rfl, 0, _, wd, n, by rw [List.length_map], hn, fun D hD => lc_each walk_rangeC (fun _ y _ => ∃ z : Str, y = .str z ∧ z.length ≤ 400) hD (by rw [sizeLine_eq]; omega) (fun _ _ => trivial) (fun _ _ _ _ _ _ e => e) (fun i x H1 H2 hi e y A hA => ?_) fun H1 ys e hy o => ?_⟩
    · obtain ⟨rfl, rfl⟩ := y
      obtain ⟨ys, ey, hyl, hym⟩ := cutV_strs xs (some (0 + (i : Nat) * wd)) (some (0 + (i : Nat) * wd + wd))
      have sy : Short 40 ys := fun y hy => hsh y (hym y hy)
      refine ⟨rfl, ⟨_, rfl⟩, _, rfl, _, rfl, _, rfl, _, rfl, _, rfl, _, _, rfl, rfl, _, rfl, a, _, rfl, .inl (.inl (e _ _ ha)), fun p hp => ?_⟩
      rw [ey]
      have s1 := sum_short sy
      have l1 : (" " : Str).length = 1 := by decide +kernel
      refine ⟨_, p, ys, rfl, rfl, .inl (.inl (.inl upd_same)), by rw [l1]; omega, ?_⟩
      refine hA _ _ (Ext.upd hp) ⟨_, rfl, ?_⟩
      have := join_len " " ys
      rw [l1] at this
      omega
    · obtain ⟨zs, rfl, hzl, hzs⟩ := outs_strs o
      rw [List.length_range] at hzl
      have aH := e _ _ ha
      refine ⟨_, rfl, D, _, rfl, .inl (.inl hy), fun D2 hD2 => lc_each walk_enum (fun _ y _ => ∃ z : Str, y = .str z ∧ z.length ≤ 1000) hD2 (by rw [List.length_map, sizeLine_eq]; omega) (fun _ e => .inl (.inl (e _ _ hy))) (fun _ _ _ _ _ _ e => e) (fun i x H2 H3 hi e y A hA => ?_) fun H2 ys e2 hy2 o2 => ?_⟩
      · obtain ⟨Tp, x1, x2, rfl, hT, rfl, h1, h2⟩ := y
        cases h1
        obtain ⟨z, hz, rfl⟩ := List.mem_map.mp (List.mem_of_getElem? h2)
        have lz := hzs z hz
        refine ⟨Tp, _, rfl, .inl (.inl upd_same), rfl, _, _, rfl, _, _, rfl, rfl, rfl, _, rfl, rfl, _, rfl, ?_⟩
        refine ite2 (fun _ => ?_) fun _ => ?_
        · refine ⟨_, rfl, _, rfl, _, _, rfl, rfl, by rw [sizeLine_eq]; omega, hA _ _ (Ext.upd hT) ⟨_, rfl, ?_⟩⟩
          have : (lead ++ z).length = lead.length + z.length := PySem.Str.length_append lead z
          omega
        · have l1 : (" " : Str).length = 1 := by decide +kernel
          refine ⟨_, rfl, _, _, rfl, rfl, by rw [l1, sizeLine_eq]; omega, hA _ _ (Ext.upd hT) ⟨_, rfl, ?_⟩⟩
          have : ((" " : Str) ++ z).length = (" " : Str).length + z.length := PySem.Str.length_append _ z
          omega
      · obtain ⟨rs, rfl, hrl, hrs⟩ := outs_strs o2
        rw [List.length_range, List.length_map] at hrl
        exact k D2 H2 rs (e.trans e2) hy2 (by omega) hrs
end
end K9
set_option Elab.async false
set_option linter.all false
set_option maxRecDepth 100000
set_option maxHeartbeats 2000000
/-! WLI: a letter is made; == of letters. -/
namespace K9
open PySem PySem.Spec PyProof.Rows L2 SX
/-- what a letter holds -/
structure LD where
  num : Int
  person : Str
  house : Str
  ans : List Int
  subj : List Str
  deriving DecidableEq
structure LD.Ok (L : LD) : Prop where
  num : NumOk L.num
  person : NameOk L.person
  house : NameOk L.house
  ans : AnsOk L.num L.ans
  few : L.subj.length ≤ 8
  subj : ∀ z ∈ L.subj, NameOk z
/-- a letter stands at p -/
def LetAt (K : PySem.W.Frag) (cL : Addr) (H : Hp) (p : Addr) (L : LD) : Prop := ∃ (dx ta ts tw : Addr) (sd tx : Str),
  H p = some (.ins cL dx [("number", .int L.num), ("person", .str L.person), ("house", .str L.house), ("sender", .str sd), ("answers", .ref ta), ("subject", .ref ts), ("words", .ref tw), ("text", .str tx)]) ∧
  SqT K H ta (L.ans.map V.int) ∧ SqT K H ts (L.subj.map V.str) ∧ SqT K H tw [] ∧ sd.length ≤ 40
theorem LetAt.ext {K : PySem.W.Frag} {cL : Addr} {H H' : Hp} {p : Addr} {L : LD} (h : LetAt K cL H p L) (e : Ext H H') : LetAt K cL H' p L := by
  obtain ⟨dx, ta, ts, tw, sd, tx, h1, h2, h3, h4, h5⟩ := h
  exact ⟨dx, ta, ts, tw, sd, tx, e _ _ h1, h2.ext e, h3.ext e, h4.ext e, h5⟩
def spLInit (K : PySem.W.Frag) (cL : Addr) : Sp := fun vs H Q _ => ∃ (p dx la ls lw : Addr) (L : LD), vs = [.ref p, .int L.num, .str L.person, .str L.house, .ref la, .ref ls, .ref lw] ∧ H p = some (.ins cL dx []) ∧
  H la = some (.lst (L.ans.map V.int)) ∧ LsT K H ls (L.subj.map V.str) ∧ EmpT K lw ∧ L.Ok ∧ ∀ H', LetAt K cL H' p L → ExtB p H H' → Q .non H'
theorem str_int_len {n : Int} (h : NumOk n) : (Str.ofString (toString n)).length ≤ 40 := by
  obtain ⟨k, rfl⟩ : ∃ k : Nat, n = (k : Int) := ⟨n.toNat, by have := h.1; omega⟩
  have e : toString (k : Int) = Nat.repr k := rfl
  rw [e]
  have l : (Str.ofString (Nat.repr k)).length = (Nat.repr k).length := by
    rw [TL.len_tl, TL.tl_ofString, List.length_map, String.length_toList]
  rw [l]
  refine (Nat.length_repr_le_iff (n := k) (by decide : 0 < 40)).mpr ?_
  have h2 := h.2
  have h3 : k ≤ 10 ^ 30 := by
    have : (k : Int) ≤ ((10 ^ 30 : Nat) : Int) := by simpa using h2
    exact_mod_cast this
  exact Nat.lt_of_le_of_lt h3 (by decide)
theorem num_log {n : Int} (h : NumOk n) : n.natAbs.log2 < 1920 := by
  have h1 := h.1
  have h2 := h.2
  have h3 : n.natAbs < 2 ^ 1920 := by
    have : n.natAbs ≤ 10 ^ 30 := by omega
    exact Nat.lt_of_le_of_lt this (by decide +kernel)
  by_cases h0 : n.natAbs = 0
  · rw [h0]; decide
  · exact (Nat.log2_lt h0).mpr h3
/-- tuple(x) of a list, or of an empty tuple of the module -/
def rTupLs (K : PySem.W.Frag) : List V → Hp → VK → Prop := fun xs H Q => ∃ a ys, xs = [V.ref a] ∧ LsT K H a ys ∧ ∀ ts H', Ext H H' → SqT K H' ts ys → Q (.ref ts) H'
theorem call_tupLs {X : Cx} : CallR X (.type "tuple") (rTupLs X.K) := by
  intro pins s σ H xs us Q I r h
  obtain ⟨a, ys, rfl, ha, k⟩ := h
  refine call_tuple_of pins s σ H [.ref a] us Q I r ⟨a, ys, rfl, ?_⟩
  rcases ha with h | ⟨h, rfl⟩
  · exact .inl ⟨.inl (.inl h), fun l hl => k l _ (Ext.upd hl) (.inl (.inl upd_same))⟩
  · exact .inr ⟨h.seq H, k a H Ext.rfl' (h.seq H)⟩
theorem lenF {fs : List (Str × V)} (n : Nat) (h : fs.length = n := by rfl) (hn : n < 1000 := by decide) : fs.length < 1000 := by rw [h]; exact hn
theorem ExtB.at {a b : Addr} {H H' : Hp} {o : HO} (e : ExtB a H H') (h : H b = some o) (n : b ≠ a) : H' b = some o := e b o n h
theorem ext_after {p : Addr} {H H' H2 : Hp} (e : ExtB p H H') (x : Ext H' H2) : ExtB p H H2 := e.trans (.of x)
section
variable {P : Program} {w : World} {K : PySem.W.Frag} {mg : Str → Option Value} {base : Heap} {cL cG cT cF : Addr}
theorem ok_linit {f : Addr} {fd : FuncData} {kws : List (Str × V)} (F : FunD K "__init__" "Letter.__init__" (defArgs sLInit) (defBody sLInit) (defScope sLInit) [] kws f fd) (T : Mo K mg cL cG cT cF)
    (Gn : Gd P w K mg base 1 "is_number" pIsNum spIsNum) (Gm : Gd P w K mg base 1 "is_name" pIsName spIsName) (Gf : Gd P w K mg base 2 "fits_answers" pFitsA spFits) (Ga : Gd P w K mg base 2 "are_names" pAreN (spAreN K))
    (Gw : Gd P w K mg base 1 "wrapped" pWrap spWrap) (Gb : Gd P w K mg base 1 "body_rows" pBody (spBody K)) : FnOk P w K mg base CX0 3 f fd pLInit (spLInit K cL) := by
  refine F.ok scLInit (fun vs H Q E h => ?_) (fun cdv A outer s H vs Q E hr h => ?_)
  · obtain ⟨_, _, _, _, _, _, rfl, _⟩ := h; rfl
  · obtain ⟨p, dx, la, ls, lw, L, rfl, hp, hla, hls, hlw, ok, k⟩ := h
    obtain ⟨uS, hS⟩ := T.vS
    obtain ⟨uW, hW⟩ := T.vW
    obtain ⟨tA, hA3⟩ := T.c_ANSWERS_IN_ROW
    obtain ⟨tS, hS4⟩ := T.c_SUBJECT_IN_ROW
    have hr1 := hr.mono (show 1 ≤ 2 by decide)
    refine ⟨_, PSs.nox (pss_cons (ps_if (pt_not (pt_val (pe_g Gn hr1 (by rfl) (pa_cons (pv 1) pa_nil)))) pss_never pss_nil)
      (pss_cons (ps_if (pt_not (pt_val (pe_g Gm hr1 (by rfl) (pa_cons (pv 2) pa_nil)))) pss_never pss_nil)
      (pss_cons (ps_if (pt_not (pt_val (pe_g Gm hr1 (by rfl) (pa_cons (pv 3) pa_nil)))) pss_never pss_nil)
      (pss_cons (ps_if (pt_not (pt_val (pe_g Gf hr (by rfl) (pa_cons (pv 1) (pa_cons (pv 4) pa_nil))))) pss_never pss_nil)
      (pss_cons (ps_if (pt_not (pt_val (pe_g Ga hr (by rfl) (pa_cons (pv 5) (pa_cons (ClX.pe_cval (pe_glob (v := .ref cL) (by rfl) T.mL rfl)) pa_nil))))) pss_never pss_nil)
      (pss_cons (ps_if (pt_not (pt_val (pe_g Ga hr (by rfl) (pa_cons (pv 6) (pa_cons (ClX.pe_cval (pe_glob (v := .ref cL) (by rfl) T.mL rfl)) pa_nil))))) pss_never pss_nil)
      (pss_cons (ps_fld (pv 0) (pv 1) rfl)
      (pss_cons (ps_fld (pv 0) (pv 2) rfl)
      (pss_cons (ps_fld (pv 0) (pv 3) rfl)
      (pss_cons (ps_fld (pv 0) (pe_op op_add_str (pe_op op_add_str (pv 2) pe_str) (pv 3)) rfl)
      (pss_cons (ps_fld (pv 0) (pe_callTy call_tuple_of (by rfl) T.b_tuple boot_tuple (pa_cons (pv 4) pa_nil)) rfl)
      (pss_cons (ps_fld (pv 0) (pe_callTy call_tupLs (by rfl) T.b_tuple boot_tuple (pa_cons (pv 5) pa_nil)) rfl)
      (pss_cons (ps_fld (pv 0) (pe_callTy call_tupLs (by rfl) T.b_tuple boot_tuple (pa_cons (pv 6) pa_nil)) rfl)
      (pss_cons (ps_set (i := 7) scLInit.nd rfl (Or.inl rfl) (pe_lst (pa_cons (pe_joined (.cons pe_str (.cons (pe_fmt (pv 1)) .nil))) (pa_cons (pe_joined (.cons pe_str (.cons (pe_fmt (pe_fld (pv 0) rfl)) .nil))) pa_nil))))
      (pss_cons (ps_set (i := 7) scLInit.nd rfl (Or.inl rfl) (pe_op op_cat (pv 7) (pe_g Gw hr1 (by rfl) (pa_cons pe_str (pa_cons (pe_lc rfl scLInit.nd (pi_list (pv 4)) (own := [("answer", 8)]) (blkOk_by (by show blkC nLInit (defScope sLInit) _ _ = true; decide +kernel)) (fun _ _ _ _ _ => pg_name (i := 8) scLInit.nd rfl (Or.inl rfl)) (fun _ _ _ _ _ => pts_nil) (fun _ _ _ _ _ => pe_callTy call_str_int (by rfl) T.b_str boot_str (pa_cons (pv 8) pa_nil))) (pa_cons (pe_glob (v := .int 3) (by rfl) hA3 ⟨_, rfl⟩) pa_nil))))))
      (pss_cons (ps_set (i := 7) scLInit.nd rfl (Or.inl rfl) (pe_op op_cat (pv 7) (pe_g Gw hr1 (by rfl) (pa_cons pe_str (pa_cons (pe_callTy call_list_of (by rfl) T.b_list boot_list (pa_cons (pv 5) pa_nil)) (pa_cons (pe_glob (v := .int 4) (by rfl) hS4 ⟨_, rfl⟩) pa_nil))))))
      (pss_one (ps_fld (pv 0) (pe_join pe_str (pe_op op_cat (pv 7) (pe_g Gb hr1 (by rfl) (pa_cons (pe_fld (pv 0) rfl) pa_nil)))) rfl)))))))))))))))))), ?_⟩
    refine ⟨_, rfl, L.num, rfl, ok.num, true, rfl, ?_⟩
    refine ⟨_, rfl, L.person, rfl, ok.person, fun H1 e1 => ⟨true, rfl, ?_⟩⟩
    refine ⟨_, rfl, L.house, rfl, ok.house, fun H2 e2 => ⟨true, rfl, ?_⟩⟩
    have e02 := e1.trans e2
    refine ⟨_, rfl, _, rfl, L.num, la, L.ans, rfl, e02 _ _ hla, ok.ans, fun H3 e3 => ⟨true, rfl, ?_⟩⟩
    have e03 := e02.trans e3
    refine ⟨_, rfl, cL, _, _, _, rfl, T.rL, hS, ls, 8, L.subj, rfl, hls.ext e03, by have := ok.few; omega, by have := ok.few; rw [sizeLine_eq]; omega, ok.subj, fun H4 e4 => ⟨true, rfl, ?_⟩⟩
    have e04 := e03.trans e4
    refine ⟨_, rfl, cL, _, _, _, rfl, T.rL, hW, lw, 40, [], rfl, .inr ⟨hlw, rfl⟩, by decide, Nat.zero_le _, (fun z hz => by cases hz), fun H5 e5 => ⟨true, rfl, ?_⟩⟩
    have e05 := e04.trans e5
    have ap : la ≠ p := ne_of hla hp (by intro z; cases z)
    have sp : ls ≠ p ∨ EmpT K ls := hls.imp (fun h => ne_of h hp (by intro z; cases z)) fun h => h.1
    refine ⟨_, rfl, _, rfl, p, cL, dx, [], rfl, e05 _ _ hp, T.kL.cl, T.nL_number, lenF 0, ?_⟩
    refine ⟨_, rfl, _, rfl, p, cL, dx, _, rfl, upd_same, T.kL.cl, T.nL_person, lenF 1, ?_⟩
    refine ⟨_, rfl, _, rfl, p, cL, dx, _, rfl, upd_same, T.kL.cl, T.nL_house, lenF 2, ?_⟩
    have lp := ok.person.2.1
    have lh := ok.house.2.1
    have la4 : (" at " : Str).length = 4 := by decide +kernel
    refine ⟨_, rfl, _, _, rfl, rfl, by rw [la4, sizeLine_eq]; omega, _, rfl, _, _, rfl, rfl, by rw [PySem.Str.length_append, la4, sizeLine_eq]; omega, ?_⟩
    refine ⟨_, rfl, p, cL, dx, _, rfl, upd_same, T.kL.cl, T.nL_sender, lenF 3, ?_⟩
    have sdl : (L.person ++ " at " ++ L.house).length ≤ 40 := by rw [PySem.Str.length_append, PySem.Str.length_append, la4]; omega
    generalize hsd : L.person ++ " at " ++ L.house = sd at sdl ⊢
    generalize hH6 : upd _ p _ = H6
    have p6 : H6 p = some (.ins cL dx [("number", .int L.num), ("person", .str L.person), ("house", .str L.house), ("sender", .str sd)]) := by rw [← hH6]; exact upd_same
    have x6 : ExtB p H H6 := by
      rw [← hH6]
      exact ((((ExtB.of e05).self).self).self).self
    -- answers
    refine ⟨_, rfl, la, _, rfl, .inl ⟨.inl (.inl (x6 _ _ ap hla)), fun ta hta => ?_⟩⟩
    have e7 : Ext H6 (upd H6 ta (.tup (L.ans.map V.int))) := Ext.upd hta
    refine ⟨_, rfl, p, cL, dx, _, rfl, e7 _ _ p6, T.kL.cl, T.nL_answers, lenF 4, ?_⟩
    generalize hH7 : upd (upd H6 ta _) p _ = H7
    have p7 : H7 p = some (.ins cL dx [("number", .int L.num), ("person", .str L.person), ("house", .str L.house), ("sender", .str sd), ("answers", .ref ta)]) := by rw [← hH7]; exact upd_same
    have x67 : ExtB p H6 H7 := by rw [← hH7]; exact (ExtB.of e7).self
    have tap : ta ≠ p := (ne_of_none p6 hta).symm
    have a7 : H7 ta = some (.tup (L.ans.map V.int)) := by rw [← hH7, upd_ne tap]; exact upd_same
    have x7 := x6.trans x67
    -- subject, words
    have l7 : LsT K H7 ls (L.subj.map V.str) := hls.imp (fun h => x7 _ _ (ne_of h hp (by intro z; cases z)) h) id
    refine ⟨_, rfl, ls, _, rfl, l7, fun ts H8 e8 t8 => ?_⟩
    refine ⟨_, rfl, p, cL, dx, _, rfl, e8 _ _ p7, T.kL.cl, T.nL_subject, lenF 5, ?_⟩
    generalize hH9 : upd H8 p _ = H9
    have p9 : H9 p = some (.ins cL dx [("number", .int L.num), ("person", .str L.person), ("house", .str L.house), ("sender", .str sd), ("answers", .ref ta), ("subject", .ref ts)]) := by rw [← hH9]; exact upd_same
    have x89 : ExtB p H7 H9 := by rw [← hH9]; exact (ExtB.of e8).self
    have tuE : ∀ {t : Addr} {ys : List V} {Ha Hb : Hp} {fs : List (Str × V)}, SqT K Ha t ys → Ha p = some (.ins cL dx fs) → ExtB p Ha Hb → SqT K Hb t ys := fun {t ys Ha Hb fs} h hp e => by
      rcases h with (h | ⟨o, h⟩) | h
      · exact .inl (.inl (e _ _ (ne_of h hp (by intro z; cases z)) h))
      · exact .inl (.inr ⟨o, e _ _ (ne_of h hp (by intro z; cases z)) h⟩)
      · exact .inr h
    have t9 : SqT K H9 ts (L.subj.map V.str) := tuE t8 (e8 _ _ p7) (by rw [← hH9]; exact ExtB.refl.self)
    have a9 : H9 ta = some (.tup (L.ans.map V.int)) := x89 _ _ tap a7
    have x9 := x7.trans x89
    refine ⟨_, rfl, lw, [], rfl, .inr ⟨hlw, rfl⟩, fun tw H10 e10 t10 => ?_⟩
    refine ⟨_, rfl, p, cL, dx, _, rfl, e10 _ _ p9, T.kL.cl, T.nL_words, lenF 6, ?_⟩
    generalize hH11 : upd H10 p _ = H11
    have p11 : H11 p = some (.ins cL dx [("number", .int L.num), ("person", .str L.person), ("house", .str L.house), ("sender", .str sd), ("answers", .ref ta), ("subject", .ref ts), ("words", .ref tw)]) := by rw [← hH11]; exact upd_same
    have x11' : ExtB p H9 H11 := by rw [← hH11]; exact (ExtB.of e10).self
    have t11 : SqT K H11 tw [] := tuE t10 (e10 _ _ p9) (by rw [← hH11]; exact ExtB.refl.self)
    have s11 : SqT K H11 ts (L.subj.map V.str) := tuE t9 p9 x11'
    have a11 : H11 ta = some (.tup (L.ans.map V.int)) := x11' _ _ tap a9
    have x11 := x9.trans x11'
    -- rows
    have nl := str_int_len ok.num
    have ln : ("number: " : Str).length = 8 := by decide +kernel
    have lf : ("from: " : Str).length = 6 := by decide +kernel
    have l0 : Str.empty.length = 0 := rfl
    refine ⟨_, rfl, by rw [PySem.Str.length_append, l0, ln, sizeLine_eq]; omega, _, rfl, .inr ⟨L.num, rfl, num_log ok.num, _, rfl, by rw [PySem.Str.length_append, PySem.Str.length_append, l0, ln, sizeLine_eq]; omega, ?_⟩⟩
    refine ⟨_, rfl, by rw [PySem.Str.length_append, l0, lf, sizeLine_eq]; omega, _, rfl, p, cL, dx, _, _, rfl, p11, T.kL.cl, T.nL_sender, rfl, .inl ⟨sd, rfl, by rw [sizeLine_eq]; omega, _, rfl, by rw [PySem.Str.length_append, PySem.Str.length_append, l0, lf, sizeLine_eq]; omega, ?_⟩⟩
    refine ⟨(show 2 ≤ sizeLine by decide), fun r1 hr1' => ?_⟩
    generalize hA0 : Str.empty ++ _ ++ Str.ofString (toString L.num) = rA
    generalize hB0 : Str.empty ++ _ ++ sd = rB
    have lA : rA.length ≤ 100 := by rw [← hA0, PySem.Str.length_append, PySem.Str.length_append, l0, ln]; omega
    have lB : rB.length ≤ 100 := by rw [← hB0, PySem.Str.length_append, PySem.Str.length_append, l0, lf]; omega
    generalize hH12 : upd H11 r1 _ = H12
    have e12 : Ext H11 H12 := by rw [← hH12]; exact Ext.upd hr1'
    have r12 : H12 r1 = some (.lst ([rA, rB].map V.str)) := by rw [← hH12]; exact upd_same
    have la12 : H12 la = some (.lst (L.ans.map V.int)) := e12 _ _ (x11 _ _ ap hla)
    -- wrapped("answers: ", ..)
    refine ⟨_, rfl, _, rfl, la, rfl, ⟨_, .inl (.inl la12)⟩, fun D hD => lc_each walk_list (fun _ y _ => ∃ z : Str, y = .str z ∧ z.length ≤ 40) hD (by have := ok.ans.1; rw [List.length_map, sizeLine_eq]; omega) (fun _ e => .inl (.inl (e _ _ la12))) (fun _ _ _ _ _ _ e => e) (fun i x Ha Hb hi e y A hA => ?_) fun H13 ys e13 hy o => ?_⟩
    · obtain ⟨rfl, hx⟩ := y
      obtain ⟨z, hzm, rfl⟩ := List.mem_map.mp (List.mem_of_getElem? hx)
      have oz := ok.ans.2.1 z hzm
      exact ⟨rfl, _, rfl, z, rfl, num_log oz, hA _ _ Ext.rfl' ⟨_, rfl, str_int_len oz⟩⟩
    obtain ⟨zs, rfl, hzl, hzs⟩ := outs_strs o
    rw [List.length_range, List.length_map] at hzl
    have l9 : ("answers: " : Str).length = 9 := by decide +kernel
    refine ⟨_, D, 3, zs, rfl, by rw [l9]; omega, hy, by have := ok.ans.1; omega, hzs, .inl rfl, fun w1 H14 rows1 e14 hw1 hwl1 hws1 => ?_⟩
    have r14 := e14 _ _ (e13 _ _ r12)
    refine ⟨r1, w1, _, _, rfl, rfl, r14, hw1, by rw [List.length_map, List.length_map, sizeLine_eq]; simp; omega, fun r2 hr2 => ?_⟩
    generalize hH15 : upd H14 r2 _ = H15
    have e15 : Ext H14 H15 := by rw [← hH15]; exact Ext.upd hr2
    have r15 : H15 r2 = some (.lst (([rA, rB] ++ rows1).map V.str)) := by rw [← hH15, List.map_append]; exact upd_same
    -- wrapped("subject: ", ..)
    have c15 : Ext H11 H15 := ((e12.trans e13).trans e14).trans e15
    have l11 : LsT K H11 ls (L.subj.map V.str) := hls.imp (fun h => x11 _ _ (ne_of h hp (by intro z; cases z)) h) id
    refine ⟨_, rfl, _, rfl, ls, _, rfl, (l11.ext c15).seq, fun q hq => ?_⟩
    generalize hH16 : upd H15 q _ = H16
    have e16 : Ext H15 H16 := by rw [← hH16]; exact Ext.upd hq
    have q16 : H16 q = some (.lst (L.subj.map V.str)) := by rw [← hH16]; exact upd_same
    refine ⟨_, q, 4, L.subj, rfl, by decide +kernel, q16, ok.few, fun x hx => Nat.le_trans (ok.subj x hx).2.1 (by decide), .inr rfl, fun w2 H17 rows2 e17 hw2 hwl2 hws2 => ?_⟩
    have r17 := e17 _ _ (e16 _ _ r15)
    refine ⟨r2, w2, _, _, rfl, rfl, r17, hw2, by rw [List.length_map, List.length_map, sizeLine_eq]; simp; omega, fun r3 hr3 => ?_⟩
    generalize hH18 : upd H17 r3 _ = H18
    have e18 : Ext H17 H18 := by rw [← hH18]; exact Ext.upd hr3
    have r18 : H18 r3 = some (.lst ((([rA, rB] ++ rows1) ++ rows2).map V.str)) := by rw [← hH18, List.map_append (l₁ := [rA, rB] ++ rows1)]; exact upd_same
    have c18 : Ext H11 H18 := ((c15.trans e16).trans e17).trans e18
    -- text
    refine ⟨⟨_, rfl⟩, _, rfl, _, rfl, p, cL, dx, _, _, rfl, c18 _ _ p11, T.kL.cl, T.nL_words, rfl, tw, rfl, t11.ext c18, fun b hb => ?_⟩
    have bb : Ext H18 (upd H18 b (.lst [])) := Ext.upd hb
    refine ⟨r3, b, _, [], rfl, rfl, bb _ _ r18, upd_same, by rw [List.length_map, sizeLine_eq]; simp; omega, fun r4 hr4 => ?_⟩
    generalize hH19 : upd (upd H18 b _) r4 _ = H19
    have e19 : Ext H18 H19 := by rw [← hH19]; exact bb.trans (Ext.upd hr4)
    have r19 : H19 r4 = some (.lst ((([rA, rB] ++ rows1) ++ rows2).map V.str)) := by rw [← hH19, List.append_nil]; exact upd_same
    have c19 := c18.trans e19
    have shr : Short 1000 ([rA, rB] ++ rows1 ++ rows2) := fun x hx => by
      simp only [List.mem_append, List.mem_cons, List.not_mem_nil, or_false] at hx
      rcases hx with ((h | h) | h) | h
      · rw [h]; omega
      · rw [h]; omega
      · exact hws1 x h
      · exact hws2 x h
    have lr : ([rA, rB] ++ rows1 ++ rows2).length ≤ 18 := by simp; omega
    have sr := sum_short shr
    refine ⟨_, r4, _, rfl, rfl, .inl (.inl (.inl r19)), ?_, ?_⟩
    · have l1 : ("\n" : Str).length = 1 := by decide +kernel
      rw [l1]
      omega
    · refine ⟨_, rfl, p, cL, dx, _, rfl, c19 _ _ p11, T.kL.cl, T.nL_text, lenF 7, ?_⟩
      have p19 := c19 _ _ p11
      refine k _ ⟨dx, ta, ts, tw, sd, _, upd_same, tuE (.inl (.inl (c19 _ _ a11))) p19 ExtB.refl.self, tuE (s11.ext c19) p19 ExtB.refl.self, tuE (t11.ext c19) p19 ExtB.refl.self, sdl⟩ ?_
      exact (x11.trans (.of c19)).self
/-- == of two letters -/
def spLEq (K : PySem.W.Frag) (cL : Addr) : Sp := fun vs H Q _ => ∃ (p q : Addr) (L M : LD), vs = [.ref p, .ref q] ∧ LetAt K cL H p L ∧ LetAt K cL H q M ∧ Q (.bl (decide (L = M))) H
theorem step_and {a b : Prop} [Decidable a] [Decidable b] {Q : V → Hp → Prop} {H : Hp} {R : Prop} (ne : ¬ a → ¬ b) (yes : a → R) (q : Q (.bl (decide b)) H) : if decide a = true then R else Q (.bl false) H := by
  by_cases h : a
  · rw [if_pos (decide_eq_true h)]; exact yes h
  · rw [if_neg (by rw [decide_eq_false h]; exact Bool.false_ne_true)]
    rw [decide_eq_false (ne h)] at q
    exact q
theorem ok_leq {f : Addr} {fd : FuncData} (F : Fun K "__eq__" "Letter.__eq__" sLEq f fd) (T : Mo K mg cL cG cT cF) : FnOk P w K mg base CX0 1 f fd pLEq (spLEq K cL) := by
  refine F.ok scLEq (fun vs H Q E h => ?_) (fun cdv A outer s H vs Q E hr h => ?_)
  · obtain ⟨_, _, _, _, rfl, _⟩ := h; rfl
  · obtain ⟨p, q, L, M, rfl, hL, hM, k⟩ := h
    have hu := hr.units
    refine ⟨_, pss_one (ps_ret (pe_and (pe_callB call_isi (by rfl) T.b_isinstance boot_isinstance (pa_cons (pv 1) (pa_cons (pe_glob (v := .ref cL) (by rfl) T.mL rfl) pa_nil)))
      (pe_and (pe_cmpR op_eq (pe_fld (pv 0) rfl) (pe_fld (pv 1) rfl) (nomark _)) (pe_and (pe_cmpR op_eq (pe_fld (pv 0) rfl) (pe_fld (pv 1) rfl) (nomark _)) (pe_and (pe_cmpR op_eq (pe_fld (pv 0) rfl) (pe_fld (pv 1) rfl) (nomark _))
      (pe_and (pe_cmpR (op_eqM K (PySem.W.Tup Int) hu) (pe_fld (pv 0) rfl) (pe_fld (pv 1) rfl) (nomark _)) (pe_and (pe_cmpR (op_eqM K (PySem.W.Tup Str) hu) (pe_fld (pv 0) rfl) (pe_fld (pv 1) rfl) (nomark _))
      (pe_one (pe_cmpR (op_eqM K (PySem.W.Tup Str) hu) (pe_fld (pv 0) rfl) (pe_fld (pv 1) rfl) (nomark _)))))))))), ?_⟩
    obtain ⟨dx, ta, ts, tw, sd, tx, h1, h2, h3, h4, _⟩ := hL
    obtain ⟨dx', ta', ts', tw', sd', tx', g1, g2, g3, g4, _⟩ := hM
    refine ⟨_, rfl, _, _, _, _, true, rfl, .own cL, T.kL.ty T g1, kit_self, true, rfl, ?_⟩
    refine ⟨_, rfl, p, cL, dx, _, _, rfl, h1, T.kL.cl, T.nL_number, rfl, _, rfl, q, cL, dx', _, _, rfl, g1, T.kL.cl, T.nL_number, rfl, rfl, _, rfl, ?_⟩
    refine step_and (b := L = M) (fun n e => n (by rw [e])) (fun e1 => ?_) k
    refine ⟨_, rfl, p, cL, dx, _, _, rfl, h1, T.kL.cl, T.nL_person, rfl, _, rfl, q, cL, dx', _, _, rfl, g1, T.kL.cl, T.nL_person, rfl, rfl, _, rfl, ?_⟩
    refine step_and (b := L = M) (fun n e => n (by rw [e])) (fun e2 => ?_) k
    refine ⟨_, rfl, p, cL, dx, _, _, rfl, h1, T.kL.cl, T.nL_house, rfl, _, rfl, q, cL, dx', _, _, rfl, g1, T.kL.cl, T.nL_house, rfl, rfl, _, rfl, ?_⟩
    refine step_and (b := L = M) (fun n e => n (by rw [e])) (fun e3 => ?_) k
    refine ⟨_, rfl, p, cL, dx, _, _, rfl, h1, T.kL.cl, T.nL_answers, rfl, _, rfl, q, cL, dx', _, _, rfl, g1, T.kL.cl, T.nL_answers, rfl, _, _, hd_tints h2, hd_tints g2, _, rfl, ?_⟩
    refine step_and (b := L = M) (fun n e => n (by rw [e])) (fun e4 => ?_) k
    refine ⟨_, rfl, p, cL, dx, _, _, rfl, h1, T.kL.cl, T.nL_subject, rfl, _, rfl, q, cL, dx', _, _, rfl, g1, T.kL.cl, T.nL_subject, rfl, _, _, hd_tstrs h3, hd_tstrs g3, _, rfl, ?_⟩
    refine step_and (b := L = M) (fun n e => n (by rw [e])) (fun e5 => ?_) k
    refine ⟨_, rfl, p, cL, dx, _, _, rfl, h1, T.kL.cl, T.nL_words, rfl, _, rfl, q, cL, dx', _, _, rfl, g1, T.kL.cl, T.nL_words, rfl, _, _, hd_tstrs (ns := []) h4, hd_tstrs (ns := []) g4, ?_⟩
    have e : L = M := by
      cases L
      cases M
      simp only [V.int.injEq, V.str.injEq, PySem.W.Tup.mk.injEq] at e1 e2 e3 e4 e5
      simp only [LD.mk.injEq]
      exact ⟨e1, e2, e3, e4, e5⟩
    rw [decide_eq_true e] at k
    exact k
end
end K9
set_option Elab.async false
set_option linter.all false
set_option maxRecDepth 100000
set_option maxHeartbeats 2000000
/-! TB: dicts with whole numbers as keys, by lists of pairs; an older world that stands. -/
namespace K9
open PySem PySem.Spec PyProof.Rows L2
/-- the dict's rows -/
def rowsD {β : Type} (f : β → V) (kvs : List (Int × β)) : List (Key × V) := kvs.map fun q => (Sum.inl q.1, f q.2)
section
variable {β : Type} {f : β → V} {kvs : List (Int × β)} {n : Int} {b : β}
theorem rowsD_len : (rowsD f kvs).length = kvs.length := by unfold rowsD; rw [List.length_map]
theorem rowsD_some (nd : (kvs.map (·.1)).Nodup) (h : (n, b) ∈ kvs) : valV (rowsD f kvs) (Sum.inl n) = some (f b) := by
  induction kvs with
  | nil => cases h
  | cons q kvs ih =>
    rw [List.map_cons] at nd
    obtain ⟨n1, nd⟩ := List.nodup_cons.mp nd
    rcases List.mem_cons.mp h with h | h
    · subst h
      exact valV_pos (p := (Sum.inl n, f b)) rfl
    · have ne : ¬ (Sum.inl q.1 : Key) = Sum.inl n := fun e => n1 (List.mem_map.mpr ⟨_, h, (Sum.inl.inj e).symm⟩)
      exact (valV_neg (p := (Sum.inl q.1, f q.2)) ne).trans (ih nd h)
theorem rowsD_none (h : ∀ b, (n, b) ∉ kvs) : valV (rowsD f kvs) (Sum.inl n) = none := by
  induction kvs with
  | nil => rfl
  | cons q kvs ih =>
    have ne : ¬ (Sum.inl q.1 : Key) = Sum.inl n := fun e => h q.2 (by rw [← Sum.inl.inj e]; exact List.mem_cons_self)
    exact (valV_neg (p := (Sum.inl q.1, f q.2)) ne).trans (ih fun b hb => h b (List.mem_cons_of_mem _ hb))
theorem rowsD_find (kvs : List (Int × β)) (n : Int) : (∃ b, (n, b) ∈ kvs) ∨ ∀ b, (n, b) ∉ kvs := by
  by_cases h : ∃ b, (n, b) ∈ kvs
  · exact .inl h
  · exact .inr fun b hb => h ⟨b, hb⟩
theorem rowsD_new (h : ∀ b, (n, b) ∉ kvs) : putK (rowsD f kvs) (Sum.inl n) (f b) = rowsD f (kvs ++ [(n, b)]) := by
  rw [putK_new _ (rowsD_none h)]
  unfold rowsD
  rw [List.map_append] <;> rfl
theorem rowsD_put {b0 : β} (nd : (kvs.map (·.1)).Nodup) (h : (n, b0) ∈ kvs) : putK (rowsD f kvs) (Sum.inl n) (f b) = rowsD f (kvs.map fun q => if q.1 = n then (n, b) else q) := by
  unfold putK
  rw [if_pos (by rw [valV_any, rowsD_some nd h]; rfl)]
  unfold rowsD
  rw [List.map_map, List.map_map]
  refine List.map_congr_left fun q _ => ?_
  show (if (Sum.inl q.1 : Key) = Sum.inl n then _ else _) = _
  by_cases e : q.1 = n
  · rw [if_pos (by rw [e])]
    show _ = ((Sum.inl (if q.1 = n then (n, b) else q).1 : Key), f (if q.1 = n then (n, b) else q).2)
    rw [if_pos e, ← e]
  · rw [if_neg (fun z => e (Sum.inl.inj z))]
    show _ = ((Sum.inl (if q.1 = n then (n, b) else q).1 : Key), f (if q.1 = n then (n, b) else q).2)
    rw [if_neg e]
theorem rowsD_snd (f : β → V) (kvs : List (Int × β)) : (rowsD f kvs).map Prod.snd = kvs.map fun q => f q.2 := by
  unfold rowsD
  rw [List.map_map] <;> rfl
theorem rowsD_keys (f : β → V) (kvs : List (Int × β)) : ((rowsD f kvs).map fun kv => kV kv.1) = (kvs.map (·.1)).map V.int := by
  unfold rowsD
  rw [List.map_map, List.map_map] <;> rfl
theorem upd_keys (kvs : List (Int × β)) (n : Int) (b : β) : (kvs.map fun q => if q.1 = n then (n, b) else q).map (·.1) = kvs.map (·.1) := by
  rw [List.map_map]
  refine List.map_congr_left fun q _ => ?_
  show (if q.1 = n then (n, b) else q).1 = q.1
  split
  · rename_i e; exact e.symm
  · rfl
end
/-- an older world stands, o is laid where it had nothing -/
theorem ext_put {H0 H : Hp} {a : Addr} {o : HO} (e : Ext H0 H) (n : H0 a = none) : Ext H0 (upd H a o) := fun b u q => by
  rw [upd_ne (ne_of_none q n)]
  exact e b u q
end K9
set_option Elab.async false
set_option linter.all false
set_option maxRecDepth 100000
set_option maxHeartbeats 4000000
/-! WT: the walk of the threads that are made. -/
namespace K9
open PySem PySem.Spec PyProof.Rows L2 SX
/-- the groups' table and the groups: what stands of it; H0: the older world -/
structure Grp (cG : Addr) (H0 H : Hp) (dg ol : Addr) (kvs : List (Int × Addr)) (ks : Addr → List Int) (kl : Addr → Addr) : Prop where
  dc : H dg = some (.dK (rowsD V.ref kvs))
  n0 : H0 dg = none
  at_ : ∀ q ∈ kvs, ∃ dx m, H q.2 = some (.ins cG dx [("known", .ref (kl q.2)), ("lowest", .int m)]) ∧ H (kl q.2) = some (.lst ((ks q.2).map V.int)) ∧ IsMin (ks q.2) m ∧ H0 q.2 = none ∧ H0 (kl q.2) = none ∧ kl q.2 ≠ ol
  ap : ∀ q ∈ kvs, ∀ r ∈ kvs, q.2 ≠ r.2 → kl q.2 ≠ kl r.2
  part : Part kvs ks
  few : kvs.length ≤ 20000
/-- .. and what it tells: the relation R among the numbers of Kn -/
structure GInv (cG : Addr) (H0 H : Hp) (dg ol : Addr) (kvs : List (Int × Addr)) (ks : Addr → List Int) (kl : Addr → Addr) (R : Int → Int → Prop) (Kn : Int → Prop) : Prop extends Grp cG H0 H dg ol kvs ks kl where
  rep : Rep kvs R
  keys : ∀ n, (∃ g, (n, g) ∈ kvs) ↔ Kn n
/-- what group_of and merged leave alone: all but the table, the groups and their lists -/
def ThrFr (H0 : Hp) (ol dl t : Addr) (H H' : Hp) : Prop := Ext H0 H' ∧ H' ol = H ol ∧ H' dl = H dl ∧ H' t = H t
/-- a Threads object at t -/
structure TOb (cT : Addr) (H0 H : Hp) (t dl ol dg : Addr) : Prop where
  ob : ∃ dt, H t = some (.ins cT dt [("letters", .ref dl), ("order", .ref ol), ("groups", .ref dg)])
  n1 : H0 t = none
  n2 : H0 dl = none
  n3 : H0 ol = none
  sep : dl ≠ dg
  dd : ∃ rows, H dl = some (.dK rows)
  oo : ∃ xs, H ol = some (.lst xs)
theorem TOb.fr {cT : Addr} {H0 H H' : Hp} {t dl ol dg : Addr} (o : TOb cT H0 H t dl ol dg) (f : ThrFr H0 ol dl t H H') : TOb cT H0 H' t dl ol dg := by
  obtain ⟨_, f1, f2, f3⟩ := f
  exact ⟨by rw [f3]; exact o.ob, o.n1, o.n2, o.n3, o.sep, by rw [f2]; exact o.dd, by rw [f1]; exact o.oo⟩
theorem ThrFr.trans {H0 : Hp} {ol dl t : Addr} {H H1 H2 : Hp} (a : ThrFr H0 ol dl t H H1) (b : ThrFr H0 ol dl t H1 H2) : ThrFr H0 ol dl t H H2 :=
  ⟨b.1, b.2.1.trans a.2.1, b.2.2.1.trans a.2.2.1, b.2.2.2.trans a.2.2.2⟩
theorem Grp.lists {cG : Addr} {H0 H : Hp} {dg ol : Addr} {kvs : List (Int × Addr)} {ks : Addr → List Int} {kl : Addr → Addr} (G : Grp cG H0 H dg ol kvs ks kl) {q : Int × Addr} (hq : q ∈ kvs) : (ks q.2).length ≤ kvs.length := by
  have h : (ks q.2).length ≤ (kvs.map (·.1)).length := nodup_le (G.part.knd q hq) fun x hx => List.mem_map.mpr ⟨_, (G.part.mem q hq x).mp hx, rfl⟩
  rwa [List.length_map] at h

/-! ### promises -/
def spGInit (cG : Addr) : Sp := fun vs H Q _ => ∃ (p dx : Addr) (n : Int), vs = [.ref p, .int n] ∧ H p = some (.ins cG dx []) ∧
  ∀ kl H', H kl = none → ExtB p H H' → H' p = some (.ins cG dx [("known", .ref kl), ("lowest", .int n)]) → H' kl = some (.lst [.int n]) → Q .non H'
def spTInit (cT : Addr) : Sp := fun vs H Q _ => ∃ (p dx : Addr), vs = [.ref p] ∧ H p = some (.ins cT dx []) ∧
  ∀ dl ol dg H', H dl = none → H ol = none → H dg = none → dl ≠ ol → dl ≠ dg → ol ≠ dg → ExtB p H H' → H' p = some (.ins cT dx [("letters", .ref dl), ("order", .ref ol), ("groups", .ref dg)]) →
    H' dl = some (.dK []) → H' ol = some (.lst []) → H' dg = some (.dK []) → Q .non H'
def spTGrp (cG cT : Addr) : Sp := fun vs H Q _ => ∃ (t dl ol dg : Addr) (n : Int) (H0 : Hp) (kvs : List (Int × Addr)) (ks : Addr → List Int) (kl : Addr → Addr) (R : Int → Int → Prop) (Kn : Int → Prop), vs = [.ref t, .int n] ∧
  Ext H0 H ∧ TOb cT H0 H t dl ol dg ∧ GInv cG H0 H dg ol kvs ks kl R Kn ∧ R n n ∧ (∀ m, Kn m → ¬ Kn n → ¬ R m n ∧ ¬ R n m) ∧ kvs.length < 20000 ∧
  ∀ g H' kvs' ks' kl', ThrFr H0 ol dl t H H' → GInv cG H0 H' dg ol kvs' ks' kl' R (fun m => Kn m ∨ m = n) → (n, g) ∈ kvs' → (∀ q ∈ kvs, q ∈ kvs') → kvs'.length ≤ kvs.length + 1 → Q (.ref g) H'
def spTMrg (cG cT : Addr) : Sp := fun vs H Q _ => ∃ (t dl ol dg g o : Addr) (n a : Int) (H0 : Hp) (kvs : List (Int × Addr)) (ks : Addr → List Int) (kl : Addr → Addr) (R : Int → Int → Prop) (Kn : Int → Prop), vs = [.ref t, .ref g, .ref o] ∧
  Ext H0 H ∧ TOb cT H0 H t dl ol dg ∧ GInv cG H0 H dg ol kvs ks kl R Kn ∧ (n, g) ∈ kvs ∧ (a, o) ∈ kvs ∧
  ∀ g' H' kvs' ks' kl', ThrFr H0 ol dl t H H' → GInv cG H0 H' dg ol kvs' ks' kl' (fun x y => R x y ∨ (R x n ∧ R a y) ∨ (R x a ∧ R n y)) Kn → (n, g') ∈ kvs' → kvs'.length = kvs.length → Q (.ref g') H'
section
variable {P : Program} {w : World} {K : PySem.W.Frag} {mg : Str → Option Value} {base : Heap} {cL cG cT cF : Addr}
theorem ok_ginit {f : Addr} {fd : FuncData} (F : Fun K "__init__" "Group.__init__" sGInit f fd) (T : Mo K mg cL cG cT cF) : FnOk P w K mg base CX0 1 f fd pGInit (spGInit cG) := by
  refine F.ok scGInit (fun vs H Q E h => ?_) (fun cdv A outer s H vs Q E hr h => ?_)
  · obtain ⟨_, _, _, rfl, _⟩ := h; rfl
  · obtain ⟨p, dx, n, rfl, hp, k⟩ := h
    refine ⟨_, pss_cons (ps_fld (pv 0) (pe_lst (pa_cons (pv 1) pa_nil)) rfl) (pss_one (ps_fld (pv 0) (pv 1) rfl)), ?_⟩
    refine ⟨_, rfl, (show 1 ≤ sizeLine by decide), fun kl hkl => ?_⟩
    have ne : p ≠ kl := ne_of_none hp hkl
    refine ⟨_, rfl, p, cG, dx, [], rfl, by rw [upd_ne ne]; exact hp, T.kG.cl, T.nG_known, lenF 0, ?_⟩
    refine ⟨_, rfl, _, rfl, p, cG, dx, _, rfl, upd_same, T.kG.cl, T.nG_lowest, lenF 1, ?_⟩
    exact k kl _ hkl ((ExtB.of (Ext.upd hkl)).self.self) upd_same (by rw [upd_ne ne.symm, upd_ne ne.symm]; exact upd_same)
theorem ok_tinit {f : Addr} {fd : FuncData} (F : Fun K "__init__" "Threads.__init__" sTInit f fd) (T : Mo K mg cL cG cT cF) : FnOk P w K mg base CX0 1 f fd pTInit (spTInit cT) := by
  refine F.ok scTInit (fun vs H Q E h => ?_) (fun cdv A outer s H vs Q E hr h => ?_)
  · obtain ⟨_, _, rfl, _⟩ := h; rfl
  · obtain ⟨p, dx, rfl, hp, k⟩ := h
    refine ⟨_, pss_cons (ps_fld (pv 0) pe_dnewK rfl) (pss_cons (ps_fld (pv 0) (pe_lst pa_nil) rfl) (pss_one (ps_fld (pv 0) pe_dnewK rfl))), ?_⟩
    intro dl hdl
    have n1 : p ≠ dl := ne_of_none hp hdl
    refine ⟨_, rfl, p, cT, dx, [], rfl, by rw [upd_ne n1]; exact hp, T.kT.cl, T.nT_letters, lenF 0, ?_⟩
    refine ⟨Nat.zero_le _, fun ol hol => ?_⟩
    have n2 : p ≠ ol := ne_of_none upd_same hol
    have n3 : dl ≠ ol := ne_of_none (o := .dK []) (by rw [upd_ne n1.symm]; exact upd_same) hol
    refine ⟨_, rfl, p, cT, dx, _, rfl, by rw [upd_ne n2]; exact upd_same, T.kT.cl, T.nT_order, lenF 1, ?_⟩
    intro dg hdg
    have n4 : p ≠ dg := ne_of_none upd_same hdg
    have n5 : ol ≠ dg := ne_of_none (o := .lst []) (by rw [upd_ne n2.symm]; exact upd_same) hdg
    have n6 : dl ≠ dg := ne_of_none (o := .dK []) (by rw [upd_ne n1.symm, upd_ne n3, upd_ne n1.symm]; exact upd_same) hdg
    refine ⟨_, rfl, p, cT, dx, _, rfl, by rw [upd_ne n4]; exact upd_same, T.kT.cl, T.nT_groups, lenF 2, ?_⟩
    have x1 : ExtB p H (upd (upd H dl (.dK [])) p (.ins cT dx [("letters", .ref dl)])) := (ExtB.of (Ext.upd hdl)).self
    have hol' : H ol = none := by rw [upd_ne n2.symm, upd_ne n3.symm] at hol; exact hol
    have hdg' : H dg = none := by rw [upd_ne n4.symm, upd_ne n5.symm, upd_ne n4.symm, upd_ne n6.symm] at hdg; exact hdg
    refine k dl ol dg _ hdl hol' hdg' n3 n6 n5 (((x1.new hol).self.new hdg).self) upd_same ?_ ?_ ?_
    · rw [upd_ne n1.symm, upd_ne n6, upd_ne n1.symm, upd_ne n3, upd_ne n1.symm]; exact upd_same
    · rw [upd_ne n2.symm, upd_ne n5, upd_ne n2.symm]; exact upd_same
    · rw [upd_ne n4.symm]; exact upd_same
theorem ok_tgrp {f : Addr} {fd : FuncData} (F : Fun K "group_of" "Threads.group_of" sTGrp f fd) (T : Mo K mg cL cG cT cF) (I : Id P w K mg base cG 1 pGInit (spGInit cG)) : FnOk P w K mg base CX0 3 f fd pTGrp (spTGrp cG cT) := by
  refine F.ok scTGrp (fun vs H Q E h => ?_) (fun cdv A outer s H vs Q E hr h => ?_)
  · obtain ⟨_, _, _, _, _, _, _, _, _, _, _, rfl, _⟩ := h; rfl
  · obtain ⟨t, dl, ol, dg, n, H0, kvs, ks, kl, R, Kn, rfl, e0, ⟨⟨dt, ht⟩, nt, ndl, nol, sep, ⟨rows, hdl⟩, ⟨xs, hol⟩⟩, G, hnn, hno, hfew, k⟩ := h
    have hu := hu_of hr
    refine ⟨_, pss_cons (ps_if (pt_cmp (pc_dnotin hu (pv 1) (pe_fld (pv 0) rfl))) (pss_one (ps_dput hu (pe_fld (pv 0) rfl) (pv 1) (pe_i I hr (by rfl) T.mG (pa_cons (pv 1) pa_nil)) rfl)) pss_nil)
      (pss_one (ps_ret (pe_dget hu (pe_fld (pv 0) rfl) (pv 1) (fun _ _ => rfl)))), ?_⟩
    refine ⟨_, rfl, _, rfl, t, cT, dt, _, _, rfl, ht, T.kT.cl, T.nT_groups, rfl, dg, _, rfl, DGet.k (k := Sum.inl n) G.dc, _, rfl, ?_⟩
    rcases rowsD_find kvs n with ⟨g, hg⟩ | hn
    · have v := rowsD_some (f := V.ref) G.part.nd hg
      rw [v]
      refine iteF ?_
      refine ⟨_, rfl, t, cT, dt, _, _, rfl, ht, T.kT.cl, T.nT_groups, rfl, _, rfl, dg, _, rfl, by have z := DGet.k (k := Sum.inl n) G.dc; rw [v] at z; exact z, ?_⟩
      refine k g H kvs ks kl ⟨e0, rfl, rfl, rfl⟩ ⟨G.toGrp, G.rep, fun m => ⟨fun z => .inl ((G.keys m).mp z), fun z => z.elim (G.keys m).mpr fun e => by rw [e]; exact ⟨g, hg⟩⟩⟩ hg (fun _ h => h) (Nat.le_succ _)
    · have v := rowsD_none (f := V.ref) hn
      rw [v]
      refine iteT ?_
      refine ⟨_, rfl, fun x dx hx hdx hne => ?_⟩
      refine ⟨x, dx, n, rfl, upd_same, fun kl0 H2 hkl0 e2 hx2 hk2 => ⟨rfl, ?_⟩⟩
      have e01 : Ext H (upd (upd H dx (.own x)) x (.ins cG dx [])) := (Ext.upd hdx).upd' (by rw [upd_ne (Ne.symm hne)]; exact hx)
      have e2' : Ext H H2 := fun b o q => e2 b o (ne_of_none q hx) (e01 b o q)
      have hkl : H kl0 = none := Ext.none e01 hkl0
      have ht2 := e2' _ _ ht
      have dg2 := e2' _ _ G.dc
      refine ⟨_, rfl, t, cT, dt, _, _, rfl, ht2, T.kT.cl, T.nT_groups, rfl, _, rfl, dg, _, rfl, DPut.k (k := Sum.inl n) dg2 (by rw [rowsD_len, sizeLine_eq]; omega), ?_⟩
      rw [rowsD_new hn]
      have tdg : t ≠ dg := ne_of ht G.dc (by intro z; cases z)
      have xdg : x ≠ dg := (ne_of_none G.dc hx).symm
      have kdg : kl0 ≠ dg := (ne_of_none G.dc hkl).symm
      generalize hH3 : upd H2 dg _ = H3
      have k3 : ∀ b, b ≠ dg → H3 b = H2 b := fun b hb => by rw [← hH3]; exact upd_ne hb
      have d3 : H3 dg = some (.dK (rowsD V.ref (kvs ++ [(n, x)]))) := by rw [← hH3]; exact upd_same
      have t3 : H3 t = _ := (k3 t tdg).trans ht2
      have noX : ∀ m, (m, x) ∉ kvs := fun m h => by
        obtain ⟨_, _, z, _⟩ := G.at_ _ h
        rw [hx] at z; cases z
      have P' := G.part.new hn noX
      have v' := rowsD_some (f := V.ref) P'.nd (List.mem_append_right kvs (List.mem_singleton.mpr rfl) : (n, x) ∈ kvs ++ [(n, x)])
      have kn' : ¬ Kn n := fun z => by obtain ⟨g, hg⟩ := (G.keys n).mpr z; exact hn g hg
      refine ⟨_, rfl, t, cT, dt, _, _, rfl, t3, T.kT.cl, T.nT_groups, rfl, _, rfl, dg, _, rfl, by have z := DGet.k (k := Sum.inl n) d3; rw [v'] at z; exact z, ?_⟩
      refine k x H3 (kvs ++ [(n, x)]) _ (fun g => if g = x then kl0 else kl g) ⟨?_, ?_, ?_, ?_⟩ ⟨⟨d3, G.n0, fun q hq => ?_, fun q hq r hr ne => ?_, P', by rw [List.length_append]; exact hfew⟩, G.rep.new noX hnn (fun q hq => (hno _ ((G.keys q.1).mp ⟨q.2, hq⟩) kn').1) (fun q hq => (hno _ ((G.keys q.1).mp ⟨q.2, hq⟩) kn').2), fun m => ?_⟩
        (List.mem_append_right _ (List.mem_singleton.mpr rfl)) (fun q h => List.mem_append_left _ h) (by simp)
      · rw [← hH3]; exact ext_put (e0.trans e2') G.n0
      · exact (k3 ol (ne_of hol G.dc (by intro z; cases z))).trans ((e2' _ _ hol).trans hol.symm)
      · exact (k3 dl sep).trans ((e2' _ _ hdl).trans hdl.symm)
      · exact t3.trans ht.symm
      · rcases List.mem_append.mp hq with hq | hq
        · obtain ⟨dx', m, g1, g2, g3, g4, g5, g6⟩ := G.at_ q hq
          have nx : q.2 ≠ x := ne_of_none g1 hx
          rw [if_neg nx, if_neg nx]
          exact ⟨dx', m, (k3 _ (ne_of g1 G.dc (by intro z; cases z))).trans (e2' _ _ g1), (k3 _ (ne_of g2 G.dc (by intro z; cases z))).trans (e2' _ _ g2), g3, g4, g5, g6⟩
        · rw [List.mem_singleton.mp hq]
          dsimp only
          rw [if_pos rfl, if_pos rfl]
          exact ⟨dx, n, (k3 x xdg).trans hx2, (k3 kl0 kdg).trans hk2, ⟨List.mem_singleton.mpr rfl, fun y hy => by rw [List.mem_singleton.mp hy]; exact Int.le_refl _⟩, Ext.none e0 hx, Ext.none e0 hkl, fun z => by rw [z, hol] at hkl; cases hkl⟩
      · have old : ∀ q ∈ kvs, q.2 ≠ x ∧ kl q.2 ≠ kl0 := fun q hq => by
          obtain ⟨dx', m, g1, g2, _⟩ := G.at_ q hq
          exact ⟨ne_of_none g1 hx, ne_of_none g2 hkl⟩
        rcases List.mem_append.mp hq with hq | hq <;> rcases List.mem_append.mp hr with hr | hr
        · rw [if_neg (old q hq).1, if_neg (old r hr).1]; exact G.ap q hq r hr ne
        · rw [List.mem_singleton.mp hr, if_neg (old q hq).1, if_pos rfl]; exact (old q hq).2
        · rw [List.mem_singleton.mp hq, if_neg (old r hr).1, if_pos rfl]; exact (old r hr).2.symm
        · rw [List.mem_singleton.mp hq, List.mem_singleton.mp hr] at ne; exact absurd rfl ne
      · rw [← G.keys m]
        constructor
        · rintro ⟨g, hg⟩
          rcases List.mem_append.mp hg with hg | hg
          · exact .inl ⟨g, hg⟩
          · exact .inr (Prod.mk.inj (List.mem_singleton.mp hg)).1
        · rintro (⟨g, hg⟩ | e)
          · exact ⟨g, List.mem_append_left _ hg⟩
          · exact ⟨x, List.mem_append_right _ (by rw [e]; exact List.mem_singleton.mpr rfl)⟩
end
/-- the table while O is emptied: i of O's numbers moved -/
def mvSome (kvs : List (Int × Addr)) (l : List Int) (G : Addr) : List (Int × Addr) := kvs.map fun q => if q.1 ∈ l then (q.1, G) else q
theorem mvSome_fst (kvs : List (Int × Addr)) (l : List Int) (G : Addr) : (mvSome kvs l G).map (·.1) = kvs.map (·.1) := by
  unfold mvSome
  rw [List.map_map]
  refine List.map_congr_left fun q _ => ?_
  show (if q.1 ∈ l then (q.1, G) else q).1 = q.1
  split <;> rfl
theorem mvSome_step {kvs : List (Int × Addr)} {l : List Int} {G : Addr} {n : Int} : ((mvSome kvs l G).map fun q => if q.1 = n then (n, G) else q) = mvSome kvs (l ++ [n]) G := by
  unfold mvSome
  rw [List.map_map]
  refine List.map_congr_left fun q _ => ?_
  show (if (if q.1 ∈ l then (q.1, G) else q).1 = n then (n, G) else (if q.1 ∈ l then (q.1, G) else q)) = if q.1 ∈ l ++ [n] then (q.1, G) else q
  have e : (if q.1 ∈ l then (q.1, G) else q).1 = q.1 := by split <;> rfl
  rw [e]
  by_cases h1 : q.1 = n
  · rw [if_pos h1, if_pos (List.mem_append_right _ (List.mem_singleton.mpr h1)), h1]
  · rw [if_neg h1]
    by_cases h2 : q.1 ∈ l
    · rw [if_pos h2, if_pos (List.mem_append_left _ h2)]
    · rw [if_neg h2, if_neg (by simp [h1, h2])]
theorem mvSome_all {kvs : List (Int × Addr)} {ks : Addr → List Int} (P : Part kvs ks) {a : Int} {G O : Addr} (hO : (a, O) ∈ kvs) : mvSome kvs (ks O) G = mvAll kvs G O := by
  unfold mvSome mvAll
  refine List.map_congr_left fun q hq => ?_
  have e : q.1 ∈ ks O ↔ q.2 = O := by
    rw [P.mem _ hO q.1]
    exact ⟨fun h => key_one P.nd hq h, fun h => by rw [← h]; exact hq⟩
  by_cases h : q.2 = O
  · rw [if_pos h, if_pos (e.mpr h)]
  · rw [if_neg h, if_neg fun z => h (e.mp z)]
/-- the reading of merged's last rows -/
def mrgRest (K : PySem.W.Frag) : TS := tSeq (tFor (iList K (tFld K (tVar 2) "known")) (gName 3) (sDPut (tFld K (tVar 0) "groups") (tVar 3) (tVar 1)))
  (tSeq (tDrop (tBM K "list" rExtend (tFld K (tVar 1) "known") (tCons (tFld K (tVar 2) "known") tNil)))
  (tSeq (sFld K (tVar 1) (tCB (fun xs H Q => ∃ i j, xs = [.int i, .int j] ∧ Q (.int (if j < i then j else i)) H) (tCons (tFld K (tVar 1) "lowest") (tCons (tFld K (tVar 2) "lowest") tNil))) "lowest")
  (tRet (tVar 1))))
theorem mrg_rest {K : PySem.W.Frag} {mg : Str → Option Value} {cL cG cT cF : Addr} (T : Mo K mg cL cG cT cF) {H0 H : Hp} {t dl ol dg : Addr} {kvs : List (Int × Addr)} {ks : Addr → List Int} {kl : Addr → Addr} {R : Int → Int → Prop} {Kn : Int → Prop} {D : Ends} {G O : Addr} {u v : Int}
    (e0 : Ext H0 H) (B : TOb cT H0 H t dl ol dg) (S : GInv cG H0 H dg ol kvs ks kl R Kn) (hG : (u, G) ∈ kvs) (hO : (v, O) ∈ kvs) (ne : G ≠ O)
    (k : ∀ H', ThrFr H0 ol dl t H H' → Grp cG H0 H' dg ol (mvAll kvs G O) (mvKs ks G O) kl → D.rt (.ref G) H') :
    mrgRest K D [some (.ref t), some (.ref G), some (.ref O), none] H := by
  obtain ⟨⟨dt, ht⟩, nt, ndl, nol, sep, ⟨rows, hdl⟩, ⟨xs, hol⟩⟩ := B
  obtain ⟨dg1, m1, g1, g2, g3, g4, g5, g6⟩ := S.at_ _ hG
  obtain ⟨dg2, m2, o1, o2, o3, o4, o5, o6⟩ := S.at_ _ hO
  dsimp only at g1 g2 g3 g4 g5 g6 o1 o2 o3 o4 o5 o6
  have lg := S.lists hG
  have lo := S.lists hO
  dsimp only at lg lo
  have few := S.few
  have dc := S.dc
  have tdg : t ≠ dg := ne_of ht dc (by intro z; cases z)
  have odg : O ≠ dg := ne_of o1 dc (by intro z; cases z)
  have gdg : G ≠ dg := ne_of g1 dc (by intro z; cases z)
  have kodg : kl O ≠ dg := ne_of o2 dc (by intro z; cases z)
  have kgdg : kl G ≠ dg := ne_of g2 dc (by intro z; cases z)
  refine ⟨_, rfl, O, cG, dg2, _, _, rfl, o1, T.kG.cl, T.nG_known, rfl, kl O, rfl, ⟨_, .inl (.inl o2)⟩, ?_⟩
  refine for_list (xs := (ks O).map V.int) (fun i σ Hi => (∃ x, σ = [some (.ref t), some (.ref G), some (.ref O), x]) ∧ Hi dg = some (.dK (rowsD V.ref (mvSome kvs ((ks O).take i) G))) ∧ ∀ b, b ≠ dg → Hi b = H b)
    ⟨⟨_, rfl⟩, ?_, fun _ _ => rfl⟩ (fun i σ Hi _ ⟨_, _, kp⟩ => .inl (.inl ((kp _ kodg).trans o2))) ?_ ?_
  · rw [dc]
    have e : mvSome kvs ((ks O).take 0) G = kvs := by
      unfold mvSome
      simp
    rw [e]
  · rintro i x σ Hi hx ⟨⟨y, rfl⟩, hd, kp⟩
    obtain ⟨z, hz, rfl⟩ : ∃ z, (ks O)[i]? = some z ∧ x = V.int z := by
      rw [List.getElem?_map] at hx
      cases e : (ks O)[i]? with
      | none => rw [e] at hx; cases hx
      | some z => rw [e] at hx; exact ⟨z, rfl, (Option.some.inj hx).symm⟩
    have zin : (z, O) ∈ kvs := (S.part.mem _ hO z).mp (List.mem_of_getElem? hz)
    obtain ⟨b0, hb0⟩ : ∃ b0, (z, b0) ∈ mvSome kvs ((ks O).take i) G := by
      have : z ∈ (mvSome kvs ((ks O).take i) G).map (·.1) := by rw [mvSome_fst]; exact List.mem_map.mpr ⟨_, zin, rfl⟩
      obtain ⟨q, hq, e⟩ := List.mem_map.mp this
      exact ⟨q.2, by rw [← e]; exact hq⟩
    have nd : ((mvSome kvs ((ks O).take i) G).map (·.1)).Nodup := by rw [mvSome_fst]; exact S.part.nd
    refine ⟨_, rfl, _, rfl, t, cT, dt, _, _, rfl, (kp t tdg).trans ht, T.kT.cl, T.nT_groups, rfl, _, rfl, dg, _, rfl, DPut.k (k := Sum.inl z) hd (by rw [rowsD_len]; unfold mvSome; rw [List.length_map, sizeLine_eq]; omega), ?_⟩
    refine ⟨⟨_, rfl⟩, ?_, fun b hb => (upd_ne hb).trans (kp b hb)⟩
    rw [upd_same, rowsD_put nd hb0, mvSome_step]
    have e : (ks O).take (i + 1) = (ks O).take i ++ [z] := by rw [List.take_add_one, hz] <;> rfl
    rw [e]
  · rintro σ H1 ⟨⟨y, rfl⟩, hd, kp⟩
    rw [List.length_map, List.take_length, mvSome_all S.part hO] at hd
    have g1' := (kp _ gdg).trans g1
    have o1' := (kp _ odg).trans o1
    have g2' := (kp _ kgdg).trans g2
    have o2' := (kp _ kodg).trans o2
    have kne : kl G ≠ kl O := S.ap _ hG _ hO ne
    have gk : G ≠ kl G := ne_of g1 g2 (by intro z; cases z)
    have ok' : O ≠ kl G := ne_of o1 g2 (by intro z; cases z)
    refine ⟨_, rfl, G, cG, dg1, _, _, rfl, g1', T.kG.cl, T.nG_known, rfl, .inl ⟨rfl, _, .inl (.inl g2')⟩, _, rfl, O, cG, dg2, _, _, rfl, o1', T.kG.cl, T.nG_known, rfl, kl G, kl O, _, _, rfl, rfl, g2', o2', by rw [List.length_map, List.length_map, sizeLine_eq]; omega, ?_⟩
    generalize hH2 : upd H1 (kl G) _ = H2
    have k2 : ∀ b, b ≠ kl G → H2 b = H1 b := fun b hb => by rw [← hH2]; exact upd_ne hb
    have l2 : H2 (kl G) = some (.lst ((ks G ++ ks O).map V.int)) := by rw [← hH2, List.map_append]; exact upd_same
    have g12 := (k2 G gk).trans g1'
    have o12 := (k2 O ok').trans o1'
    refine ⟨_, rfl, G, cG, dg1, _, _, rfl, g12, T.kG.cl, T.nG_lowest, rfl, _, rfl, O, cG, dg2, _, _, rfl, o12, T.kG.cl, T.nG_lowest, rfl, m1, m2, rfl, ?_⟩
    refine ⟨_, rfl, G, cG, dg1, _, rfl, g12, T.kG.cl, T.nG_lowest, lenF 2, ?_⟩
    refine ⟨_, rfl, ?_⟩
    generalize hH3 : upd H2 G _ = H3
    have g3' : H3 G = some (.ins cG dg1 [("known", .ref (kl G)), ("lowest", .int (if m2 < m1 then m2 else m1))]) := by rw [← hH3]; exact upd_same
    have k3 : ∀ b, b ≠ G → H3 b = H2 b := fun b hb => by rw [← hH3]; exact upd_ne hb
    -- what stands
    have stay : ∀ b, b ≠ dg → b ≠ kl G → b ≠ G → H3 b = H b := fun b h1 h2 h3 => (k3 b h3).trans ((k2 b h2).trans (kp b h1))
    have P' := S.part.move hG hO ne
    refine k H3 ⟨fun b ob q => ?_, ?_, ?_, ?_⟩ ⟨?_, S.n0, fun q hq => ?_, fun q hq r hr nqr => ?_, P', by unfold mvAll; rw [List.length_map]; exact few⟩
    · have z := e0 b ob q
      rw [stay b (ne_of_none q S.n0) (ne_of_none q g5) (ne_of_none q g4)]
      exact z
    · exact stay ol (ne_of hol dc (by intro z; cases z)) g6.symm (ne_of hol g1 (by intro z; cases z))
    · exact stay dl sep (ne_of hdl g2 (by intro z; cases z)) (ne_of hdl g1 (by intro z; cases z))
    · have tG : t ≠ G := fun e => by
        rw [e] at ht
        rw [ht] at g1
        cases g1
      exact stay t tdg (ne_of ht g2 (by intro z; cases z)) tG
    · rw [k3 dg gdg.symm, k2 dg kgdg.symm]
      exact hd
    · rcases mem_mvAll.mp (show (q.1, q.2) ∈ mvAll kvs G O from hq) with ⟨e, _⟩ | ⟨h1, h2⟩
      · rw [e]
        refine ⟨dg1, _, g3', ?_, ?_, g4, g5, g6⟩
        · unfold mvKs
          rw [if_pos rfl, k3 _ gk.symm]
          exact l2
        · unfold mvKs
          rw [if_pos rfl]
          exact g3.append o3
      · by_cases e : q.2 = G
        · rw [e]
          refine ⟨dg1, _, g3', ?_, ?_, g4, g5, g6⟩
          · unfold mvKs
            rw [if_pos rfl, k3 _ gk.symm]
            exact l2
          · unfold mvKs
            rw [if_pos rfl]
            exact g3.append o3
        · obtain ⟨dq, mq, q1, q2, q3, q4, q5, q6⟩ := S.at_ _ h2
          dsimp only at q1 q2 q3 q4 q5 q6
          refine ⟨dq, mq, ?_, ?_, ?_, q4, q5, q6⟩
          · rw [stay q.2 (ne_of q1 dc (by intro z; cases z)) (ne_of q1 g2 (by intro z; cases z)) e]; exact q1
          · unfold mvKs
            rw [if_neg e, stay (kl q.2) (ne_of q2 dc (by intro z; cases z)) (S.ap _ h2 _ hG e) (ne_of q2 g1 (by intro z; cases z))]
            exact q2
          · unfold mvKs
            rw [if_neg e]
            exact q3
    · have old : ∀ q ∈ mvAll kvs G O, ∃ n, (n, q.2) ∈ kvs := fun q hq => by
        rcases mem_mvAll.mp (show (q.1, q.2) ∈ mvAll kvs G O from hq) with ⟨e, _⟩ | ⟨h1, h2⟩
        · exact ⟨u, by rw [e]; exact hG⟩
        · exact ⟨_, h2⟩
      obtain ⟨n1, h1⟩ := old q hq
      obtain ⟨n2, h2⟩ := old r hr
      exact S.ap (n1, q.2) h1 (n2, r.2) h2 nqr
section
variable {P : Program} {w : World} {K : PySem.W.Frag} {mg : Str → Option Value} {base : Heap} {cL cG cT cF : Addr}
theorem ok_tmrg {f : Addr} {fd : FuncData} (F : Fun K "merged" "Threads.merged" sTMrg f fd) (T : Mo K mg cL cG cT cF) : FnOk P w K mg base CX0 1 f fd pTMrg (spTMrg cG cT) := by
  refine F.ok scTMrg (fun vs H Q E h => ?_) (fun cdv A outer s H vs Q E hr h => ?_)
  · obtain ⟨_, _, _, _, _, _, _, _, _, _, _, _, _, _, rfl, _⟩ := h; rfl
  · obtain ⟨t, dl, ol, dg, g, o, n, a, H0, kvs, ks, kl, R, Kn, rfl, e0, ⟨⟨dt, ht⟩, nt, ndl, nol, sep, ⟨rows, hdl⟩, ⟨xs, hol⟩⟩, G, hg, ho, k⟩ := h
    have hu := hu_of hr
    obtain ⟨dg1, m1, g1, g2, g3, g4, g5, g6⟩ := G.at_ _ hg
    obtain ⟨dg2, m2, o1, o2, o3, o4, o5, o6⟩ := G.at_ _ ho
    dsimp only at g1 g2 g3 g4 g5 g6 o1 o2 o3 o4 o5 o6
    have lg := G.lists hg
    have lo := G.lists ho
    have few := G.few
    refine ⟨_, pss_cons (ps_if (pt_cmpR op_eq (pe_fld (pv 1) rfl) (pe_fld (pv 2) rfl) (nomark _)) (pss_one (ps_ret (pv 1))) pss_nil)
      (pss_cons (ps_if (pt_cmpR op_lt (pe_callB call_len_seq (by rfl) T.b_len boot_len (pa_cons (pe_fld (pv 1) rfl) pa_nil)) (pe_callB call_len_seq (by rfl) T.b_len boot_len (pa_cons (pe_fld (pv 2) rfl) pa_nil)) (nomark _))
        (pss_one (ps_par (i := 1) (j := 2) rfl scTMrg.nd rfl rfl (by decide) rfl rfl (pa_cons (pv 2) (pa_cons (pv 1) pa_nil)) (by rfl))) pss_nil)
      (pss_cons (ps_for PassesOwn.never rfl (pi_list (pe_fld (pv 2) rfl)) (pg_name (i := 3) scTMrg.nd rfl (Or.inl rfl)) (pss_one (ps_dput hu (pe_fld (pv 0) rfl) (pv 3) (pv 1) rfl)))
      (pss_cons (ps_expr (pe_bm PySem.F.plainAttrs_list PySem.F.slot_list_extend PySem.F.type_list_extend mt_extend (pe_fld (pv 1) rfl) (pa_cons (pe_fld (pv 2) rfl) pa_nil)))
      (pss_cons (ps_fld (pv 1) (pe_callB (call_min2 rfl) (by rfl) T.b_min boot_min (pa_cons (pe_fld (pv 1) rfl) (pa_cons (pe_fld (pv 2) rfl) pa_nil))) rfl)
      (pss_one (ps_ret (pv 1))))))), ?_⟩
    refine ⟨_, rfl, g, cG, dg1, _, _, rfl, g1, T.kG.cl, T.nG_lowest, rfl, _, rfl, o, cG, dg2, _, _, rfl, o1, T.kG.cl, T.nG_lowest, rfl, rfl, _, rfl, ?_⟩
    have B : TOb cT H0 H t dl ol dg := ⟨⟨dt, ht⟩, nt, ndl, nol, sep, ⟨rows, hdl⟩, ⟨xs, hol⟩⟩
    refine ite2 (fun em => ?_) (fun nm => ?_)
    · have em : m1 = m2 := V.int.inj (of_decide_eq_true em)
      have ego : g = o := by
        by_cases z : g = o
        · exact z
        · exact (G.part.apart hg ho z g3.1 (by rw [em]; exact o3.1)).elim
      subst ego
      exact ⟨_, rfl, k g H kvs ks kl ⟨e0, rfl, rfl, rfl⟩ ⟨G.toGrp, G.rep.stay hg ho, G.keys⟩ hg rfl⟩
    · have nm : m1 ≠ m2 := fun e => nm (decide_eq_true (by rw [e]))
      have ngo : g ≠ o := fun e => nm (by subst e; exact g3.uniq o3)
      have fin : ∀ Gr Or (u v : Int), (Gr = g ∧ Or = o) ∨ (Gr = o ∧ Or = g) → (u, Gr) ∈ kvs → (v, Or) ∈ kvs → Gr ≠ Or → mrgRest K { nx := fun x H' => Q V.non H', rt := Q } [some (.ref t), some (.ref Gr), some (.ref Or), none] H := fun Gr Or u v hGO hu hv nGO => by
        refine mrg_rest T e0 B G hu hv nGO fun H' fr G' => ?_
        have r' := G.rep.move G.part hg ho ngo hGO
        refine k Gr H' _ _ kl fr ⟨G', r', fun m => ?_⟩ ?_ (by unfold mvAll; rw [List.length_map])
        · rw [← G.keys m]
          constructor
          · rintro ⟨h, hh⟩
            rcases mem_mvAll.mp hh with ⟨_, z⟩ | ⟨_, z⟩
            · exact ⟨_, z⟩
            · exact ⟨_, z⟩
          · rintro ⟨h, hh⟩
            by_cases e : h = Or
            · exact ⟨Gr, mem_mvAll.mpr (.inl ⟨rfl, by rw [← e]; exact hh⟩)⟩
            · exact ⟨h, mem_mvAll.mpr (.inr ⟨e, hh⟩)⟩
        · rcases hGO with ⟨rfl, rfl⟩ | ⟨rfl, rfl⟩
          · exact mem_mvAll.mpr (.inr ⟨nGO, hg⟩)
          · exact mem_mvAll.mpr (.inl ⟨rfl, hg⟩)
      refine ⟨_, rfl, g, cG, dg1, _, _, rfl, g1, T.kG.cl, T.nG_known, rfl, kl g, _, rfl, .inl (.inl (.inl g2)), _, rfl, o, cG, dg2, _, _, rfl, o1, T.kG.cl, T.nG_known, rfl, kl o, _, rfl, .inl (.inl (.inl o2)), _, _, rfl, rfl, _, rfl, ?_⟩
      refine ite2 (fun _ => ?_) (fun _ => ?_)
      · exact ⟨_, rfl, _, rfl, _, _, rfl, fin o g a n (.inr ⟨rfl, rfl⟩) ho hg ngo.symm⟩
      · exact fin g o n a (.inl ⟨rfl, rfl⟩) hg ho ngo
end
end K9
set_option Elab.async false
set_option linter.all false
set_option maxRecDepth 100000
set_option maxHeartbeats 4000000
/-! WT2: a letter is put, threads of letters. -/
namespace K9
open PySem PySem.Spec PyProof.Rows L2 SX
abbrev Lts := List (Addr × LD)
def lk (S : Lts) : List (Int × Addr) := S.map fun q => (q.2.num, q.1)
def lets (S : Lts) : List Let := S.map fun q => (q.2.num, q.2.ans)
theorem come_lets (S : Lts) : come (lets S) = S.map fun q => q.2.num := by
  unfold come lets
  rw [List.map_map] <;> rfl
theorem lk_fst (S : Lts) : (lk S).map (·.1) = come (lets S) := by
  rw [come_lets]
  unfold lk
  rw [List.map_map] <;> rfl
theorem lets_snoc (S : Lts) (p : Addr) (L : LD) : lets (S ++ [(p, L)]) = lets S ++ [(L.num, L.ans)] := by
  unfold lets
  rw [List.map_append] <;> rfl
theorem lk_snoc (S : Lts) (p : Addr) (L : LD) : lk (S ++ [(p, L)]) = lk S ++ [(L.num, p)] := by
  unfold lk
  rw [List.map_append] <;> rfl
theorem lk_mem {S : Lts} {n : Int} {p : Addr} : (n, p) ∈ lk S ↔ ∃ L, (p, L) ∈ S ∧ L.num = n := by
  unfold lk
  rw [List.mem_map]
  constructor
  · rintro ⟨⟨a, L⟩, h, e⟩
    obtain ⟨e1, e2⟩ := Prod.mk.inj e
    exact ⟨L, by rw [← e2]; exact h, e1⟩
  · rintro ⟨L, h, e⟩
    exact ⟨(p, L), h, by rw [← e]⟩
/-- threads of the letters S at t; H0: an older world, in which the letters stand -/
structure ThrAt (K : PySem.W.Frag) (cL cG cT : Addr) (H0 H : Hp) (t : Addr) (S : Lts) : Prop where
  ex : ∃ dl ol dg kvs ks kl, TOb cT H0 H t dl ol dg ∧ H dl = some (.dK (rowsD V.ref (lk S))) ∧ H ol = some (.lst ((come (lets S)).map V.int)) ∧
    GInv cG H0 H dg ol kvs ks kl (Conn (lets S)) (fun n => n ∈ known (lets S)) ∧ kvs.length ≤ 9 * S.length
  old : Ext H0 H
  ls : ∀ q ∈ S, LetAt K cL H0 q.1 q.2
  nd : (come (lets S)).Nodup
  few : S.length ≤ 1300
theorem ThrAt.ext {K : PySem.W.Frag} {cL cG cT : Addr} {H0 H H' : Hp} {t : Addr} {S : Lts} (h : ThrAt K cL cG cT H0 H t S) (e : Ext H H') : ThrAt K cL cG cT H0 H' t S := by
  obtain ⟨⟨dl, ol, dg, kvs, ks, kl, B, h1, h2, G, h3⟩, old, ls, nd, few⟩ := h
  obtain ⟨⟨dt, b1⟩, b2, b3, b4, b5, ⟨r, b6⟩, ⟨x, b7⟩⟩ := B
  refine ⟨⟨dl, ol, dg, kvs, ks, kl, ⟨⟨dt, e _ _ b1⟩, b2, b3, b4, b5, ⟨r, e _ _ b6⟩, ⟨x, e _ _ b7⟩⟩, e _ _ h1, e _ _ h2, ⟨⟨e _ _ G.dc, G.n0, fun q hq => ?_, G.ap, G.part, G.few⟩, G.rep, G.keys⟩, h3⟩, old.trans e, ls, nd, few⟩
  obtain ⟨dx, m, g1, g2, g3⟩ := G.at_ q hq
  exact ⟨dx, m, e _ _ g1, e _ _ g2, g3⟩
/-- L is new, or has come as it is -/
def New (S : Lts) (L : LD) : Prop := L.num ∉ come (lets S)
def Old (S : Lts) (L : LD) : Prop := ∃ q, (q, L) ∈ S
def spTHas (K : PySem.W.Frag) (cL cG cT : Addr) : Sp := fun vs H Q _ => ∃ (t p : Addr) (L : LD) (S : Lts) (H0 : Hp), vs = [.ref t, .ref p] ∧ ThrAt K cL cG cT H0 H t S ∧ LetAt K cL H p L ∧
  ((New S L ∧ Q (.bl false) H) ∨ (Old S L ∧ Q (.bl true) H))
def spTPut (K : PySem.W.Frag) (cL cG cT : Addr) : Sp := fun vs H Q _ => ∃ (t p : Addr) (L : LD) (S : Lts) (H0 : Hp), vs = [.ref t, .ref p] ∧ ThrAt K cL cG cT H0 H t S ∧ LetAt K cL H0 p L ∧ L.Ok ∧
  ((New S L ∧ S.length < 1300 ∧ ∀ v H', ThrAt K cL cG cT H0 H' t (S ++ [(p, L)]) → Q v H') ∨ (Old S L ∧ ∀ v, Q v H))
section
variable {P : Program} {w : World} {K : PySem.W.Frag} {mg : Str → Option Value} {base : Heap} {cL cG cT cF : Addr}
theorem ok_thas {f : Addr} {fd : FuncData} (F : Fun K "has_come" "Threads.has_come" sTHas f fd) (T : Mo K mg cL cG cT cF) (M : Md P w K mg base cL 1 "__eq__" pLEq (spLEq K cL)) : FnOk P w K mg base CX0 2 f fd pTHas (spTHas K cL cG cT) := by
  refine F.ok scTHas (fun vs H Q E h => ?_) (fun cdv A outer s H vs Q E hr h => ?_)
  · obtain ⟨_, _, _, _, _, rfl, _⟩ := h; rfl
  · obtain ⟨t, p, L, S, H0, rfl, D, hL, k⟩ := h
    have hu := hu_of hr
    obtain ⟨⟨dl, ol, dg, kvs, ks, kl, ⟨⟨dt, ht⟩, _⟩, hdl, _⟩, old, ls, nd, _⟩ := D
    refine ⟨_, pss_cons (ps_if (pt_cmp (pc_dnotin hu (pe_fld (pv 1) rfl) (pe_fld (pv 0) rfl))) (pss_one (ps_ret pe_bl)) pss_nil)
      (pss_cons (ps_if (pt_cmpR (op_eqOwn M hr) (pe_dget hu (pe_fld (pv 0) rfl) (pe_fld (pv 1) rfl) (fun _ _ => rfl)) (pv 1) (nomark _)) (pss_one (ps_ret pe_bl)) pss_nil) pss_never), ?_⟩
    have hL' := hL
    obtain ⟨dx, ta, ts, tw, sd, tx, h1, _⟩ := hL'
    refine ⟨_, rfl, p, cL, dx, _, _, rfl, h1, T.kL.cl, T.nL_number, rfl, _, rfl, t, cT, dt, _, _, rfl, ht, T.kT.cl, T.nT_letters, rfl, dl, _, rfl, DGet.k (k := Sum.inl L.num) hdl, _, rfl, ?_⟩
    rcases k with ⟨new, k⟩ | ⟨⟨q, hq⟩, k⟩
    · have v := rowsD_none (f := V.ref) (n := L.num) (kvs := lk S) fun b hb => new (by rw [← lk_fst]; exact List.mem_map.mpr ⟨_, hb, rfl⟩)
      rw [v]
      exact iteT k
    · have v := rowsD_some (f := V.ref) (by rw [lk_fst]; exact nd) (lk_mem.mpr ⟨L, hq, rfl⟩ : (L.num, q) ∈ lk S)
      rw [v]
      refine iteF ?_
      have hq' := (ls _ hq).ext old
      have hq'' := hq'
      obtain ⟨dx', ta', ts', tw', sd', tx', g1, _⟩ := hq''
      refine ⟨_, rfl, t, cT, dt, _, _, rfl, ht, T.kT.cl, T.nT_letters, rfl, _, rfl, p, cL, dx, _, _, rfl, h1, T.kL.cl, T.nL_number, rfl, dl, _, rfl, by have z := DGet.k (k := Sum.inl L.num) hdl; rw [v] at z; exact z, ?_⟩
      refine ⟨_, rfl, q, dx', _, rfl, g1, ⟨p, rfl, .inl ⟨cL, dx, _, h1, T.fLL⟩⟩, q, p, L, L, rfl, hq', hL, _, rfl, _, rfl, ?_⟩
      rw [decide_eq_true (rfl : L = L)]
      exact iteT k
theorem ok_tput {f : Addr} {fd : FuncData} (F : Fun K "put" "Threads.put" sTPut f fd) (T : Mo K mg cL cG cT cF) (Mh : Md P w K mg base cT 2 "has_come" pTHas (spTHas K cL cG cT)) (Mg : Md P w K mg base cT 3 "group_of" pTGrp (spTGrp cG cT))
    (Mm : Md P w K mg base cT 1 "merged" pTMrg (spTMrg cG cT)) : FnOk P w K mg base CX0 4 f fd pTPut (spTPut K cL cG cT) := by
  refine F.ok scTPut (fun vs H Q E h => ?_) (fun cdv A outer s H vs Q E hr h => ?_)
  · obtain ⟨_, _, _, _, _, rfl, _⟩ := h; rfl
  · obtain ⟨t, p, L, S, H0, rfl, D, hL, ok, k⟩ := h
    have hu := hu_of hr
    have hr2 := hr.mono (show 2 ≤ 3 by decide)
    have hr1 := hr.mono (show 1 ≤ 3 by decide)
    have D' := D
    obtain ⟨⟨dl, ol, dg, kvs, ks, kl, B, hdl, hol, G, hfew⟩, old, ls, nd, sfew⟩ := D'
    obtain ⟨dt, ht⟩ := B.ob
    refine ⟨_, pss_cons (ps_if (pt_val (pe_m (pv 0) T.kT.cl Mh hr2 (pa_cons (pv 1) pa_nil))) (pss_one (ps_ret pe_bl)) pss_nil)
      (pss_cons (ps_dput hu (pe_fld (pv 0) rfl) (pe_fld (pv 1) rfl) (pv 1) rfl)
      (pss_cons (ps_expr (pe_bm PySem.F.plainAttrs_list PySem.F.slot_list_append PySem.F.type_list_append mt_append (pe_fld (pv 0) rfl) (pa_cons (pe_fld (pv 1) rfl) pa_nil)))
      (pss_cons (ps_set (i := 2) scTPut.nd rfl (Or.inl rfl) (pe_m (pv 0) T.kT.cl Mg hr (pa_cons (pe_fld (pv 1) rfl) pa_nil)))
      (pss_cons (ps_for PassesOwn.never rfl (pi_tup (pe_fld (pv 1) rfl)) (pg_name (i := 3) scTPut.nd rfl (Or.inl rfl))
        (pss_one (ps_set (i := 2) scTPut.nd rfl (Or.inl rfl) (pe_m (pv 0) T.kT.cl Mm hr1 (pa_cons (pv 2) (pa_cons (pe_m (pv 0) T.kT.cl Mg hr (pa_cons (pv 3) pa_nil)) pa_nil))))))
      (pss_one (ps_ret pe_bl)))))), ?_⟩
    refine ⟨_, rfl, t, dt, _, rfl, ht, rfl, _, rfl, t, p, L, S, H0, rfl, D, hL.ext old, ?_⟩
    rcases k.symm with ⟨o, k⟩ | ⟨new, hS, k⟩
    · exact .inr ⟨o, _, rfl, k _⟩
    refine .inl ⟨new, _, rfl, ?_⟩
    have hL0 := hL
    obtain ⟨dx, ta, ts, tw, sd, tx, l1, l2, _⟩ := hL0
    have p1 := old _ _ l1
    -- self.letters[..] = letter
    have nolk : ∀ b, (L.num, b) ∉ lk S := fun b hb => new (by rw [← lk_fst]; exact List.mem_map.mpr ⟨_, hb, rfl⟩)
    have lklen : (lk S).length = S.length := by unfold lk; rw [List.length_map]
    refine ⟨_, rfl, _, rfl, t, cT, dt, _, _, rfl, ht, T.kT.cl, T.nT_letters, rfl, _, rfl, p, cL, dx, _, _, rfl, p1, T.kL.cl, T.nL_number, rfl, dl, _, rfl, DPut.k (k := Sum.inl L.num) hdl (by rw [rowsD_len, lklen, sizeLine_eq]; omega), ?_⟩
    rw [rowsD_new nolk, ← lk_snoc]
    generalize hH1 : upd H dl _ = H1
    have k1 : ∀ b, b ≠ dl → H1 b = H b := fun b hb => by rw [← hH1]; exact upd_ne hb
    have d1 : H1 dl = some (.dK (rowsD V.ref (lk (S ++ [(p, L)])))) := by rw [← hH1]; exact upd_same
    have e1 : Ext H0 H1 := by rw [← hH1]; exact ext_put old B.n2
    have tdl : t ≠ dl := ne_of ht hdl (by intro z; cases z)
    have odl : ol ≠ dl := ne_of hol hdl (by intro z; cases z)
    have t1 := (k1 t tdl).trans ht
    have o1 := (k1 ol odl).trans hol
    -- self.order.append(..)
    refine ⟨_, rfl, t, cT, dt, _, _, rfl, t1, T.kT.cl, T.nT_order, rfl, .inl ⟨rfl, _, .inl (.inl o1)⟩, _, rfl, p, cL, dx, _, _, rfl, e1 _ _ l1, T.kL.cl, T.nL_number, rfl, ol, _, _, rfl, rfl, o1, by rw [List.length_map, come_lets, List.length_map, sizeLine_eq]; omega, ?_⟩
    generalize hH2 : upd H1 ol _ = H2
    have k2 : ∀ b, b ≠ ol → H2 b = H1 b := fun b hb => by rw [← hH2]; exact upd_ne hb
    have o2 : H2 ol = some (.lst ((come (lets (S ++ [(p, L)]))).map V.int)) := by
      rw [← hH2, upd_same, lets_snoc]
      unfold come
      rw [List.map_append, List.map_append] <;> rfl
    have e2 : Ext H0 H2 := by rw [← hH2]; exact ext_put e1 B.n3
    have tol : t ≠ ol := ne_of ht hol (by intro z; cases z)
    have d2 := (k2 dl odl.symm).trans d1
    have t2 := (k2 t tol).trans t1
    have st : ∀ b o, H b = some o → b ≠ dl → b ≠ ol → H2 b = some o := fun b o q h1 h2 => (k2 b h2).trans ((k1 b h1).trans q)
    have B2 : TOb cT H0 H2 t dl ol dg := ⟨⟨dt, t2⟩, B.n1, B.n2, B.n3, B.sep, ⟨_, d2⟩, ⟨_, o2⟩⟩
    have G2 : GInv cG H0 H2 dg ol kvs ks kl (Conn (lets S)) (fun n => n ∈ known (lets S)) := ⟨⟨st dg _ G.dc B.sep.symm (ne_of G.dc hol (by intro z; cases z)), G.n0, fun q hq => by
      obtain ⟨dx, m, g1, g2, g3, g4, g5, g6⟩ := G.at_ q hq
      exact ⟨dx, m, st _ _ g1 (ne_of g1 hdl (by intro z; cases z)) (ne_of g1 hol (by intro z; cases z)), st _ _ g2 (ne_of g2 hdl (by intro z; cases z)) g6, g3, g4, g5, g6⟩, G.ap, G.part, G.few⟩, G.rep, G.keys⟩
    -- group = self.group_of(letter.number)
    have apart : ∀ {R : List Let} {n m : Int}, m ∈ known R → n ∉ known R → ¬ Conn R m n ∧ ¬ Conn R n m := fun {R n m} hm hn => ⟨fun c => by
      rcases conn_known c with e | ⟨_, z⟩
      · exact hn (e ▸ hm)
      · exact hn z, fun c => by
      rcases conn_known c with e | ⟨z, _⟩
      · exact hn (e ▸ hm)
      · exact hn z⟩
    refine ⟨_, rfl, t, dt, _, rfl, t2, rfl, _, rfl, p, cL, dx, _, _, rfl, e2 _ _ l1, T.kL.cl, T.nL_number, rfl, ?_⟩
    refine ⟨t, dl, ol, dg, L.num, H0, kvs, ks, kl, _, _, rfl, e2, B2, G2, .refl _, fun m hm hn => apart hm hn, by omega, fun g H3 kvs3 ks3 kl3 fr3 G3 hg3 _ hl3 => ?_⟩
    have B3 := B2.fr fr3
    have base3 : GInv cG H0 H3 dg ol kvs3 ks3 kl3 (Conn (lets S ++ [(L.num, [])])) (fun n => n ∈ known (lets S ++ [(L.num, [])])) := ⟨G3.toGrp, G3.rep.same fun x y => conn_bare.symm, fun n => (G3.keys n).trans known_bare.symm⟩
    have o3 := fr3.2.1.trans o2
    have d3 := fr3.2.2.1.trans d2
    have t3 := fr3.2.2.2.trans t2
    -- for answered in letter.answers
    refine ⟨_, rfl, p, cL, dx, _, _, rfl, fr3.1 _ _ l1, T.kL.cl, T.nL_answers, rfl, ta, rfl, ⟨_, l2.ext fr3.1⟩, ?_⟩
    have an := ok.ans.1
    refine for_tup (xs := L.ans.map V.int) (fun i σ Hi => ∃ gi x kvi ksi kli, σ = [some (.ref t), some (.ref p), some (.ref gi), x] ∧ ThrFr H0 ol dl t H2 Hi ∧ GInv cG H0 Hi dg ol kvi ksi kli (Conn (lets S ++ [(L.num, L.ans.take i)])) (fun n => n ∈ known (lets S ++ [(L.num, L.ans.take i)])) ∧ (L.num, gi) ∈ kvi ∧ kvi.length ≤ kvs.length + 1 + i)
      ⟨g, none, kvs3, ks3, kl3, rfl, fr3, base3, hg3, hl3⟩ (fun i σ Hi _ ⟨_, _, _, _, _, _, fr, _⟩ => l2.ext fr.1) ?_ ?_
    · rintro i x σ Hi hx ⟨gi, y, kvi, ksi, kli, rfl, fr, Gi, hgi, hli⟩
      obtain ⟨a, ha, rfl⟩ : ∃ a, L.ans[i]? = some a ∧ x = V.int a := by
        rw [List.getElem?_map] at hx
        cases e : L.ans[i]? with
        | none => rw [e] at hx; cases hx
        | some z => rw [e] at hx; exact ⟨z, rfl, (Option.some.inj hx).symm⟩
      have il : i < L.ans.length := (List.getElem?_eq_some_iff.mp ha).1
      have Bi := B2.fr fr
      obtain ⟨dti, hti⟩ := Bi.ob
      refine ⟨_, rfl, t, dti, _, rfl, hti, rfl, _, rfl, _, rfl, t, dti, _, rfl, hti, rfl, _, rfl, ?_⟩
      refine ⟨t, dl, ol, dg, a, H0, kvi, ksi, kli, _, _, rfl, fr.1, Bi, Gi, .refl _, fun m hm hn => apart hm hn, by omega, fun h Hj kvj ksj klj frj Gj hhj sub hlj => ?_⟩
      have Bj := Bi.fr frj
      refine ⟨t, dl, ol, dg, gi, h, L.num, a, H0, kvj, ksj, klj, _, _, rfl, frj.1, Bj, Gj, sub _ hgi, hhj, fun g' Hk kvk ksk klk frk Gk hgk hlk => ?_⟩
      refine ⟨g', _, kvk, ksk, klk, rfl, (fr.trans frj).trans frk, ⟨Gk.toGrp, Gk.rep.same fun x y => ?_, fun n => (Gk.keys n).trans ?_⟩, hgk, by omega⟩
      · rw [show L.ans.take (i + 1) = L.ans.take i ++ [a] by rw [List.take_add_one, ha] <;> rfl]
        exact conn_more.symm
      · rw [show L.ans.take (i + 1) = L.ans.take i ++ [a] by rw [List.take_add_one, ha] <;> rfl]
        exact known_more.symm
    · rintro σ H4 ⟨gi, y, kvi, ksi, kli, rfl, fr, Gi, hgi, hli⟩
      rw [List.length_map] at Gi hli
      rw [List.take_length, ← lets_snoc] at Gi
      refine k _ H4 ⟨⟨dl, ol, dg, kvi, ksi, kli, B2.fr fr, fr.2.2.1.trans d2, fr.2.1.trans o2, Gi, by rw [List.length_append]; show kvi.length ≤ 9 * (S.length + 1); omega⟩, fr.1, fun q hq => ?_, ?_, by rw [List.length_append]; exact hS⟩
      · rcases List.mem_append.mp hq with hq | hq
        · exact ls q hq
        · rw [List.mem_singleton.mp hq]; exact hL
      · rw [lets_snoc]
        unfold come
        rw [List.map_append]
        exact List.nodup_append.mpr ⟨nd, by simp, fun a ha b hb e => new (by have z : b = L.num := List.mem_singleton.mp hb; rw [← z, ← e]; exact ha)⟩
end
def addS (S : Lts) (q : Addr × LD) : Lts := if q.2.num ∈ come (lets S) then S else S ++ [q]
def addAll (X : Lts) : Lts := X.foldl addS []
def Cons (X : Lts) : Prop := ∀ q ∈ X, ∀ r ∈ X, q.2.num = r.2.num → q.2 = r.2
theorem addS_len (S : Lts) (q : Addr × LD) : (addS S q).length ≤ S.length + 1 := by
  unfold addS
  split
  · omega
  · simp
theorem addAll_take {X : Lts} {i : Nat} {q : Addr × LD} (h : X[i]? = some q) : addAll (X.take (i + 1)) = addS (addAll (X.take i)) q := by
  unfold addAll
  rw [List.take_add_one, h, List.foldl_append] <;> rfl
theorem addAll_sub : ∀ {X S : Lts} {q : Addr × LD}, q ∈ X.foldl addS S → q ∈ S ∨ q ∈ X
  | [], _, _, h => .inl h
  | x :: X, S, q, h => by
    rcases addAll_sub (X := X) (S := addS S x) h with h | h
    · unfold addS at h
      split at h
      · exact .inl h
      · rcases List.mem_append.mp h with h | h
        · exact .inl h
        · exact .inr (by rw [List.mem_singleton.mp h]; exact List.mem_cons_self)
    · exact .inr (List.mem_cons_of_mem _ h)
theorem addAll_len : ∀ (X S : Lts), (X.foldl addS S).length ≤ S.length + X.length
  | [], _ => Nat.le_refl _
  | x :: X, S => by
    have h1 := addAll_len X (addS S x)
    have h2 := addS_len S x
    show (X.foldl addS (addS S x)).length ≤ S.length + (X.length + 1)
    omega
/-- a letter either is new or has come -/
theorem add_case {X : Lts} (c : Cons X) {i : Nat} {q : Addr × LD} (h : X[i]? = some q) :
    (New (addAll (X.take i)) q.2 ∧ addAll (X.take (i + 1)) = addAll (X.take i) ++ [q]) ∨ (Old (addAll (X.take i)) q.2 ∧ addAll (X.take (i + 1)) = addAll (X.take i)) := by
  rw [addAll_take h]
  unfold addS
  by_cases e : q.2.num ∈ come (lets (addAll (X.take i)))
  · rw [if_pos e]
    refine .inr ⟨?_, rfl⟩
    rw [come_lets] at e
    obtain ⟨r, hr, er⟩ := List.mem_map.mp e
    have hx : r ∈ X := by
      rcases addAll_sub hr with z | z
      · cases z
      · exact List.mem_of_mem_take z
    have eq : r.2 = q.2 := c r hx q (List.mem_of_getElem? h) er
    exact ⟨r.1, by rw [← eq]; exact hr⟩
  · rw [if_neg e]
    exact .inl ⟨e, rfl⟩
def spTOf (K : PySem.W.Frag) (cL cG cT : Addr) : Sp := fun vs H Q _ => ∃ (la : Addr) (X : Lts), vs = [.ref cT, .ref la] ∧ H la = some (.lst (X.map fun q => V.ref q.1)) ∧ (∀ q ∈ X, LetAt K cL H q.1 q.2 ∧ q.2.Ok) ∧ Cons X ∧ X.length ≤ 1300 ∧
  ∀ t H', ThrAt K cL cG cT H H' t (addAll X) → Q (.ref t) H'
section
variable {P : Program} {w : World} {K : PySem.W.Frag} {mg : Str → Option Value} {base : Heap} {cL cG cT cF : Addr}
theorem ok_tof {f : Addr} {fd : FuncData} (F : Fun K "of" "Threads.of" sTOf f fd) (T : Mo K mg cL cG cT cF) (I : Id P w K mg base cT 1 pTInit (spTInit cT)) (Mp : Md P w K mg base cT 4 "put" pTPut (spTPut K cL cG cT)) : FnOk P w K mg base CX0 5 f fd pTOf (spTOf K cL cG cT) := by
  refine F.ok scTOf (fun vs H Q E h => ?_) (fun cdv A outer s H vs Q E hr h => ?_)
  · obtain ⟨_, _, rfl, _⟩ := h; rfl
  · obtain ⟨la, X, rfl, hla, hX, hc, hz, k⟩ := h
    have hr2 := hr.mono (show 2 ≤ 4 by decide)
    refine ⟨_, pss_cons (ps_set (i := 2) scTOf.nd rfl (Or.inl rfl) (pe_il (i := 0) I hr2 rfl (Or.inl rfl)))
      (pss_cons (ps_for PassesOwn.never rfl (pi_list (pv 1)) (pg_name (i := 3) scTOf.nd rfl (Or.inl rfl)) (pss_one (ps_expr (pe_m (pv 2) T.kT.cl Mp hr (pa_cons (pv 3) pa_nil)))))
      (pss_one (ps_ret (pv 2)))), ?_⟩
    refine ⟨rfl, fun x dx hx hdx hne => ⟨x, dx, rfl, upd_same, fun dl ol dg H1 hdl hol hdg n1 n2 n3 e1 o1 o2 o3 o4 => ⟨rfl, ?_⟩⟩⟩
    have e00 : Ext H (upd (upd H dx (.own x)) x (.ins cT dx [])) := (Ext.upd hdx).upd' (by rw [upd_ne (Ne.symm hne)]; exact hx)
    have e01 : Ext H H1 := fun b o q => e1 b o (ne_of_none q hx) (e00 b o q)
    have start : ThrAt K cL cG cT H H1 x [] := ⟨⟨dl, ol, dg, [], fun _ => [], fun _ => 0, ⟨⟨dx, o1⟩, hx, Ext.none e00 hdl, Ext.none e00 hol, n2, ⟨_, o2⟩, ⟨_, o3⟩⟩, o2, o3, ⟨⟨o4, Ext.none e00 hdg, (fun q hq => by cases hq), (fun q hq => by cases hq), ⟨List.nodup_nil, (fun q hq => by cases hq), (fun q hq => by cases hq)⟩, Nat.zero_le _⟩, (fun q hq => by cases hq), fun n => ⟨(fun ⟨g, hg⟩ => by cases hg), (fun h => by cases h)⟩⟩, Nat.zero_le _⟩, e01, (fun q hq => by cases hq), List.nodup_nil, Nat.zero_le _⟩
    refine ⟨_, rfl, la, rfl, ⟨_, .inl (.inl (e01 _ _ hla))⟩, ?_⟩
    refine for_list (xs := X.map fun q => V.ref q.1) (fun i σ Hi => ∃ y, σ = [some (.ref cT), some (.ref la), some (.ref x), y] ∧ ThrAt K cL cG cT H Hi x (addAll (X.take i))) ⟨none, rfl, start⟩ (fun i σ Hi _ ⟨_, _, D⟩ => .inl (.inl (D.old _ _ hla))) ?_ ?_
    · rintro i v σ Hi hv ⟨y, rfl, D⟩
      obtain ⟨q, hq, rfl⟩ : ∃ q, X[i]? = some q ∧ v = V.ref q.1 := by
        rw [List.getElem?_map] at hv
        cases e : X[i]? with
        | none => rw [e] at hv; cases hv
        | some z => rw [e] at hv; exact ⟨z, rfl, (Option.some.inj hv).symm⟩
      have il : i < X.length := (List.getElem?_eq_some_iff.mp hq).1
      obtain ⟨hq1, hq2⟩ := hX q (List.mem_of_getElem? hq)
      have D' := D
      obtain ⟨⟨dl', ol', dg', _, _, _, ⟨⟨dti, hti⟩, _⟩, _⟩, _⟩ := D'
      refine ⟨_, rfl, x, dti, _, rfl, hti, rfl, _, rfl, x, q.1, q.2, _, H, rfl, D, hq1, hq2, ?_⟩
      have len := addAll_len (X.take i) []
      rw [List.length_take] at len
      have len : (addAll (X.take i)).length ≤ min i X.length := by rw [List.length_nil, Nat.zero_add] at len; exact len
      rcases add_case hc hq with ⟨h1, h2⟩ | ⟨h1, h2⟩
      · exact .inl ⟨h1, by omega, fun v H' D2 => ⟨_, rfl, by rw [h2]; exact D2⟩⟩
      · exact .inr ⟨h1, fun v => ⟨_, rfl, by rw [h2]; exact D⟩⟩
    · rintro σ H2 ⟨y, rfl, D⟩
      rw [List.length_map, List.take_length] at D
      exact ⟨_, rfl, k x H2 D⟩
end
end K9
set_option Elab.async false
set_option linter.all false
set_option maxRecDepth 100000
set_option maxHeartbeats 4000000
/-! WT3: threads are asked. -/
namespace K9
open PySem PySem.Spec PyProof.Rows L2 SX
/-- n's group and its numbers -/
theorem GInv.find {cG : Addr} {H0 H : Hp} {dg ol : Addr} {kvs : List (Int × Addr)} {ks : Addr → List Int} {kl : Addr → Addr} {ls : List Let} (G : GInv cG H0 H dg ol kvs ks kl (Conn ls) (fun n => n ∈ known ls)) {n : Int} {g : Addr} (h : (n, g) ∈ kvs) :
    (ks g).Nodup ∧ ∀ x, x ∈ ks g ↔ Conn ls n x ∧ x ∈ known ls := by
  refine ⟨G.part.knd _ h, fun x => ?_⟩
  rw [G.part.mem _ h x]
  constructor
  · intro hx
    exact ⟨(G.rep _ h _ hx).mp rfl, (G.keys x).mp ⟨_, hx⟩⟩
  · rintro ⟨c, hk⟩
    obtain ⟨g', hg'⟩ := (G.keys x).mpr hk
    have e : g = g' := (G.rep _ h _ hg').mpr c
    rw [e]; exact hg'
theorem GInv.least {cG : Addr} {H0 H : Hp} {dg ol : Addr} {kvs : List (Int × Addr)} {ks : Addr → List Int} {kl : Addr → Addr} {ls : List Let} (G : GInv cG H0 H dg ol kvs ks kl (Conn ls) (fun n => n ∈ known ls)) {n m : Int} {g : Addr} (h : (n, g) ∈ kvs) (hm : IsMin (ks g) m) :
    Least ls m ∧ Conn ls n m := by
  obtain ⟨_, f⟩ := G.find h
  obtain ⟨c, hk⟩ := (f m).mp hm.1
  refine ⟨⟨hk, fun x cx => ?_⟩, c⟩
  have c2 : Conn ls n x := c.trans cx
  have kx : x ∈ known ls := by
    rcases conn_known cx with e | ⟨_, z⟩
    · exact e ▸ hk
    · exact z
  exact hm.2 x ((f x).mpr ⟨c2, kx⟩)
theorem least_one {ls : List Let} {m n : Int} (a : Least ls m) (b : Least ls n) (c : Conn ls m n) : m = n := by
  have h1 := a.2 n c
  have h2 := b.2 m c.symm
  omega
def spTNam (K : PySem.W.Frag) (cL cG cT : Addr) : Sp := fun vs H Q _ => ∃ (t : Addr) (n : Int) (S : Lts) (H0 : Hp), vs = [.ref t, .int n] ∧ ThrAt K cL cG cT H0 H t S ∧ n ∈ known (lets S) ∧
  ∀ m, Least (lets S) m → Conn (lets S) n m → Q (.int m) H
/-- the numbers of n's thread that p tells, as a new tuple -/
def spTPick (K : PySem.W.Frag) (cL cG cT : Addr) (p : Lts → Int → Prop) : Sp := fun vs H Q _ => ∃ (t : Addr) (n : Int) (S : Lts) (H0 : Hp), vs = [.ref t, .int n] ∧ ThrAt K cL cG cT H0 H t S ∧ n ∈ known (lets S) ∧
  ∀ q H' ns, Ext H H' → H' q = some (.tup (ns.map V.int)) → Up ns → (∀ m, m ∈ ns ↔ Conn (lets S) n m ∧ p S m) → Q (.ref q) H'
def spTMem (K : PySem.W.Frag) (cL cG cT : Addr) : Sp := spTPick K cL cG cT fun S m => m ∈ come (lets S)
def spTAbs (K : PySem.W.Frag) (cL cG cT : Addr) : Sp := spTPick K cL cG cT fun S m => m ∈ known (lets S) ∧ m ∉ come (lets S)
def spTNms (K : PySem.W.Frag) (cL cG cT : Addr) : Sp := fun vs H Q _ => ∃ (t : Addr) (S : Lts) (H0 : Hp), vs = [.ref t] ∧ ThrAt K cL cG cT H0 H t S ∧ (known (lets S)).length ≤ 4000 ∧
  ∀ q H' ns, Ext H H' → H' q = some (.tup (ns.map V.int)) → Up ns → (∀ m, m ∈ ns ↔ Least (lets S) m) → Q (.ref q) H'
/-- a set comprehended, by what stands ahead of each turn -/
theorem sc_walk {w : World} {J : It} {n : Nat} {G : Hp → Prop} {Y : Nat → Hp → V → Hp → Prop} (wk : L2.Walk J n G Y) {g : TG} {te : TE} {vs : List Nat} {σ : L2.St} {H1 : Hp} {D : Addr} {Qd : Hp → Prop} (Pv : Nat → Hp → Prop) (h0 : Pv 0 (upd H1 D (SetO w D (fun _ => false) 0))) (hG : ∀ i H, i ≤ n → Pv i H → G H)
    (hs : ∀ i x H H', i < n → Pv i H → Y i H x H' → g x (wipe σ vs) H' fun σ2 H2 => wipe σ2 vs = wipe σ vs ∧ te σ2 H2 fun y H4 => ∃ (c : Int) (S : Int → Bool) (n : Nat), y = .int c ∧ H4 D = some (SetO w D S n) ∧ n + 1 < scanBound ∧ Pv (i + 1) (upd H4 D (SetO w D (fun j => S j || decide (j = c)) (if S c = true then n else n + 1))))
    (hd : ∀ H, Pv n H → Qd H) :
    ∃ W : Nat → Nat → Hp → Prop, (∃ m, W 0 m (upd H1 D (SetO w D (fun _ => false) 0))) ∧ ∀ i m H, W i m H →
      (J.stop i H ∧ Qd H) ∨ (J.go i H ∧ ∃ Nx : Hp → Prop, (∀ H', Nx H' → ∃ m', m' < m ∧ W (i + 1) m' H') ∧ ∀ x H', J.yld i H x H' → g x (wipe σ vs) H' fun σ2 H2 => wipe σ2 vs = wipe σ vs ∧
        te σ2 H2 fun y H4 => ∃ (c : Int) (S : Int → Bool) (n : Nat), y = .int c ∧ H4 D = some (SetO w D S n) ∧ n + 1 < scanBound ∧ Nx (upd H4 D (SetO w D (fun j => S j || decide (j = c)) (if S c = true then n else n + 1)))) := by
  refine ⟨fun i m H => m = n - i ∧ i ≤ n ∧ Pv i H, ⟨n, by simp, Nat.zero_le _, h0⟩, ?_⟩
  rintro i m H ⟨rfl, hi, p⟩
  have q := hG i H hi p
  by_cases hlt : i < n
  · exact .inr ⟨wk.goes i H hlt q, Pv (i + 1), fun H' p' => ⟨n - (i + 1), by omega, rfl, hlt, p'⟩, fun x H' y => hs i x H H' hlt p (wk.yields i H x H' hlt q y)⟩
  · have e : i = n := by omega
    subst e
    exact .inl ⟨wk.stops H q, hd H p⟩
section
variable {P : Program} {w : World} {K : PySem.W.Frag} {mg : Str → Option Value} {base : Heap} {cL cG cT cF : Addr}
theorem ok_tnam {f : Addr} {fd : FuncData} (F : Fun K "name_of" "Threads.name_of" sTNam f fd) (T : Mo K mg cL cG cT cF) : FnOk P w K mg base CX0 1 f fd pTNam (spTNam K cL cG cT) := by
  refine F.ok scTNam (fun vs H Q E h => ?_) (fun cdv A outer s H vs Q E hr h => ?_)
  · obtain ⟨_, _, _, _, rfl, _⟩ := h; rfl
  · obtain ⟨t, n, S, H0, rfl, D, hn, k⟩ := h
    have hu := hu_of hr
    obtain ⟨⟨dl, ol, dg, kvs, ks, kl, B, hdl, hol, G, hfew⟩, old, ls, nd, sfew⟩ := D
    obtain ⟨dt, ht⟩ := B.ob
    obtain ⟨g, hg⟩ := (G.keys n).mpr hn
    obtain ⟨dx, m, g1, g2, g3, _⟩ := G.at_ _ hg
    obtain ⟨l1, l2⟩ := G.least hg g3
    refine ⟨_, pss_cons (ps_if (pt_cmp (pc_dnotin hu (pv 1) (pe_fld (pv 0) rfl))) (pss_one (ps_ret pe_non)) pss_nil)
      (pss_one (ps_ret (pe_fld (pe_dget hu (pe_fld (pv 0) rfl) (pv 1) (fun _ _ => rfl)) rfl))), ?_⟩
    have v := rowsD_some (f := V.ref) G.part.nd hg
    refine ⟨_, rfl, _, rfl, t, cT, dt, _, _, rfl, ht, T.kT.cl, T.nT_groups, rfl, dg, _, rfl, DGet.k (k := Sum.inl n) G.dc, _, rfl, ?_⟩
    rw [v]
    refine iteF ?_
    exact ⟨_, rfl, t, cT, dt, _, _, rfl, ht, T.kT.cl, T.nT_groups, rfl, _, rfl, dg, _, rfl, by have z := DGet.k (k := Sum.inl n) G.dc; rw [v] at z; exact z, g, cG, dx, _, _, rfl, g1, T.kG.cl, T.nG_lowest, rfl, k m l1 l2⟩
theorem ok_tmem {f : Addr} {fd : FuncData} (F : Fun K "members" "Threads.members" sTMem f fd) (T : Mo K mg cL cG cT cF) : FnOk P w K mg base CX0 1 f fd pTMem (spTMem K cL cG cT) := by
  refine F.ok scTMem (fun vs H Q E h => ?_) (fun cdv A outer s H vs Q E hr h => ?_)
  · obtain ⟨_, _, _, _, rfl, _⟩ := h; rfl
  · obtain ⟨t, n, S, H0, rfl, D, hn, k⟩ := h
    have hu := hu_of hr
    obtain ⟨⟨dl, ol, dg, kvs, ks, kl, B, hdl, hol, G, hfew⟩, old, ls, nd, sfew⟩ := D
    obtain ⟨dt, ht⟩ := B.ob
    obtain ⟨g, hg⟩ := (G.keys n).mpr hn
    obtain ⟨dx, m, g1, g2, g3, _⟩ := G.at_ _ hg
    obtain ⟨f1, f2⟩ := G.find hg
    have lg := G.lists hg
    have few := G.few
    dsimp only at lg g1 g2
    refine ⟨_, pss_cons (ps_if (pt_cmp (pc_dnotin hu (pv 1) (pe_fld (pv 0) rfl))) (pss_one (ps_ret (pe_tup pa_nil))) pss_nil)
      (pss_one (ps_ret (pe_callTy call_tuple_of (by rfl) T.b_tuple boot_tuple (pa_cons (pe_callB cr_sortedI (by rfl) T.b_sorted boot_sorted (pa_cons (pe_lc rfl scTMem.nd (pi_list (pe_fld (pe_dget hu (pe_fld (pv 0) rfl) (pv 1) (fun _ _ => rfl)) rfl)) (own := [("known", 2)]) (blkOk_by (by show blkC nTMem (defScope sTMem) _ _ = true; decide +kernel)) (fun _ _ _ _ _ => pg_name (i := 2) scTMem.nd rfl (Or.inl rfl)) (fun _ _ _ _ _ => pts_one (pt_cmp (pc_din hu (pv 2) (pe_fldK K (pv 0)))))
        (fun _ _ _ _ _ => pv 2)) pa_nil)) pa_nil)))), ?_⟩
    have v := rowsD_some (f := V.ref) G.part.nd hg
    refine ⟨_, rfl, _, rfl, t, cT, dt, _, _, rfl, ht, T.kT.cl, T.nT_groups, rfl, dg, _, rfl, DGet.k (k := Sum.inl n) G.dc, _, rfl, ?_⟩
    rw [v]
    refine iteF ?_
    refine ⟨_, rfl, t, cT, dt, _, _, rfl, ht, T.kT.cl, T.nT_groups, rfl, _, rfl, dg, _, rfl, by have z := DGet.k (k := Sum.inl n) G.dc; rw [v] at z; exact z, g, cG, dx, _, _, rfl, g1, T.kG.cl, T.nG_known, rfl, kl g, rfl, ⟨_, .inl (.inl g2)⟩, fun Dn hD => ?_⟩
    refine lc_flat walk_list (fun x => match x with | .int i => decide (i ∈ come (lets S)) | _ => false) (fun x => x) hD (by rw [List.length_map, sizeLine_eq]; omega) (fun H e => .inl (.inl (e _ _ g2))) (fun x hx Hi e A N hA hN => ?_) (fun H1 e hy => ?_)
    · obtain ⟨i, hi, rfl⟩ := List.mem_map.mp hx
      have tde := DGet.k (k := Sum.inl i) (e _ _ hdl)
      refine ⟨rfl, _, rfl, _, rfl, t, cT, dt, _, _, rfl, e _ _ ht, T.kT.cl, T.nT_letters, rfl, dl, _, rfl, tde, _, rfl, ?_⟩
      by_cases hc : i ∈ come (lets S)
      · obtain ⟨q, hq, e2⟩ := List.mem_map.mp (by rw [← lk_fst] at hc; exact hc)
        have z : valV (rowsD V.ref (lk S)) (Sum.inl i) = some (V.ref q.2) := rowsD_some (by rw [lk_fst]; exact nd) (by rw [← e2]; exact hq)
        rw [z]
        exact iteT ⟨_, rfl, hA (decide_eq_true hc) Hi Ext.rfl'⟩
      · have z : valV (rowsD V.ref (lk S)) (Sum.inl i) = none := rowsD_none fun b hb => hc (by rw [← lk_fst]; exact List.mem_map.mpr ⟨_, hb, rfl⟩)
        rw [z]
        exact iteF (hN (decide_eq_false hc) Hi Ext.rfl')
    · have em : ((ks g).map V.int).filter (fun x => match x with | .int i => decide (i ∈ come (lets S)) | _ => false) = ((ks g).filter fun i => decide (i ∈ come (lets S))).map V.int := by
        rw [List.filter_map] <;> rfl
      rw [em, List.map_map] at hy
      refine ⟨Dn, _, rfl, .inl (.inl hy), fun ns' p hp hs hpn => ?_⟩
      have e2 : Ext H1 (upd H1 p (.lst (ns'.map V.int))) := Ext.upd hpn
      refine ⟨p, _, rfl, .inl ⟨.inl (.inl upd_same), fun l hl => ?_⟩⟩
      have ndn : ns'.Nodup := hp.nodup_iff.mpr (f1.filter _)
      refine k l _ ns' ((e.trans e2).trans (Ext.upd hl)) upd_same (up_of_sorted hs ndn) fun m => ?_
      rw [hp.mem_iff, List.mem_filter, decide_eq_true_eq, f2 m]
      constructor
      · rintro ⟨⟨c, _⟩, d⟩; exact ⟨c, d⟩
      · rintro ⟨c, d⟩; exact ⟨⟨c, come_known d⟩, d⟩
theorem ok_tabs {f : Addr} {fd : FuncData} (F : Fun K "absent" "Threads.absent" sTAbs f fd) (T : Mo K mg cL cG cT cF) : FnOk P w K mg base CX0 1 f fd pTAbs (spTAbs K cL cG cT) := by
  refine F.ok scTAbs (fun vs H Q E h => ?_) (fun cdv A outer s H vs Q E hr h => ?_)
  · obtain ⟨_, _, _, _, rfl, _⟩ := h; rfl
  · obtain ⟨t, n, S, H0, rfl, D, hn, k⟩ := h
    have hu := hu_of hr
    obtain ⟨⟨dl, ol, dg, kvs, ks, kl, B, hdl, hol, G, hfew⟩, old, ls, nd, sfew⟩ := D
    obtain ⟨dt, ht⟩ := B.ob
    obtain ⟨g, hg⟩ := (G.keys n).mpr hn
    obtain ⟨dx, m, g1, g2, g3, _⟩ := G.at_ _ hg
    obtain ⟨f1, f2⟩ := G.find hg
    have lg := G.lists hg
    have few := G.few
    dsimp only at lg g1 g2
    refine ⟨_, pss_cons (ps_if (pt_cmp (pc_dnotin hu (pv 1) (pe_fld (pv 0) rfl))) (pss_one (ps_ret (pe_tup pa_nil))) pss_nil)
      (pss_one (ps_ret (pe_callTy call_tuple_of (by rfl) T.b_tuple boot_tuple (pa_cons (pe_callB cr_sortedI (by rfl) T.b_sorted boot_sorted (pa_cons (pe_lc rfl scTAbs.nd (pi_list (pe_fld (pe_dget hu (pe_fld (pv 0) rfl) (pv 1) (fun _ _ => rfl)) rfl)) (own := [("known", 2)]) (blkOk_by (by show blkC nTAbs (defScope sTAbs) _ _ = true; decide +kernel)) (fun _ _ _ _ _ => pg_name (i := 2) scTAbs.nd rfl (Or.inl rfl)) (fun _ _ _ _ _ => pts_one (pt_cmp (pc_dnotin hu (pv 2) (pe_fldK K (pv 0)))))
        (fun _ _ _ _ _ => pv 2)) pa_nil)) pa_nil)))), ?_⟩
    have v := rowsD_some (f := V.ref) G.part.nd hg
    refine ⟨_, rfl, _, rfl, t, cT, dt, _, _, rfl, ht, T.kT.cl, T.nT_groups, rfl, dg, _, rfl, DGet.k (k := Sum.inl n) G.dc, _, rfl, ?_⟩
    rw [v]
    refine iteF ?_
    refine ⟨_, rfl, t, cT, dt, _, _, rfl, ht, T.kT.cl, T.nT_groups, rfl, _, rfl, dg, _, rfl, by have z := DGet.k (k := Sum.inl n) G.dc; rw [v] at z; exact z, g, cG, dx, _, _, rfl, g1, T.kG.cl, T.nG_known, rfl, kl g, rfl, ⟨_, .inl (.inl g2)⟩, fun Dn hD => ?_⟩
    refine lc_flat walk_list (fun x => match x with | .int i => !decide (i ∈ come (lets S)) | _ => false) (fun x => x) hD (by rw [List.length_map, sizeLine_eq]; omega) (fun H e => .inl (.inl (e _ _ g2))) (fun x hx Hi e A N hA hN => ?_) (fun H1 e hy => ?_)
    · obtain ⟨i, hi, rfl⟩ := List.mem_map.mp hx
      have tde := DGet.k (k := Sum.inl i) (e _ _ hdl)
      refine ⟨rfl, _, rfl, _, rfl, t, cT, dt, _, _, rfl, e _ _ ht, T.kT.cl, T.nT_letters, rfl, dl, _, rfl, tde, _, rfl, ?_⟩
      by_cases hc : i ∈ come (lets S)
      · obtain ⟨q, hq, e2⟩ := List.mem_map.mp (by rw [← lk_fst] at hc; exact hc)
        have z : valV (rowsD V.ref (lk S)) (Sum.inl i) = some (V.ref q.2) := rowsD_some (by rw [lk_fst]; exact nd) (by rw [← e2]; exact hq)
        rw [z]
        exact iteF (hN (by show (!decide (i ∈ come (lets S))) = false; rw [decide_eq_true hc]; rfl) Hi Ext.rfl')
      · have z : valV (rowsD V.ref (lk S)) (Sum.inl i) = none := rowsD_none fun b hb => hc (by rw [← lk_fst]; exact List.mem_map.mpr ⟨_, hb, rfl⟩)
        rw [z]
        exact iteT ⟨_, rfl, hA (by show (!decide (i ∈ come (lets S))) = true; rw [decide_eq_false hc]; rfl) Hi Ext.rfl'⟩
    · have em : ((ks g).map V.int).filter (fun x => match x with | .int i => !decide (i ∈ come (lets S)) | _ => false) = ((ks g).filter fun i => !decide (i ∈ come (lets S))).map V.int := by
        rw [List.filter_map] <;> rfl
      rw [em, List.map_map] at hy
      refine ⟨Dn, _, rfl, .inl (.inl hy), fun ns' p hp hs hpn => ?_⟩
      have e2 : Ext H1 (upd H1 p (.lst (ns'.map V.int))) := Ext.upd hpn
      refine ⟨p, _, rfl, .inl ⟨.inl (.inl upd_same), fun l hl => ?_⟩⟩
      have ndn : ns'.Nodup := hp.nodup_iff.mpr (f1.filter _)
      refine k l _ ns' ((e.trans e2).trans (Ext.upd hl)) upd_same (up_of_sorted hs ndn) fun m => ?_
      rw [hp.mem_iff, List.mem_filter, Bool.not_eq_true', decide_eq_false_iff_not, f2 m]
      constructor
      · rintro ⟨⟨c, d⟩, d2⟩; exact ⟨c, d, d2⟩
      · rintro ⟨c, d, d2⟩; exact ⟨⟨c, d⟩, d2⟩
theorem ok_tnms {f : Addr} {fd : FuncData} (F : Fun K "names" "Threads.names" sTNms f fd) (T : Mo K mg cL cG cT cF) : FnOk P w K mg base CX0 1 f fd pTNms (spTNms K cL cG cT) := by
  refine F.ok scTNms (fun vs H Q E h => ?_) (fun cdv A outer s H vs Q E hr h => ?_)
  · obtain ⟨_, _, _, rfl, _⟩ := h; rfl
  · obtain ⟨t, S, H0, rfl, D, hkn, k⟩ := h
    have hu := hu_of hr
    obtain ⟨⟨dl, ol, dg, kvs, ks, kl, B, hdl, hol, G, hfew⟩, old, ls, nd, sfew⟩ := D
    obtain ⟨dt, ht⟩ := B.ob
    have few := G.few
    have small : kvs.length ≤ 4000 := by
      have h : (kvs.map (·.1)).length ≤ (known (lets S)).length := nodup_le G.part.nd fun x hx => by
        obtain ⟨q, hq, rfl⟩ := List.mem_map.mp hx
        exact (G.keys q.1).mp ⟨q.2, hq⟩
      rw [List.length_map] at h
      omega
    refine ⟨_, pss_one (ps_ret (pe_callTy call_tuple_of (by rfl) T.b_tuple boot_tuple (pa_cons (pe_callB (cr_sortedSetI rfl) (by rfl) T.b_sorted boot_sorted (pa_cons (pe_scI rfl scTNms.nd (pi_list (pe_listVals (pe_fld (pv 0) rfl) (by rfl) T.b_list)) (own := [("group", 1)]) (blkOk_by (by show blkC nTNms (defScope sTNms) _ _ = true; decide +kernel)) (fun _ _ _ _ _ => pg_name (i := 1) scTNms.nd rfl (Or.inl rfl))
        (fun _ _ _ _ _ => pe_fldK K (pv 1))) pa_nil)) pa_nil))), ?_⟩
    refine ⟨_, rfl, t, cT, dt, _, _, rfl, ht, T.kT.cl, T.nT_groups, rfl, dg, _, rfl, G.dc, fun pl hpl => ?_⟩
    rw [rowsD_snd]
    generalize hH1 : upd H pl _ = H1
    have e1 : Ext H H1 := by rw [← hH1]; exact Ext.upd hpl
    have l1 : H1 pl = some (.lst (kvs.map fun q => V.ref q.2)) := by rw [← hH1]; exact upd_same
    refine ⟨pl, rfl, ⟨_, .inl (.inl l1)⟩, fun Ds hDs => ?_⟩
    have nds : ∀ b o, H1 b = some o → b ≠ Ds := fun b o q => ne_of_none q hDs
    refine sc_walk (walk_list (xs := kvs.map fun q => V.ref q.2)) (fun i Hi => ∃ (Sf : Int → Bool) (c : Nat), Hi Ds = some (SetO w Ds Sf c) ∧ c ≤ i ∧ (∀ m, Sf m = true ↔ ∃ q ∈ kvs.take i, IsMin (ks q.2) m) ∧ ∀ b, b ≠ Ds → Hi b = H1 b)
      ⟨_, 0, upd_same, Nat.le_refl _, fun m => by simp, fun b hb => upd_ne hb⟩ (fun i Hi _ ⟨_, _, _, _, _, kp⟩ => .inl (.inl ((kp _ (nds _ _ l1)).trans l1))) ?_ ?_
    · rintro i x Hi Hi' hil ⟨Sf, c, h1, h2, h3, h4⟩ ⟨rfl, hx⟩
      rw [List.length_map] at hil
      obtain ⟨q, hq, rfl⟩ : ∃ q, kvs[i]? = some q ∧ x = V.ref q.2 := by
        rw [List.getElem?_map] at hx
        cases e : kvs[i]? with
        | none => rw [e] at hx; cases hx
        | some z => rw [e] at hx; exact ⟨z, rfl, (Option.some.inj hx).symm⟩
      obtain ⟨dx, m, g1, g2, g3, _⟩ := G.at_ q (List.mem_of_getElem? hq)
      refine ⟨rfl, _, rfl, q.2, cG, dx, _, _, rfl, (h4 _ (nds _ _ (e1 _ _ g1))).trans (e1 _ _ g1), T.kG.cl, T.nG_lowest, rfl, m, Sf, c, rfl, h1, by unfold scanBound; omega, ?_⟩
      refine ⟨_, _, upd_same, by split <;> omega, fun j => ?_, fun b hb => (upd_ne hb).trans (h4 b hb)⟩
      rw [Bool.or_eq_true, decide_eq_true_eq, h3 j, List.take_add_one, hq]
      constructor
      · rintro (⟨r, hr, mr⟩ | rfl)
        · exact ⟨r, List.mem_append_left _ hr, mr⟩
        · exact ⟨q, List.mem_append_right _ (List.mem_singleton.mpr rfl), g3⟩
      · rintro ⟨r, hr, mr⟩
        rcases List.mem_append.mp hr with hr | hr
        · exact .inl ⟨r, hr, mr⟩
        · have er : r = q := List.mem_singleton.mp hr
          rw [er] at mr
          exact .inr (mr.uniq g3)
    · rintro H2 ⟨Sf, c, h1, h2, h3, h4⟩
      rw [List.length_map, List.take_length] at h3
      refine ⟨Ds, Sf, c, rfl, h1, fun ns p hs hm hp => ?_⟩
      have e2 : Ext H1 H2 := fun b o q => (h4 b (nds _ _ q)).trans q
      refine ⟨p, _, rfl, .inl ⟨.inl (.inl upd_same), fun l hl => ?_⟩⟩
      refine k l _ ns (((e1.trans e2).trans (Ext.upd hp)).trans (Ext.upd hl)) upd_same hs fun m => ?_
      rw [hm m, h3 m]
      constructor
      · rintro ⟨q, hq, mq⟩
        exact (G.least hq mq).1
      · intro lm
        obtain ⟨g, hg⟩ := (G.keys m).mpr lm.1
        obtain ⟨dx, m', g1, g2, g3, _⟩ := G.at_ _ hg
        have l' := G.least hg g3
        have em := least_one lm l'.1 l'.2
        exact ⟨_, hg, by rw [em]; exact g3⟩
end
end K9
set_option Elab.async false
set_option linter.all false
set_option maxRecDepth 100000
set_option maxHeartbeats 4000000
/-! WT4: the summary of threads, == of threads. -/
namespace K9
open PySem PySem.Spec PyProof.Rows L2 SX
abbrev Trip := Int × List Int × List Int
/-- one row of the summary -/
def SumV (H : Hp) (v : V) (e : Trip) : Prop := ∃ q m b, v = V.ref q ∧ H q = some (.tup [.int e.1, .ref m, .ref b]) ∧ H m = some (.tup (e.2.1.map V.int)) ∧ H b = some (.tup (e.2.2.map V.int))
theorem SumV.ext {H H' : Hp} {v : V} {e : Trip} (h : SumV H v e) (x : Ext H H') : SumV H' v e := by
  obtain ⟨q, m, b, h0, h1, h2, h3⟩ := h
  exact ⟨q, m, b, h0, x _ _ h1, x _ _ h2, x _ _ h3⟩
/-- the summary stands at p -/
def SumAt (H : Hp) (p : Addr) (L : List Trip) : Prop := ∃ vs, H p = some (.lst vs) ∧ Paired (SumV H) vs L
theorem SumAt.ext {H H' : Hp} {p : Addr} {L : List Trip} (h : SumAt H p L) (x : Ext H H') : SumAt H' p L := by
  obtain ⟨vs, h1, h2⟩ := h
  exact ⟨vs, x _ _ h1, Paired.mapP h2 fun a b r => r.ext x⟩
def spTSum (K : PySem.W.Frag) (cL cG cT : Addr) : Sp := fun vs H Q _ => ∃ (t : Addr) (S : Lts) (H0 : Hp), vs = [.ref t] ∧ ThrAt K cL cG cT H0 H t S ∧ (known (lets S)).length ≤ 4000 ∧
  ∀ p H' L, Ext H H' → SumAt H' p L → SumOK (lets S) L → Q (.ref p) H'
/-- equal as dicts of letters -/
def SameL (S S' : Lts) : Prop := S.length = S'.length ∧ ∀ q ∈ S, Old S' q.2
/-- what stands at one address is one letter -/
def Agree (S S' : Lts) : Prop := ∀ q ∈ S, ∀ r ∈ S', q.1 = r.1 → q.2 = r.2
theorem map_nd_inj {α β : Type} {f : α → β} {a b : α} : ∀ {l : List α}, (l.map f).Nodup → a ∈ l → b ∈ l → f a = f b → a = b
  | [], _, h, _, _ => by cases h
  | x :: l, nd, ha, hb, e => by
    rw [List.map_cons] at nd
    obtain ⟨n1, nd⟩ := List.nodup_cons.mp nd
    rcases List.mem_cons.mp ha with ha | ha <;> rcases List.mem_cons.mp hb with hb | hb
    · rw [ha, hb]
    · rw [ha] at e; exact absurd (List.mem_map.mpr ⟨b, hb, e.symm⟩) n1
    · rw [hb] at e; exact absurd (List.mem_map.mpr ⟨a, ha, e⟩) n1
    · exact map_nd_inj nd ha hb e
theorem ite_dec {p : Prop} [Decidable p] {A B : Prop} (h1 : p → A) (h2 : ¬ p → B) : if decide p = true then A else B := by
  by_cases h : p
  · rw [if_pos (decide_eq_true h)]; exact h1 h
  · rw [if_neg (by rw [decide_eq_false h]; exact Bool.false_ne_true)]; exact h2 h
def spTEq (K : PySem.W.Frag) (cL cG cT cF : Addr) : Sp := fun vs H Q _ => ∃ (t o : Addr) (S : Lts) (H0 : Hp), vs = [.ref t, .ref o] ∧ ThrAt K cL cG cT H0 H t S ∧
  ((∃ S' H0', ThrAt K cL cG cT H0 H0' t S ∧ ThrAt K cL cG cT H0' H o S' ∧ Agree S S' ∧ (SameL S S' → Q (.bl true) H) ∧ (¬ SameL S S' → Q (.bl false) H)) ∨ (∃ dx fs, H o = some (.ins cF dx fs)) ∧ Q (.bl false) H)
theorem outs_sum {ls : List Let} {ns : List Int} {D : Addr} {H : Hp} : ∀ {is : List Nat} {ys : List V}, Outs (fun i y H => ∃ e : Trip, SumV H y e ∧ SumE ls e ∧ ns[i]? = some e.1) H is ys → ∃ L : List Trip, Paired (SumV H) ys L ∧ (∀ e ∈ L, SumE ls e) ∧ (L.map fun e => some e.1) = is.map fun i => ns[i]?
  | _, _, .nil => ⟨[], .nil, (fun e he => by cases he), rfl⟩
  | _, _, .cons ⟨e, h1, h2, h3⟩ t => by
    obtain ⟨L, l1, l2, l3⟩ := outs_sum (D := D) t
    refine ⟨e :: L, .cons h1 l1, fun x hx => ?_, by rw [List.map_cons, List.map_cons, h3, l3]⟩
    rcases List.mem_cons.mp hx with z | z
    · rw [z]; exact h2
    · exact l2 x z
theorem range_get {α : Type} (l : List α) : (List.range l.length).map (fun i => l[i]?) = l.map some := by
  refine List.ext_getElem (by simp) fun i h1 h2 => ?_
  have hi : i < l.length := by simpa using h2
  simp [hi]
theorem map_some_inj {α : Type} : ∀ {l m : List α}, l.map some = m.map some → l = m
  | [], [], _ => rfl
  | [], _ :: _, h => by simp at h
  | _ :: _, [], h => by simp at h
  | a :: l, b :: m, h => by
    rw [List.map_cons, List.map_cons] at h
    obtain ⟨h1, h2⟩ := List.cons.inj h
    rw [Option.some.inj h1, map_some_inj h2]
section
variable {P : Program} {w : World} {K : PySem.W.Frag} {mg : Str → Option Value} {base : Heap} {cL cG cT cF : Addr}
theorem ok_tsum {f : Addr} {fd : FuncData} (F : Fun K "summary" "Threads.summary" sTSum f fd) (T : Mo K mg cL cG cT cF) (Mn : Md P w K mg base cT 1 "names" pTNms (spTNms K cL cG cT)) (Mm : Md P w K mg base cT 1 "members" pTMem (spTMem K cL cG cT))
    (Ma : Md P w K mg base cT 1 "absent" pTAbs (spTAbs K cL cG cT)) : FnOk P w K mg base CX0 2 f fd pTSum (spTSum K cL cG cT) := by
  refine F.ok scTSum (fun vs H Q E h => ?_) (fun cdv A outer s H vs Q E hr h => ?_)
  · obtain ⟨_, _, _, rfl, _⟩ := h; rfl
  · obtain ⟨t, S, H0, rfl, D, hkn, k⟩ := h
    have hu := hu_of hr
    have D' := D
    obtain ⟨⟨dl, ol, dg, kvs, ks, kl, ⟨⟨dt, ht⟩, _⟩, _⟩, _⟩ := D'
    refine ⟨_, pss_one (ps_ret (pe_lc rfl scTSum.nd (pi_tup (pe_m0 (pv 0) T.kT.cl Mn hr)) (own := [("name", 1)]) (blkOk_by (by show blkC nTSum (defScope sTSum) _ _ = true; decide +kernel)) (fun _ _ _ _ _ => pg_name (i := 1) scTSum.nd rfl (Or.inl rfl)) (fun _ _ _ _ _ => pts_nil)
        (fun _ _ _ _ _ => pe_tup (pa_cons (pv 1) (pa_cons (pe_m (pv 0) T.kT.cl Mm hr (pa_cons (pv 1) pa_nil)) (pa_cons (pe_m (pv 0) T.kT.cl Ma hr (pa_cons (pv 1) pa_nil)) pa_nil)))))), ?_⟩
    refine ⟨_, rfl, t, dt, _, rfl, ht, rfl, t, S, H0, rfl, D, hkn, fun qn H1 ns e1 hq up hns => ?_⟩
    have nlen : ns.length ≤ 4000 := by
      have := nodup_le (up.nodup) fun x hx => ((hns x).mp hx).1
      omega
    refine ⟨qn, rfl, ⟨_, .inl (.inl hq)⟩, fun Dl hD => ?_⟩
    refine lc_eachD walk_tup (fun i y H => ∃ e : Trip, (∃ q m b, y = V.ref q ∧ q ≠ Dl ∧ m ≠ Dl ∧ b ≠ Dl ∧ H q = some (.tup [.int e.1, .ref m, .ref b]) ∧ H m = some (.tup (e.2.1.map V.int)) ∧ H b = some (.tup (e.2.2.map V.int))) ∧ SumE (lets S) e ∧ ns[i]? = some e.1) hD (by rw [List.length_map, sizeLine_eq]; omega) (fun H e => .inl (.inl (e _ _ hq)))
      (fun i y H H' _ x ⟨e, ⟨q, m, b, h0, n1, n2, n3, h1, h2, h3⟩, r⟩ => ⟨e, ⟨q, m, b, h0, n1, n2, n3, x _ _ n1 h1, x _ _ n2 h2, x _ _ n3 h3⟩, r⟩) (fun i x Hi Hi' hil ei ⟨zs, hz⟩ y A hA => ?_) (fun H2 ys e2 hy o => ?_)
    · obtain ⟨rfl, hx⟩ := y
      obtain ⟨n, hn, rfl⟩ : ∃ n, ns[i]? = some n ∧ x = V.int n := by
        rw [List.getElem?_map] at hx
        cases e : ns[i]? with
        | none => rw [e] at hx; cases hx
        | some z => rw [e] at hx; exact ⟨z, rfl, (Option.some.inj hx).symm⟩
      have ln := (hns n).mp (List.mem_of_getElem? hn)
      have Di := (D.ext e1).ext ei
      have ti := ei _ _ (e1 _ _ ht)
      refine ⟨rfl, _, rfl, _, rfl, t, dt, _, rfl, ti, rfl, _, rfl, t, n, S, H0, rfl, Di, ln.1, fun qm Hj me ej hqm um hm => ?_⟩
      refine ⟨_, rfl, t, dt, _, rfl, ej _ _ ti, rfl, _, rfl, t, n, S, H0, rfl, Di.ext ej, ln.1, fun qa Hk ab ek hqa ua ha => ?_⟩
      refine ⟨(show 3 ≤ sizeLine by decide), fun tp htp => ?_⟩
      have eik := ej.trans ek
      have ndl : ∀ {b xs}, Hk b = some (.tup xs) → b ≠ Dl := fun h => ne_of h (eik _ _ hz) (by intro z; cases z)
      have tpl : tp ≠ Dl := (ne_of_none (eik _ _ hz) htp).symm
      have et : Ext Hk (upd Hk tp (.tup [.int n, .ref qm, .ref qa])) := Ext.upd htp
      refine hA _ _ (eik.trans et) ⟨(n, me, ab), ⟨tp, qm, qa, rfl, tpl, ndl (ek _ _ hqm), ndl hqa, upd_same, et _ _ (ek _ _ hqm), et _ _ hqa⟩, ⟨um, ua, hm, ha⟩, hn⟩
    · have o' : Outs (fun i y H => ∃ e : Trip, SumV H y e ∧ SumE (lets S) e ∧ ns[i]? = some e.1) H2 (List.range (ns.map V.int).length) ys := o.imp fun i y ⟨e, ⟨q, m, b, h0, _, _, _, h1, h2, h3⟩, r⟩ => ⟨e, ⟨q, m, b, h0, h1, h2, h3⟩, r⟩
      obtain ⟨L, l1, l2, l3⟩ := outs_sum (D := Dl) o'
      rw [List.length_map, range_get] at l3
      have l4 : L.map (·.1) = ns := map_some_inj (by rw [← l3, List.map_map] <;> rfl)
      exact k Dl H2 L (e1.trans e2) ⟨ys, hy, l1⟩ ⟨by rw [l4]; exact up, fun n => by rw [l4]; exact hns n, l2⟩
theorem LetAt.but {K : PySem.W.Frag} {cL : Addr} {H H' : Hp} {d : Addr} {rows : List (Key × V)} {p : Addr} {L : LD} (h : LetAt K cL H p L) (hd : H d = some (.dK rows)) (e : ∀ b o, b ≠ d → H b = some o → H' b = some o) : LetAt K cL H' p L := by
  have tu : ∀ {a : Addr} {xs : List V}, SqT K H a xs → SqT K H' a xs := fun {a xs} h => by
    rcases h with (h | ⟨o, h⟩) | h
    · exact .inl (.inl (e _ _ (ne_of h hd (by intro z; cases z)) h))
    · exact .inl (.inr ⟨o, e _ _ (ne_of h hd (by intro z; cases z)) h⟩)
    · exact .inr h
  obtain ⟨dx, ta, ts, tw, sd, tx, h1, h2, h3, h4, h5⟩ := h
  exact ⟨dx, ta, ts, tw, sd, tx, e _ _ (ne_of h1 hd (by intro z; cases z)) h1, tu h2, tu h3, tu h4, h5⟩
/-- two dicts that stand locked, and opened again -/
theorem relock {H : Hp} {a b : Addr} {u v : HO} {o1 o2 : HO} (ne : a ≠ b) (ha : H a = some u) (hb : H b = some v) : upd (upd (upd (upd H a o1) b o2) b v) a u = H := by
  funext c
  by_cases h1 : c = a
  · rw [h1, upd_same, ha]
  · rw [upd_ne h1]
    by_cases h2 : c = b
    · rw [h2, upd_same, hb]
    · rw [upd_ne h2, upd_ne h2, upd_ne h1]
theorem lk_get {S : Lts} {i : Nat} {k : Key} {v : V} (h : (rowsD V.ref (lk S))[i]? = some (k, v)) : ∃ q, S[i]? = some q ∧ k = Sum.inl q.2.num ∧ v = V.ref q.1 := by
  unfold rowsD lk at h
  rw [List.map_map, List.getElem?_map] at h
  cases e : S[i]? with
  | none => rw [e] at h; cases h
  | some q =>
    rw [e] at h
    have z := Prod.mk.inj (Option.some.inj h)
    exact ⟨q, rfl, z.1.symm, z.2.symm⟩
theorem ok_teq {f : Addr} {fd : FuncData} (F : Fun K "__eq__" "Threads.__eq__" sTEq f fd) (T : Mo K mg cL cG cT cF) (M : Md P w K mg base cL 1 "__eq__" pLEq (spLEq K cL)) : FnOk P w K mg base CX0 3 f fd pTEq (spTEq K cL cG cT cF) := by
  refine F.ok scTEq (fun vs H Q E h => ?_) (fun cdv A outer s H vs Q E hr h => ?_)
  · obtain ⟨_, _, _, _, rfl, _⟩ := h; rfl
  · obtain ⟨t, o, S, H0, rfl, D, k⟩ := h
    have hu := hu_of hr
    have D' := D
    obtain ⟨⟨dl, ol, dg, kvs, ks, kl, ⟨⟨dt, ht⟩, _⟩, hdl, _⟩, old, ls, nd, sfew⟩ := D'
    refine ⟨_, pss_one (ps_ret (pe_and (pe_callB call_isi (by rfl) T.b_isinstance boot_isinstance (pa_cons (pv 1) (pa_cons (pe_glob (v := .ref cT) (by rfl) T.mT rfl) pa_nil)))
      (pe_one (pe_lock (pe_lock (pe_cmpR (op_eqDct (eqr_own M) hr) (pe_fld (pv 0) rfl) (pe_fld (pv 1) rfl) (nomark _))))))), ?_⟩
    rcases k with ⟨S', H0', D1, D2, ag, k1, k2⟩ | ⟨⟨dx, fs, ho⟩, k⟩
    · obtain ⟨⟨dl', ol', dg', kvs', ks', kl', ⟨⟨dt', ht'⟩, n1', n2', _⟩, hdl', _⟩, old', ls', nd', sfew'⟩ := D2
      refine ⟨_, rfl, _, _, _, _, true, rfl, .own cT, T.kT.ty T ht', kit_self, true, rfl, ?_⟩
      rw [if_pos rfl]
      have ndl : dl ≠ dl' := by
        obtain ⟨⟨dl0, _, _, _, _, _, ⟨⟨dt0, ht0⟩, _⟩, hdl0, _⟩, _⟩ := D1
        have z := old' _ _ ht0
        rw [ht] at z
        have e1 : dl = dl0 := by
          have z := Option.some.inj z
          injection z with _ _ z
          have z := List.cons.inj z
          have z := (Prod.mk.inj z.1).2
          exact V.ref.inj z
        rw [e1]
        exact ne_of_none hdl0 n2'
      refine ⟨dl, .dK (rowsD V.ref (lk S)), hdl, trivial, fun o1 => ⟨dl', .dK (rowsD V.ref (lk S')), by rw [upd_ne ndl.symm]; exact hdl', trivial, fun o2 => ?_⟩⟩
      have op : ∀ v, Q v H → (upd (upd H dl (.frz o1 (.dK (rowsD V.ref (lk S))))) dl' (.frz o2 (.dK (rowsD V.ref (lk S'))))) dl' = some (.frz o2 (.dK (rowsD V.ref (lk S')))) ∧
          (upd (upd (upd H dl (.frz o1 (.dK (rowsD V.ref (lk S))))) dl' (.frz o2 (.dK (rowsD V.ref (lk S'))))) dl' (.dK (rowsD V.ref (lk S')))) dl = some (.frz o1 (.dK (rowsD V.ref (lk S)))) ∧
          Q v (upd (upd (upd (upd H dl (.frz o1 (.dK (rowsD V.ref (lk S))))) dl' (.frz o2 (.dK (rowsD V.ref (lk S'))))) dl' (.dK (rowsD V.ref (lk S')))) dl (.dK (rowsD V.ref (lk S)))) := fun v q => by
        refine ⟨upd_same, by rw [upd_ne ndl, upd_ne ndl, upd_same], ?_⟩
        rw [relock ndl hdl hdl']
        exact q
      generalize hHL : upd (upd H dl (.frz o1 (.dK (rowsD V.ref (lk S))))) dl' (.frz o2 (.dK (rowsD V.ref (lk S')))) = HL at op ⊢
      have st : ∀ b ob, b ≠ dl → b ≠ dl' → H b = some ob → HL b = some ob := fun b ob h1 h2 q => by rw [← hHL, upd_ne h2, upd_ne h1]; exact q
      have f1 : HL dl = some (.frz o1 (.dK (rowsD V.ref (lk S)))) := by rw [← hHL, upd_ne ndl, upd_same]
      have f2 : HL dl' = some (.frz o2 (.dK (rowsD V.ref (lk S')))) := by rw [← hHL, upd_same]
      have t1 := st t _ (ne_of ht hdl (by intro z; cases z)) (ne_of ht hdl' (by intro z; cases z)) ht
      have t2 := st o _ (ne_of ht' hdl (by intro z; cases z)) (ne_of ht' hdl' (by intro z; cases z)) ht'
      have lets1 : ∀ {p L}, LetAt K cL H p L → LetAt K cL HL p L := fun {p L} h => by
        have h1 : LetAt K cL (upd H dl (.frz o1 (.dK (rowsD V.ref (lk S))))) p L := h.but hdl fun b ob n q => by rw [upd_ne n]; exact q
        rw [← hHL]
        exact h1.but (d := dl') (by rw [upd_ne ndl.symm]; exact hdl') fun b ob n q => by rw [upd_ne n]; exact q
      have len1 : (rowsD V.ref (lk S)).length = S.length := by rw [rowsD_len]; unfold lk; rw [List.length_map]
      have len2 : (rowsD V.ref (lk S')).length = S'.length := by rw [rowsD_len]; unfold lk; rw [List.length_map]
      refine ⟨_, rfl, t, cT, dt, _, _, rfl, t1, T.kT.cl, T.nT_letters, rfl, _, rfl, o, cT, dt', _, _, rfl, t2, T.kT.cl, T.nT_letters, rfl, dl, dl', o1, o2, _, _, rfl, rfl, f1, f2, fun ne => ?_, ?_⟩
      · exact op _ (k2 fun z => ne (by rw [len1, len2]; exact z.1))
      · refine ⟨fun i H' => H' = HL ∧ S.length = S'.length ∧ ∀ q ∈ S.take i, Old S' q.2, fun i H' ⟨e, _⟩ => by rw [e]; exact ⟨f1, f2⟩, fun e => ⟨rfl, by rw [← len1, ← len2]; exact e, fun q hq => by cases hq⟩, ?_, ?_⟩
        · rintro i k v H' hk ⟨rfl, e, hd⟩
          obtain ⟨q, hq, rfl, rfl⟩ := lk_get hk
          have hqS := List.mem_of_getElem? hq
          rcases rowsD_find (lk S') q.2.num with ⟨r, hr'⟩ | hn
          · obtain ⟨M', hM, eM⟩ := lk_mem.mp hr'
            have v := rowsD_some (f := V.ref) (by rw [lk_fst]; exact nd') hr'
            have la := lets1 ((ls _ hqS).ext old)
            have lb := lets1 ((ls' _ hM).ext old')
            refine .inr ⟨V.ref r, v, q.1, r, rfl, rfl, fun er => ?_, fun nr => ?_⟩
            · have es : q.2 = M' := ag q hqS _ hM er
              refine iteT ⟨rfl, e, fun x hx => ?_⟩
              rw [List.take_add_one, hq] at hx
              rcases List.mem_append.mp hx with hx | hx
              · exact hd x hx
              · rw [List.mem_singleton.mp hx, es]; exact ⟨r, hM⟩
            · have la' := la
              have lb' := lb
              obtain ⟨dx, ta, ts, tw, sd, tx, a1, _⟩ := la'
              obtain ⟨dy, ua, us, uw, se, ty, b1, _⟩ := lb'
              refine ⟨dx, _, a1, ⟨r, rfl, .inl ⟨cL, dy, _, b1, T.fLL⟩⟩, q.1, r, q.2, M', rfl, la, lb, _, rfl, ?_⟩
              refine ite_dec (fun es => ⟨rfl, e, fun x hx => ?_⟩) (fun es => op _ (k2 fun z => es ?_))
              · rw [List.take_add_one, hq] at hx
                rcases List.mem_append.mp hx with hx | hx
                · exact hd x hx
                · rw [List.mem_singleton.mp hx, es]; exact ⟨r, hM⟩
              · obtain ⟨r2, h2⟩ := z.2 q hqS
                have nd2 := nd'
                rw [come_lets] at nd2
                have z := map_nd_inj (a := (r2, q.2)) (b := (r, M')) nd2 h2 hM eM.symm
                exact (Prod.mk.inj z).2
          · exact .inl ⟨rowsD_none hn, op _ (k2 fun z => by
              obtain ⟨r, hr'⟩ := z.2 q hqS
              exact hn r (lk_mem.mpr ⟨q.2, hr', rfl⟩))⟩
        · rintro H' ⟨rfl, e, hd⟩
          rw [len1, List.take_length] at hd
          exact op _ (k1 ⟨e, hd⟩)
    · refine ⟨_, rfl, _, _, _, _, false, rfl, .own cT, T.kF.ty T ho, T.iFT, false, rfl, ?_⟩
      rw [if_neg Bool.false_ne_true]
      exact k
end
end K9
set_option Elab.async false
set_option linter.all false
set_option maxRecDepth 100000
set_option maxHeartbeats 4000000
/-! ET: enumerate(tuple). -/
namespace K9
open PySem PySem.Spec PyProof.Rows L2
set_option maxHeartbeats 1000000 in
theorem enum_newT {v : Value} {o : Obj} {Hp0 : Heap → Prop} (B : Begins v o Hp0) :
    Meets (Builtin.«enumerate.__new__» ⟨[.type "enumerate", v], []⟩) (fun _ R s => Hp0 s.heap ∧
      R (.ok (.ret (.ref (s.heap.push o).objs.size))) { s with heap := (s.heap.push o).push { cls := .type "enumerate", data := .fields #[.none, .bool false, .ref s.heap.objs.size, rawInt 0, .none, .none] } }) :=
  .of_wp fun prog w A R s h => by
    obtain ⟨hp, g, d, tk, os⟩ := s
    obtain ⟨h1, h⟩ := h
    have hsub := sub_enumerate
    have q1 : ∀ {A' : Around} {E : Value → Shared → Prop} {Q : Value → Shared → Prop}, Q (.ref hp.objs.size) ⟨hp.push o, g, d, tk, os⟩ → wpAny (model prog w) A' (pyIter v) Q E ⟨hp, g, d, tk, os⟩ :=
      fun q => B.iter prog w _ _ ⟨hp, g, d, tk, os⟩ _ h1 q
    wp_walk using q1
    refine wpAny_stack_any fun st => wpAny_pure ?_
    split
    · rename_i c _ _ _ _ _
      cases (c == Value.type "enumerate")
      · wp_walk using q1
        exact ⟨_, rfl, h⟩
      · wp_walk using q1
        exact ⟨_, rfl, h⟩
    · wp_walk using q1
      exact ⟨_, rfl, h⟩
theorem call_enumT {prog : Program} {w : World} {A : Around} {E : Value → Shared → Prop} {s : Shared} {t : Addr} {items : Array Value} {Q : Value → Shared → Prop} (hT : s.heap.IsTuple t items)
    (h : ∀ h', IsEnum h' (s.heap.objs.size + 1) s.heap.objs.size 0 .none → h'.IsTupleIter s.heap.objs.size t 0 → (∀ b o, s.heap.get? b = some o → h'.get? b = some o) → Q (.ref (s.heap.objs.size + 1)) { s with heap := h' }) :
    wpAny (model prog w) A (call (.type "enumerate") [.ref t]) Q E s := by
  have B := begins_tuple t items
  refine callType_new F.called_enumerate (by decide) (F.typeCall_enumerate_1 _) (F.newCall_enumerate_1 _) (fun obj => F.args_object_init_2 obj _) F.entry_enumerate_new (enum_newT B) ⟨hT, ?_⟩
  have hz : (s.heap.push { cls := .type "tuple_iterator", data := .fields #[.ref t, .int 0 0] }).objs.size = s.heap.objs.size + 1 := Heap.size_push ..
  show _ ∧ _
  rw [hz]
  have he : IsEnum ((s.heap.push { cls := .type "tuple_iterator", data := .fields #[.ref t, .int 0 0] }).push { cls := .type "enumerate", data := .fields #[.none, .bool false, .ref s.heap.objs.size, rawInt 0, .none, .none] }) (s.heap.objs.size + 1) s.heap.objs.size 0 .none := by
    have z := Heap.get?_push_size (s.heap.push { cls := .type "tuple_iterator", data := .fields #[.ref t, .int 0 0] }) (o := { cls := .type "enumerate", data := .fields #[.none, .bool false, .ref s.heap.objs.size, rawInt 0, .none, .none] }) rfl
    rw [hz] at z
    exact z
  exact ⟨⟨_, he, rfl⟩, h _ he ⟨_, Heap.get?_push_of_some _ (Heap.get?_push_size _ rfl), rfl, rfl⟩ fun b o x => Heap.get?_push_of_some _ (Heap.get?_push_of_some _ x)⟩
/-- enumerate(t): a tuple, each item in a new pair -/
def IteT (K : PySem.W.Frag) (a : Addr) : It :=
  ⟨fun i H => ∃ (xs : List V) (x : V), SqT K H a xs ∧ xs[i]? = some x, fun i H v H' => ∃ T x, v = .ref T ∧ H T = none ∧ H' = upd H T (.tup [.int (i : Nat), x]) ∧ ∀ xs, SqT K H a xs → xs[i]? = some x, fun i H => ∃ xs : List V, SqT K H a xs ∧ xs.length = i⟩
theorem inv_tupinj {X : Cx} {pins : List (Addr × Obj)} {σ : L2.St} {H : Hp} {s : Shared} (I : Inv X pins σ H s) {a : Addr} {xs ys : List V} (h1 : SqT X.K H a xs) (h2 : SqT X.K H a ys) : xs = ys := by
  obtain ⟨i1, r1, ⟨o1, g1, _, n1, d1⟩, _⟩ := I.tuple h1
  obtain ⟨i2, r2, ⟨o2, g2, _, n2, d2⟩, _⟩ := I.tuple h2
  rw [g1] at g2
  cases g2
  rw [d1] at d2
  injection d2 with e _
  have e : i1 = i2 := by simpa using e
  subst e
  exact Vals.inj r1 r2
theorem turn_enumT {P : Program} {w : World} {K : PySem.W.Frag} {elts : List Expr} {kk : Nat} {tpos : Pos} (a e it : Addr) :
    Turn P w K (.Tuple elts kk tpos) (IteT K a) [e, it] e (fun i h => (∃ old, IsEnum h e it ((i : Nat) : Int) old) ∧ h.IsTupleIter it a i ∧ e ≠ it) where
  mem := by simp
  obj := fun i h st b hb => by
    obtain ⟨⟨old, he⟩, ⟨o, ho, hc, hd⟩, _⟩ := st
    have e' : b = e ∨ b = it := by simpa using hb
    rcases e' with z | z
    · rw [z]; exact ⟨_, he, fun v q => nomatch q⟩
    · rw [z]; exact ⟨o, ho, fun v q => by rw [hd] at q; cases q⟩
  keep := fun i h h' st k => let ⟨⟨old, he⟩, hi, hne⟩ := st; ⟨⟨old, k e (by simp) _ he⟩, hi.at fun o q => k it (by simp) o q, hne⟩
  item := by
    intro X hP hw hK hc i pins s σ H E I hf st hg
    subst hP hw hK
    obtain ⟨⟨old, he⟩, hit, hne⟩ := st
    obtain ⟨xs, x, hq, hx⟩ := hg
    obtain ⟨its, rv, p, hz⟩ := I.tuple hq
    obtain ⟨u, hu, ru⟩ := rv.get hx
    have hT : s.heap.IsTuple a its.toArray := p
    have nai : a ≠ it := fun z => by
      obtain ⟨o1, g1, c1, _⟩ := hT
      obtain ⟨o2, g2, c2, _⟩ := hit
      rw [z, g2] at g1; cases g1
      rw [c1] at c2
      exact absurd (Value.type.inj c2) (by decide)
    have nea : e ≠ a := fun z => by
      obtain ⟨o1, g1, c1, _⟩ := hT
      rw [← z, he] at g1; cases g1
      exact absurd (Value.type.inj c1) (by decide)
    have hel : e < s.heap.objs.size := Heap.lt_size he
    have hil : it < s.heap.objs.size := by obtain ⟨_, q, _⟩ := hit; exact Heap.lt_size q
    have lt : i < its.toArray.size := by
      have := (List.getElem?_eq_some_iff.mp hu).1
      simpa using this
    refine wpAny_pyNext_enum_itemD (Draws.tuple (A := X.A.in1) (I.ok.hd hc) it a nai its.toArray) he ⟨hit, hT⟩ lt hne (by simp [hne, nea]) fun y h' tk hy ho st' hTp hsz hk => ?_
    have ey : y = u := by
      rw [List.getElem?_toArray, hu] at hy
      exact (Option.some.inj hy).symm
    subst ey
    refine ⟨_, rfl, wpAny_letOwnedTupleGo_enum (s := { s with heap := h', toks := tk + 1 }) ho fun h'' he' sb => ?_⟩
    have hT2 : h''.get? s.heap.objs.size = some { cls := .type "tuple", data := .seq #[.int i tk, y] } := (sb.2 _ (Nat.ne_of_gt hel)).trans hTp
    have new : ObjOk X.prog X.w (upd H s.heap.objs.size (.tup [.int (i : Nat), x])) h'' s.heap.objs.size (.tup [.int (i : Nat), x]) :=
      ⟨by show 2 ≤ sizeLine; decide, [.int i tk, y], .cons ⟨_, rfl⟩ (.cons ru .nil), ⟨_, hT2, rfl, _, rfl⟩⟩
    have I1 : Inv X pins σ (upd H s.heap.objs.size (.tup [.int (i : Nat), x])) { s with heap := h'', toks := tk + 1 } :=
      I.turnedNew (ch := [e, it]) (fun b ob hb q => (sb.2 b (fun z => hb (by simp [z]))).trans (hk b ob (fun z => hb (by simp [z])) (fun z => hb (by simp [z])) q)) hf (Nat.le_refl _) new
    refine ⟨.ref s.heap.objs.size, _, I1, rfl, ⟨_, x, rfl, I.hok.fresh (Nat.le_refl _), rfl, fun ys hy => by rw [inv_tupinj I hy hq]; exact hx⟩, ⟨⟨y, ?_⟩, st'.1.at fun o q => (sb.2 it (Ne.symm hne)).trans q, hne⟩, fun b hb => ?_⟩
    · have e1 : ((i + 1 : Nat) : Int) = (i : Int) + 1 := by omega
      rw [e1]; exact he'
    · have hb' : b < s.heap.objs.size := by
        have e' : b = e ∨ b = it := by simpa using hb
        rcases e' with z | z
        · rw [z]; exact hel
        · rw [z]; exact hil
      rw [upd_ne (Nat.ne_of_lt hb')]
      exact (hf b hb).1
  done := by
    intro X hP hw hK hc i pins s σ H E I hf st hg
    subst hP hw hK
    obtain ⟨⟨old, he⟩, hit, hne⟩ := st
    obtain ⟨xs, hq, hx⟩ := hg
    obtain ⟨its, rv, p, hz⟩ := I.tuple hq
    have hT : s.heap.IsTuple a its.toArray := p
    have nai : a ≠ it := fun z => by
      obtain ⟨o1, g1, c1, _⟩ := hT
      obtain ⟨o2, g2, c2, _⟩ := hit
      rw [z, g2] at g1; cases g1
      rw [c1] at c2
      exact absurd (Value.type.inj c2) (by decide)
    obtain ⟨f0, f1, f2, f3, f4, f5⟩ := hf it (by simp)
    have hl := rv.length
    have sz : its.toArray.size = i := by rw [List.size_toArray]; omega
    exact wpAny_pyNext_enum_endD (Draws.tuple (A := X.A.in1) (I.ok.hd hc) it a nai its.toArray) he ⟨by rw [sz]; exact hit, hT⟩ fun h' eb => ⟨rfl, I.turned (t' := s.toks) (fun b o hb q => eb b o hb q) f0 f1 f3 f4 f5⟩
  self := fun A i s Q E st h => let ⟨⟨_, he⟩, _⟩ := st; wpAny_pyIter_enum he h
def iEnumT (K : PySem.W.Frag) (ta : TA) : TI := fun σ H R => ta σ H fun vs H1 => ∃ a xs, vs = [.ref a] ∧ SqT K H1 a xs ∧ R (IteT K a) H1
theorem pi_enumT {X : Cx} {e : Expr} {ta : TA} {p pos tpos : Pos} {elts : List Expr} {kk : Nat} (hg : Gl X "enumerate") (hm : X.mg "enumerate" = none) (ha : PA X [e] ta) (hs : starEach [e] X.env = [(false, eval e X.env)] := by rfl) :
    PI X (.Tuple elts kk tpos) (.Call (.Name "enumerate" p) [e] [] pos) (iEnumT X.K ta) := by
  refine ⟨fun pins s σ H R I h => ?_⟩
  refine Call_ (ld_blt I hg hm boot_enumerate (PyProof.Rows.callWith_type1 (thn (ha.run pos pins s σ H _ I h) fun us s1 z => ?_) hs rfl))
  obtain ⟨vs, H1, I1, r1, a, xs, rfl, hq, q⟩ := z
  rw [Vals.ref1 r1]
  obtain ⟨its, rv, p', hz⟩ := I1.tuple hq
  refine call_enumT (show s1.heap.IsTuple a its.toArray from p') fun h' he hit hk => wpAny_pyIter_enum he ?_
  have I2 : Inv X pins σ H1 { s1 with heap := h' } := I1.kept (t' := s1.toks) hk
  refine ⟨s1.heap.objs.size + 1, [s1.heap.objs.size + 1, s1.heap.objs.size], _, _, H1, rfl, I2, turn_enumT a (s1.heap.objs.size + 1) s1.heap.objs.size, ⟨⟨.none, he⟩, hit, Nat.succ_ne_self _⟩, fun b hb => ?_, q⟩
  have e' : b = s1.heap.objs.size + 1 ∨ b = s1.heap.objs.size := by simpa using hb
  have hle : s1.heap.objs.size ≤ b := by
    rcases e' with z | z
    · rw [z]; exact Nat.le_add_right _ _
    · rw [z]; exact Nat.le_refl _
  exact I1.fpOk hle (I1.hok.fresh hle)
theorem walk_enumT {K : PySem.W.Frag} {a : Addr} {xs : List V} : L2.Walk (IteT K a) xs.length (fun H => SqT K H a xs) (YPair (fun i => some (.int (i : Nat))) (fun i => xs[i]?)) := by
  refine ⟨fun i _ hi q => ⟨xs, xs[i], q, by simp [hi]⟩, fun _ q => ⟨xs, q, rfl⟩, fun i H v H' _ q y => ?_⟩
  obtain ⟨T, x, h1, h2, h3, h4⟩ := y
  exact ⟨T, .int (i : Nat), x, h1, h2, h3, rfl, h4 xs q⟩
end K9
set_option Elab.async false
set_option linter.all false
set_option maxRecDepth 100000
set_option maxHeartbeats 4000000
/-! WF: the walk of the forest that is made. -/
namespace K9
open PySem PySem.Spec PyProof.Rows L2 SX
/-- the rows of the table above -/
def pairs (kn : List Int) (p : Fn) : List (Int × Option Int) := kn.map fun n => (n, p n)
def abv (kn : List Int) (p : Fn) : List (Key × V) := rowsD oV (pairs kn p)
theorem pairs_fst (kn : List Int) (p : Fn) : (pairs kn p).map (·.1) = kn := by
  unfold pairs
  rw [List.map_map]
  exact List.map_id' kn
theorem mem_pairs {kn : List Int} {p : Fn} {n : Int} {o : Option Int} : (n, o) ∈ pairs kn p ↔ n ∈ kn ∧ o = p n := by
  unfold pairs
  rw [List.mem_map]
  constructor
  · rintro ⟨m, hm, e⟩
    obtain ⟨rfl, rfl⟩ := Prod.mk.inj e
    exact ⟨hm, rfl⟩
  · rintro ⟨h, rfl⟩
    exact ⟨n, h, rfl⟩
theorem abv_some {kn : List Int} {p : Fn} (nd : kn.Nodup) {n : Int} (h : n ∈ kn) : valV (abv kn p) (Sum.inl n) = some (oV (p n)) := rowsD_some (by rw [pairs_fst]; exact nd) (mem_pairs.mpr ⟨h, rfl⟩)
theorem abv_none {kn : List Int} {p : Fn} {n : Int} (h : n ∉ kn) : valV (abv kn p) (Sum.inl n) = none := rowsD_none fun b hb => h (mem_pairs.mp hb).1
theorem abv_len {kn : List Int} {p : Fn} : (abv kn p).length = kn.length := by unfold abv pairs; rw [rowsD_len, List.length_map]
/-- a Forest object and its table above: what its questions lean on -/
structure FQ (cF : Addr) (H : Hp) (f : Addr) (kn : List Int) (p : Fn) : Prop where
  ob : ∃ dt dl da db dr, H f = some (.ins cF dt [("letters", .ref dl), ("above", .ref da), ("below", .ref db), ("rings", .ref dr)]) ∧ H da = some (.dK (abv kn p))
  nd : kn.Nodup
  inn : ∀ n a, p n = some a → n ∈ kn ∧ a ∈ kn
  path : ∀ n, ∃ ps, Path p n ps
  few : kn.length ≤ 20000
theorem FQ.ext {cF : Addr} {H H' : Hp} {f : Addr} {kn : List Int} {p : Fn} (h : FQ cF H f kn p) (e : Ext H H') : FQ cF H' f kn p := by
  obtain ⟨⟨dt, dl, da, db, dr, h1, h2⟩, a, b, c, d⟩ := h
  exact ⟨⟨dt, dl, da, db, dr, e _ _ h1, e _ _ h2⟩, a, b, c, d⟩
theorem FQ.inside {cF : Addr} {H : Hp} {f : Addr} {kn : List Int} {p : Fn} (h : FQ cF H f kn p) {n : Int} (hn : n ∈ kn) {ps : List Int} (P : Path p n ps) : ∀ x ∈ ps, x ∈ kn := by
  induction P with
  | root _ => intro x hx; rw [List.mem_singleton.mp hx]; exact hn
  | step e _ ih =>
    intro x hx
    rcases List.mem_cons.mp hx with z | z
    · rw [z]; exact hn
    · exact ih (h.inn _ _ e).2 x z
theorem FQ.short {cF : Addr} {H : Hp} {f : Addr} {kn : List Int} {p : Fn} (h : FQ cF H f kn p) {n : Int} (hn : n ∈ kn) {ps : List Int} (P : Path p n ps) : ps.length ≤ kn.length := nodup_le P.nodup (h.inside hn P)
def spFPath (cF : Addr) : Sp := fun vs H Q _ => ∃ (f : Addr) (n : Int) (kn : List Int) (p : Fn), vs = [.ref f, .int n] ∧ FQ cF H f kn p ∧
  (n ∈ kn → ∀ q H' ps, Ext H H' → H' q = some (.tup (ps.map V.int)) → Path p n ps → Q (.ref q) H') ∧ (n ∉ kn → ∀ q H', Ext H H' → H' q = some (.tup []) → Q (.ref q) H')
section
variable {P : Program} {w : World} {K : PySem.W.Frag} {mg : Str → Option Value} {base : Heap} {cL cG cT cF : Addr}
theorem atI_last {α : Type} (xs : List α) (y : α) : atI (xs ++ [y]) (-1) = some y := by
  unfold atI ixN
  rw [if_neg (by decide), if_pos (by rw [List.length_append]; simp; omega)]
  show (xs ++ [y])[(-1 + ((xs ++ [y]).length : Int)).toNat]? = some y
  have e : (-1 + ((xs ++ [y]).length : Int)).toNat = xs.length := by rw [List.length_append]; simp; omega
  rw [e]
  simp
theorem atI_zero {α : Type} (x : α) (xs : List α) : atI (x :: xs) 0 = some x := by
  unfold atI ixN
  rw [if_pos (by decide), if_pos (by rw [List.length_cons]; omega)]
  rfl
theorem ok_fpath {f : Addr} {fd : FuncData} (F : Fun K "path" "Forest.path" sFPath f fd) (T : Mo K mg cL cG cT cF) : FnOk P w K mg base CX0 1 f fd pFPath (spFPath cF) := by
  refine F.ok scFPath (fun vs H Q E h => ?_) (fun cdv A outer s H vs Q E hr h => ?_)
  · obtain ⟨_, _, _, _, rfl, _⟩ := h; rfl
  · obtain ⟨fo, n, kn, p, rfl, D, k1, k2⟩ := h
    have hu := hu_of hr
    obtain ⟨dt, dl, da, db, dr, hf, hda⟩ := D.ob
    have few := D.few
    refine ⟨_, pss_cons (ps_if (pt_cmp (pc_dnotin hu (pv 1) (pe_fld (pv 0) rfl))) (pss_one (ps_ret (pe_tup pa_nil))) pss_nil)
      (pss_cons (ps_set (i := 2) scFPath.nd rfl (Or.inl rfl) (pe_lst (pa_cons (pv 1) pa_nil)))
      (pss_cons (ps_while PassesOwn.never (pt_cmp (pc_notN (pe_dget hu (pe_fld (pv 0) rfl) (pe_ix ix_seq (pv 2) (pe_un un_neg pe_int) (fun _ _ => rfl)) (fun _ _ => rfl))))
        (pss_one (ps_expr (pe_bm PySem.F.plainAttrs_list PySem.F.slot_list_append PySem.F.type_list_append mt_append (pv 2) (pa_cons (pe_dget hu (pe_fld (pv 0) rfl) (pe_ix ix_seq (pv 2) (pe_un un_neg pe_int) (fun _ _ => rfl)) (fun _ _ => rfl)) pa_nil)))))
      (pss_one (ps_ret (pe_callTy call_tuple_of (by rfl) T.b_tuple boot_tuple (pa_cons (pv 2) pa_nil)))))), ?_⟩
    refine ⟨_, rfl, _, rfl, fo, cF, dt, _, _, rfl, hf, T.kF.cl, T.nF_above, rfl, da, _, rfl, DGet.k (k := Sum.inl n) hda, _, rfl, ?_⟩
    by_cases hn : n ∈ kn
    · rw [abv_some D.nd hn]
      refine iteF ?_
      refine ⟨_, rfl, (show 1 ≤ sizeLine by decide), fun lw hlw => ?_⟩
      obtain ⟨ps, hp⟩ := D.path n
      have inn := D.inside hn hp
      have short := D.short hn hp
      obtain ⟨r0, hr0⟩ := hp.head
      refine ⟨fun m σ Hi => ∃ us x vs, ps = us ++ x :: vs ∧ m = vs.length ∧ σ = [some (.ref fo), some (.int n), some (.ref lw)] ∧ Hi lw = some (.lst ((us ++ [x]).map V.int)) ∧ Path p x (x :: vs) ∧ Ext H Hi,
        ⟨r0.length, [], n, r0, hr0, rfl, rfl, upd_same, by rw [← hr0]; exact hp, Ext.upd hlw⟩, ?_⟩
      rintro m σ Hi ⟨us, x, vs, e, rfl, rfl, hl, P, eH⟩
      have fi := eH _ _ hf
      have di := eH _ _ hda
      have xk : x ∈ kn := inn x (by rw [e]; simp)
      have gx := DGet.k (k := Sum.inl x) di
      rw [abv_some D.nd xk] at gx
      have lastx : ∃ (q : Addr) (xs : List V) (i : Int) (v : V), V.ref lw = V.ref q ∧ V.int (-1) = V.int i ∧ SqL K Hi q xs ∧ atI xs i = some v ∧ v = V.int x :=
        ⟨lw, _, -1, _, rfl, rfl, .inl (.inl hl), by rw [List.map_append]; exact atI_last _ _, rfl⟩
      refine ⟨_, rfl, fo, cF, dt, _, _, rfl, fi, T.kF.cl, T.nF_above, rfl, _, rfl, 1, rfl, .inl ⟨lw, _, -1, V.int x, rfl, rfl, .inl (.inl hl), by rw [List.map_append]; exact atI_last _ _, ?_⟩⟩
      refine ⟨da, _, rfl, gx, _, rfl, ?_⟩
      cases P with
      | root hx =>
        rw [hx]
        refine iteF ⟨_, rfl, lw, _, rfl, .inl ⟨.inl (.inl hl), fun q hq => ?_⟩⟩
        exact k1 hn q _ ps (eH.trans (Ext.upd hq)) (by rw [upd_same, e]) hp
      | @step _ b ps' hx P' =>
        rw [hx]
        obtain ⟨r1, hr1⟩ := P'.head
        have len : us.length + (vs.length + 1) ≤ 20000 := by
          have := D.few
          rw [e] at short
          rw [List.length_append, List.length_cons] at short
          omega
        refine iteT ⟨fun σ' H' => ∃ b vs', vs = b :: vs' ∧ Path p b (b :: vs') ∧ σ' = [some (.ref fo), some (.int n), some (.ref lw)] ∧ H' lw = some (.lst ((us ++ [x, b]).map V.int)) ∧ Ext H H', ?_, ?_⟩
        · rintro σ' H' ⟨b, vs', ev, Pb, eσ, hl', eH'⟩
          exact ⟨vs'.length, by rw [ev]; simp, us ++ [x], b, vs', by rw [e, ev]; simp, rfl, eσ, by rw [hl']; simp, Pb, eH'⟩
        refine ⟨_, rfl, .inl ⟨rfl, _, .inl (.inl hl)⟩, _, rfl, fo, cF, dt, _, _, rfl, fi, T.kF.cl, T.nF_above, rfl, _, rfl, 1, rfl, .inl ⟨lw, _, -1, V.int x, rfl, rfl, .inl (.inl hl), by rw [List.map_append]; exact atI_last _ _, ?_⟩⟩
        refine ⟨da, _, rfl, gx, lw, _, _, rfl, rfl, hl, by rw [List.length_map, List.length_append]; simp; rw [sizeLine_eq]; omega, ?_⟩
        rw [hx]
        refine ⟨b, r1, hr1, by rw [← hr1]; exact P', rfl, ?_, ?_⟩
        · rw [upd_same]
          simp [oV]
        · exact ext_put eH hlw
    · rw [abv_none hn]
      exact iteT ⟨Nat.zero_le _, fun q hq => k2 hn q _ (Ext.upd hq) upd_same⟩
end
def spFRoot (cF : Addr) : Sp := fun vs H Q _ => ∃ (f : Addr) (n : Int) (kn : List Int) (p : Fn), vs = [.ref f, .int n] ∧ FQ cF H f kn p ∧ n ∈ kn ∧ ∀ H' us r, Ext H H' → Path p n (us ++ [r]) → Q (.int r) H'
def spFDep (cF : Addr) : Sp := fun vs H Q _ => ∃ (f : Addr) (n : Int) (kn : List Int) (p : Fn), vs = [.ref f, .int n] ∧ FQ cF H f kn p ∧ n ∈ kn ∧ ∀ H' ps, Ext H H' → Path p n ps → Q (.int ((ps.length : Nat) - 1 : Int)) H'
def spFPar (cF : Addr) : Sp := fun vs H Q _ => ∃ (f : Addr) (n : Int) (kn : List Int) (p : Fn), vs = [.ref f, .int n] ∧ FQ cF H f kn p ∧ n ∈ kn ∧ Q (oV (p n)) H
def RingRes (kn : List Int) (p : Fn) (L : LD) (R : List Int) : Prop := (R = [] ∧ ∀ a, L.ans.head? = some a → L.num ∉ kn ∨ a ∉ kn ∨ ∀ ps, Path p a ps → ∀ us, ps ≠ us ++ [L.num]) ∨
  (∃ a us, L.ans.head? = some a ∧ R = us ++ [L.num] ∧ Path p a R ∧ a ∈ kn ∧ L.num ∈ kn)
def spFCr (K : PySem.W.Frag) (cL cF : Addr) : Sp := fun vs H Q _ => ∃ (f lp : Addr) (L : LD) (kn : List Int) (p : Fn), vs = [.ref f, .ref lp] ∧ FQ cF H f kn p ∧ LetAt K cL H lp L ∧
  ∀ q H' R, Ext H H' → H' q = some (.tup (R.map V.int)) → RingRes kn p L R → Q (.ref q) H'
section
variable {P : Program} {w : World} {K : PySem.W.Frag} {mg : Str → Option Value} {base : Heap} {cL cG cT cF : Addr}
theorem tru_tup {K : PySem.W.Frag} {H : Hp} {q : Addr} {xs : List V} (h : H q = some (.tup xs)) : TruV K (.ref q) H (!xs.isEmpty) := .inr (.inl ⟨xs, .inl (.inl h), rfl⟩)
theorem ok_froot {f : Addr} {fd : FuncData} (F : Fun K "root" "Forest.root" sFRoot f fd) (T : Mo K mg cL cG cT cF) (M : Md P w K mg base cF 1 "path" pFPath (spFPath cF)) : FnOk P w K mg base CX0 2 f fd pFRoot (spFRoot cF) := by
  refine F.ok scFRoot (fun vs H Q E h => ?_) (fun cdv A outer s H vs Q E hr h => ?_)
  · obtain ⟨_, _, _, _, rfl, _⟩ := h; rfl
  · obtain ⟨fo, n, kn, p, rfl, D, hn, k⟩ := h
    obtain ⟨dt, dl, da, db, dr, hf, hda⟩ := D.ob
    refine ⟨_, pss_cons (ps_set (i := 2) scFRoot.nd rfl (Or.inl rfl) (pe_m (pv 0) T.kF.cl M hr (pa_cons (pv 1) pa_nil)))
      (pss_one (ps_ret (pe_ifExp (pt_truth (pv 2) (fun _ => rfl)) (pe_ix ix_seq (pv 2) (pe_un un_neg pe_int) (fun _ _ => rfl)) pe_non))), ?_⟩
    refine ⟨_, rfl, fo, dt, _, rfl, hf, rfl, _, rfl, fo, n, kn, p, rfl, D, fun _ q H1 ps e1 hq hp => ?_, fun h => absurd hn h⟩
    obtain ⟨us, r, e, _, _⟩ := hp.last
    refine ⟨_, rfl, _, tru_tup hq, ?_⟩
    rw [e] at hq ⊢
    have ne : (!((us ++ [r]).map V.int).isEmpty) = true := by simp
    rw [ne]
    exact iteT ⟨_, rfl, 1, rfl, .inr (.inl ⟨q, _, -1, V.int r, rfl, rfl, .inl (.inl hq), by rw [List.map_append]; exact atI_last _ _, k H1 us r e1 (by rw [← e]; exact hp)⟩)⟩
theorem ok_fdep {f : Addr} {fd : FuncData} (F : Fun K "depth" "Forest.depth" sFDep f fd) (T : Mo K mg cL cG cT cF) (M : Md P w K mg base cF 1 "path" pFPath (spFPath cF)) : FnOk P w K mg base CX0 2 f fd pFDep (spFDep cF) := by
  refine F.ok scFDep (fun vs H Q E h => ?_) (fun cdv A outer s H vs Q E hr h => ?_)
  · obtain ⟨_, _, _, _, rfl, _⟩ := h; rfl
  · obtain ⟨fo, n, kn, p, rfl, D, hn, k⟩ := h
    obtain ⟨dt, dl, da, db, dr, hf, hda⟩ := D.ob
    refine ⟨_, pss_cons (ps_set (i := 2) scFDep.nd rfl (Or.inl rfl) (pe_m (pv 0) T.kF.cl M hr (pa_cons (pv 1) pa_nil)))
      (pss_one (ps_ret (pe_ifExp (pt_truth (pv 2) (fun _ => rfl)) (pe_op op_sub (pe_callB call_len_seq (by rfl) T.b_len boot_len (pa_cons (pv 2) pa_nil)) pe_int) pe_non))), ?_⟩
    refine ⟨_, rfl, fo, dt, _, rfl, hf, rfl, _, rfl, fo, n, kn, p, rfl, D, fun _ q H1 ps e1 hq hp => ?_, fun h => absurd hn h⟩
    obtain ⟨us, r, e, _, _⟩ := hp.last
    refine ⟨_, rfl, _, tru_tup hq, ?_⟩
    have ne : (!(ps.map V.int).isEmpty) = true := by rw [e]; simp
    rw [ne]
    refine iteT ⟨_, rfl, q, _, rfl, .inr (.inl (.inl hq)), _, _, rfl, rfl, ?_⟩
    rw [List.length_map]
    exact k H1 ps e1 hp
theorem ok_fpar {f : Addr} {fd : FuncData} (F : Fun K "parent" "Forest.parent" sFPar f fd) (T : Mo K mg cL cG cT cF) : FnOk P w K mg base CX0 1 f fd pFPar (spFPar cF) := by
  refine F.ok scFPar (fun vs H Q E h => ?_) (fun cdv A outer s H vs Q E hr h => ?_)
  · obtain ⟨_, _, _, _, rfl, _⟩ := h; rfl
  · obtain ⟨fo, n, kn, p, rfl, D, hn, k⟩ := h
    have hu := hu_of hr
    obtain ⟨dt, dl, da, db, dr, hf, hda⟩ := D.ob
    refine ⟨_, pss_one (ps_ret (pe_dget2 hu (pe_fld (pv 0) rfl) (pv 1) pe_non ⟨rfl, rfl, rfl, rfl⟩)), ?_⟩
    refine ⟨_, rfl, fo, cF, dt, _, _, rfl, hf, T.kF.cl, T.nF_above, rfl, da, rfl, .inl ⟨_, .inl hda⟩, _, rfl, some (oV (p n)), by have z := DGet.k (k := Sum.inl n) hda; rw [abv_some D.nd hn] at z; exact z, k⟩
theorem ok_fcr {f : Addr} {fd : FuncData} (F : Fun K "closed_ring" "Forest.closed_ring" sFCr f fd) (T : Mo K mg cL cG cT cF) (M : Md P w K mg base cF 1 "path" pFPath (spFPath cF)) : FnOk P w K mg base CX0 2 f fd pFCr (spFCr K cL cF) := by
  refine F.ok scFCr (fun vs H Q E h => ?_) (fun cdv A outer s H vs Q E hr h => ?_)
  · obtain ⟨_, _, _, _, _, rfl, _⟩ := h; rfl
  · obtain ⟨fo, lp, L, kn, p, rfl, D, hL, k⟩ := h
    have hu := hu_of hr
    obtain ⟨dt, dl, da, db, dr, hf, hda⟩ := D.ob
    have hL' := hL
    obtain ⟨dx, ta, ts, tw, sd, tx, h1, h2, _⟩ := hL'
    refine ⟨_, pss_cons (ps_if (pw_or (pt_not (pt_truth (pe_fld (pv 1) rfl) (fun _ => rfl))) (pw_or1 (pt_cmp (pc_dnotin hu (pe_fld (pv 1) rfl) (pe_fld (pv 0) rfl))))).pt (pss_one (ps_ret (pe_tup pa_nil))) pss_nil)
      (pss_cons (ps_set (i := 2) scFCr.nd rfl (Or.inl rfl) (pe_m (pv 0) T.kF.cl M hr (pa_cons (pe_ix ix_seq (pe_fld (pv 1) rfl) pe_int (fun _ _ => rfl)) pa_nil)))
      (pss_cons (ps_if (pw_and (pt_truth (pv 2) (fun _ => rfl)) (pw_and1 (pt_cmpR op_eq (pe_ix ix_seq (pv 2) (pe_un un_neg pe_int) (fun _ _ => rfl)) (pe_fld (pv 1) rfl) (nomark _)))).pt (pss_one (ps_ret (pv 2))) pss_nil)
      (pss_one (ps_ret (pe_tup pa_nil))))), ?_⟩
    have no : ∀ Hk, Ext H Hk → (∀ a, L.ans.head? = some a → L.num ∉ kn ∨ a ∉ kn ∨ ∀ ps, Path p a ps → ∀ us, ps ≠ us ++ [L.num]) → (0 : Nat) ≤ sizeLine ∧ ∀ q, Hk q = none → Q (.ref q) (upd Hk q (.tup [])) := fun Hk e h =>
      ⟨Nat.zero_le _, fun q hq => k q _ [] (e.trans (Ext.upd hq)) upd_same (.inl ⟨rfl, h⟩)⟩
    refine ⟨_, rfl, lp, cL, dx, _, _, rfl, h1, T.kL.cl, T.nL_answers, rfl, _, .inr (.inl ⟨_, h2, rfl⟩), ?_⟩
    cases ha : L.ans with
    | nil =>
      refine iteT (no H Ext.rfl' fun a h => ?_)
      rw [ha] at h; cases h
    | cons a as =>
      rw [ha] at h2
      refine iteF ⟨_, rfl, lp, cL, dx, _, _, rfl, h1, T.kL.cl, T.nL_number, rfl, _, rfl, fo, cF, dt, _, _, rfl, hf, T.kF.cl, T.nF_above, rfl, da, _, rfl, DGet.k (k := Sum.inl L.num) hda, _, rfl, ?_⟩
      have hd : ∀ b, L.ans.head? = some b → b = a := fun b hb => by rw [ha] at hb; exact (Option.some.inj hb).symm
      by_cases hn : L.num ∈ kn
      · rw [abv_some D.nd hn]
        refine iteF ⟨_, rfl, fo, dt, _, rfl, hf, rfl, _, rfl, lp, cL, dx, _, _, rfl, h1, T.kL.cl, T.nL_answers, rfl, .inr (.inl ⟨ta, _, 0, V.int a, rfl, rfl, h2, atI_zero _ _, ?_⟩)⟩
        refine ⟨fo, a, kn, p, rfl, D, fun hak q H1 ps e1 hq hp => ?_, fun hak q H1 e1 hq => ?_⟩
        · obtain ⟨us, r, e, _, _⟩ := hp.last
          refine ⟨_, rfl, _, tru_tup hq, ?_⟩
          have ne : (!(ps.map V.int).isEmpty) = true := by rw [e]; simp
          rw [ne]
          have hq' := hq
          rw [e] at hq'
          refine iteT ⟨_, rfl, 1, rfl, .inr (.inl ⟨q, _, -1, V.int r, rfl, rfl, .inl (.inl hq'), by rw [List.map_append]; exact atI_last _ _, ?_⟩)⟩
          refine ⟨_, rfl, lp, cL, dx, _, _, rfl, e1 _ _ h1, T.kL.cl, T.nL_number, rfl, rfl, _, rfl, ?_⟩
          refine ite2 (fun er => ?_) (fun er => ?_)
          · have er : r = L.num := V.int.inj (of_decide_eq_true er)
            exact ⟨_, rfl, k q H1 ps e1 hq (.inr ⟨a, us, by rw [ha]; rfl, by rw [e, er], hp, hak, hn⟩)⟩
          · refine no H1 e1 fun b hb => .inr (.inr fun ps' P' us' e' => er (decide_eq_true ?_))
            rw [hd b hb] at P'
            have eq := P'.uniq hp
            rw [e', e] at eq
            have := (List.append_inj' eq rfl).2
            rw [List.cons.inj this |>.1]
        · refine ⟨_, rfl, _, tru_tup hq, ?_⟩
          exact iteF (no H1 e1 fun b hb => .inr (.inl (by rw [hd b hb]; exact hak)))
      · rw [abv_none hn]
        exact iteT (no H Ext.rfl' fun b _ => .inl hn)
end
end K9
set_option Elab.async false
set_option linter.all false
set_option maxRecDepth 100000
set_option maxHeartbeats 4000000
/-! WF2: the forest is changed. -/
namespace K9
open PySem PySem.Spec PyProof.Rows L2 SX
/-! ### slices and sums of tuples, the same object or a new one -/
def rSlU : V → Option Int → Option Int → Hp → VK → Prop := fun x lo hi H Q => ∃ a xs, x = .ref a ∧ H a = some (.tup xs) ∧ ∀ p H', Ext H H' → H' p = some (.tup (cutV xs lo hi)) → Q (.ref p) H'
theorem sl_tupU {X : Cx} : SlR X rSlU := by
  intro pins s σ H x v vl vu lo hi sl Q I rx hs pl pu h
  obtain ⟨a, xs, rfl, hx, q⟩ := h
  refine sl_tupA pins s σ H _ v vl vu lo hi sl Q I rx hs pl pu ⟨a, xs, rfl, .inl (.inl hx), fun hw => ?_, fun _ p hp => q p _ (Ext.upd hp) upd_same⟩
  refine q a H Ext.rfl' ?_
  rw [hx]
  unfold cutV
  rw [hw.1, hw.2]
  simp
def rCatU : R2 := fun x y H Q => ∃ a b xs ys, x = .ref a ∧ y = .ref b ∧ H a = some (.tup xs) ∧ H b = some (.tup ys) ∧ xs.length + ys.length ≤ sizeLine ∧ ∀ p H', Ext H H' → H' p = some (.tup (xs ++ ys)) → Q (.ref p) H'
theorem op_catU {X : Cx} : OpR X (binaryOp .Add) rCatU := by
  intro pins s σ H x y v u Q I rx ry h
  obtain ⟨a, b, xs, ys, rfl, rfl, ha, hb, hz, q⟩ := h
  refine op_catA pins s σ H _ _ v u Q I rx ry ⟨a, b, xs, ys, rfl, rfl, .inl (.inl ha), .inl (.inl hb), hz, fun e => ?_, fun _ e => ?_, fun _ _ p hp => q p _ (Ext.upd hp) upd_same⟩
  · exact q b H Ext.rfl' (by rw [hb, e]; rfl)
  · exact q a H Ext.rfl' (by rw [ha, e, List.append_nil])
theorem sIx_at {n d j : Nat} (h : j ≤ n) : HT.sIx n d (some (j : Int)) = j := by
  rw [HT.sIx_nat]
  omega
theorem cutV_from (xs : List V) {j : Nat} (h : j ≤ xs.length) : cutV xs (some (j : Int)) none = xs.drop j := by
  unfold cutV
  rw [sIx_at h, HT.sIx_none]
  exact List.take_of_length_le (by rw [List.length_drop]; exact Nat.le_refl _)
theorem cutV_to (xs : List V) {j : Nat} (h : j ≤ xs.length) : cutV xs none (some (j : Int)) = xs.take j := by
  unfold cutV
  rw [sIx_at h, HT.sIx_none]
  rfl
theorem only_one {l : List Nat} {j : Nat} (nd : l.Nodup) (h : ∀ x, x ∈ l ↔ x = j) : l = [j] := by
  have p : l.Perm [j] := (List.perm_ext_iff_of_nodup nd (by simp)).mpr fun x => by rw [h x, List.mem_singleton]
  exact List.perm_singleton.mp p
/-- the rows of the table below -/
def blw (kn : List Int) (bl : Int → Addr) : List (Int × Addr) := kn.map fun n => (n, bl n)
theorem blw_fst (kn : List Int) (bl : Int → Addr) : (blw kn bl).map (·.1) = kn := by
  unfold blw
  rw [List.map_map]
  exact List.map_id' kn
theorem mem_blw {kn : List Int} {bl : Int → Addr} {n : Int} {a : Addr} : (n, a) ∈ blw kn bl ↔ n ∈ kn ∧ a = bl n := by
  unfold blw
  rw [List.mem_map]
  constructor
  · rintro ⟨m, hm, e⟩
    obtain ⟨rfl, rfl⟩ := Prod.mk.inj e
    exact ⟨hm, rfl⟩
  · rintro ⟨h, rfl⟩
    exact ⟨n, h, rfl⟩
theorem blw_some {kn : List Int} {bl : Int → Addr} (nd : kn.Nodup) {n : Int} (h : n ∈ kn) : valV (rowsD V.ref (blw kn bl)) (Sum.inl n) = some (.ref (bl n)) := rowsD_some (by rw [blw_fst]; exact nd) (mem_blw.mpr ⟨h, rfl⟩)
theorem abv_put {kn : List Int} {p : Fn} (nd : kn.Nodup) {n : Int} (h : n ∈ kn) (o : Option Int) : putK (abv kn p) (Sum.inl n) (oV o) = abv kn (putF p n o) := by
  unfold abv
  rw [rowsD_put (b := o) (by rw [pairs_fst]; exact nd) (mem_pairs.mpr ⟨h, rfl⟩)]
  congr 1
  unfold pairs
  rw [List.map_map]
  refine List.map_congr_left fun m _ => ?_
  show (if m = n then (n, o) else (m, p m)) = (m, putF p n o m)
  unfold putF
  by_cases e : m = n
  · rw [if_pos e, if_pos e, e]
  · rw [if_neg e, if_neg e]
/-- a forest between two steps; H0: the older world -/
structure FSt (cF : Addr) (H0 H : Hp) (f dl da db dr : Addr) (kn : List Int) (p : Fn) (bl : Int → Addr) (rv : List (Int × Addr)) : Prop where
  ob : ∃ dt, H f = some (.ins cF dt [("letters", .ref dl), ("above", .ref da), ("below", .ref db), ("rings", .ref dr)])
  ab : H da = some (.dK (abv kn p))
  be : H db = some (.dK (rowsD V.ref (blw kn bl)))
  ri : H dr = some (.dK (rowsD V.ref rv))
  le : ∃ rows, H dl = some (.dK rows)
  nd : kn.Nodup
  inn : ∀ n a, p n = some a → n ∈ kn ∧ a ∈ kn
  kids : ∀ n ∈ kn, ∃ cs : List Int, H (bl n) = some (.lst (cs.map V.int)) ∧ cs.Nodup ∧ ∀ m, m ∈ cs ↔ p m = some n
  bin : ∀ n ∈ kn, ∀ m ∈ kn, n ≠ m → bl n ≠ bl m
  b0 : ∀ n ∈ kn, H0 (bl n) = none
  z : H0 f = none ∧ H0 dl = none ∧ H0 da = none ∧ H0 db = none ∧ H0 dr = none
  sep : dl ≠ da ∧ dl ≠ db ∧ dl ≠ dr ∧ da ≠ db ∧ da ≠ dr ∧ db ≠ dr
  old : Ext H0 H
  few : kn.length ≤ 20000 ∧ rv.length ≤ 20000
/-- tuples stand -/
def TupK (H H' : Hp) : Prop := ∀ b xs, H b = some (.tup xs) → H' b = some (.tup xs)
theorem TupK.of {H H' : Hp} (e : Ext H H') : TupK H H' := fun b xs h => e b _ h
theorem TupK.trans {H H1 H2 : Hp} (a : TupK H H1) (b : TupK H1 H2) : TupK H H2 := fun c xs h => b c xs (a c xs h)
theorem TupK.upd {H : Hp} {a : Addr} {o u : HO} (h : H a = some u) (nt : ∀ xs, u ≠ .tup xs) : TupK H (upd H a o) := fun b xs hb => by
  rw [upd_ne (ne_of hb h fun e => nt xs e.symm)]; exact hb
def spFCut (cF : Addr) : Sp := fun vs H Q _ => ∃ (f q dl da db dr : Addr) (kn : List Int) (p : Fn) (bl : Int → Addr) (rv : List (Int × Addr)) (H0 : Hp) (R : List Int) (g b : Int), vs = [.ref f, .ref q] ∧ FSt cF H0 H f dl da db dr kn p bl rv ∧
  H q = some (.tup (R.map V.int)) ∧ R.Nodup ∧ g ∈ R ∧ (∀ x ∈ R, x ≤ g) ∧ p g = some b ∧ (∀ a, (g, a) ∉ rv) ∧ R.length ≤ 20000 ∧ rv.length < 20000 ∧
  ∀ v H' a us vs, FSt cF H0 H' f dl da db dr kn (putF p g none) bl (rv ++ [(g, a)]) → H' dl = H dl → TupK H H' → H' a = some (.tup (((g :: vs) ++ us).map V.int)) → R = us ++ g :: vs → Q v H'
theorem split_at {R : List Int} {g : Int} (nd : R.Nodup) (h : g ∈ R) : ∃ us vs, R = us ++ g :: vs ∧ g ∉ us ∧ ∀ i, R[i]? = some g ↔ i = us.length := by
  obtain ⟨us, vs, e⟩ := List.append_of_mem h
  subst e
  have nd' := List.nodup_append.mp nd
  refine ⟨us, vs, rfl, fun hu => nd'.2.2 g hu g List.mem_cons_self rfl, fun i => ⟨fun hi => ?_, fun hi => ?_⟩⟩
  · have hl : us.length < (us ++ g :: vs).length := by simp
    obtain ⟨h1, h2⟩ := List.getElem?_eq_some_iff.mp hi
    have h3 : (us ++ g :: vs)[us.length] = g := by simp
    exact (List.getElem_inj nd).mp (h2.trans h3.symm)
  · rw [hi]; simp
theorem eraseIdx_mem {l : List Int} (nd : l.Nodup) {j : Nat} {g : Int} (hj : l[j]? = some g) : (l.eraseIdx j).Nodup ∧ ∀ x, x ∈ l.eraseIdx j ↔ x ∈ l ∧ x ≠ g := by
  obtain ⟨us, vs, e, _, hi⟩ := split_at nd (List.mem_of_getElem? hj)
  have ej := (hi j).mp hj
  subst e ej
  have er : (us ++ g :: vs).eraseIdx us.length = us ++ vs := by
    rw [List.eraseIdx_append_of_length_le (Nat.le_refl _)]
    simp
  rw [er]
  have nd' := List.nodup_append.mp nd
  obtain ⟨n1, n2, n3⟩ := nd'
  obtain ⟨n4, n5⟩ := List.nodup_cons.mp n2
  refine ⟨List.nodup_append.mpr ⟨n1, n5, fun a ha b hb => n3 a ha b (List.mem_cons_of_mem _ hb)⟩, fun x => ?_⟩
  rw [List.mem_append, List.mem_append, List.mem_cons]
  constructor
  · rintro (h | h)
    · exact ⟨.inl h, fun e => n3 x h g List.mem_cons_self e⟩
    · exact ⟨.inr (.inr h), fun e => n4 (e ▸ h)⟩
  · rintro ⟨h | h | h, ne⟩
    · exact .inl h
    · exact absurd h ne
    · exact .inr h
theorem first_place {l : List Int} (nd : l.Nodup) {g : Int} (h : g ∈ l) : ∃ j : Nat, l[j]? = some g ∧ ∀ m : Nat, m < j → l[m]? ≠ some g := by
  obtain ⟨us, vs, e, _, hi⟩ := split_at nd h
  refine ⟨us.length, (hi _).mpr rfl, fun m hm e' => ?_⟩
  have := (hi m).mp e'
  omega
section
variable {P : Program} {w : World} {K : PySem.W.Frag} {mg : Str → Option Value} {base : Heap} {cL cG cT cF : Addr}
theorem ok_fcut {f : Addr} {fd : FuncData} (F : Fun K "cut" "Forest.cut" sFCut f fd) (T : Mo K mg cL cG cT cF) : FnOk P w K mg base CX0 1 f fd pFCut (spFCut cF) := by
  refine F.ok scFCut (fun vs H Q E h => ?_) (fun cdv A outer s H vs Q E hr h => ?_)
  · obtain ⟨_, _, _, _, _, _, _, _, _, _, _, _, _, _, rfl, _⟩ := h; rfl
  · obtain ⟨fo, q, dl, da, db, dr, kn, p, bl, rv, H0, R, g, b, rfl, S, hq, hR, hg, hmax, hb, hrv, hRl, hrl, k⟩ := h
    have hu := hu_of hr
    refine ⟨_, pss_cons (ps_set (i := 2) scFCut.nd rfl (Or.inr rfl) (pe_callB (cr_maxT rfl) (by rfl) T.b_max boot_max (pa_cons (pv 1) pa_nil)))
      (pss_cons (ps_set (i := 3) scFCut.nd rfl (Or.inl rfl) (pe_ix ix_seq (pe_lc rfl scFCut.nd (pi_enumT (by rfl) T.b_enumerate (pa_cons (pv 1) pa_nil)) (own := [("place", 4), ("number", 5)]) (blkOk_by (by show blkC nFCut (defScope sFCut) _ _ = true; decide +kernel))
          (fun _ _ _ _ _ => pg_tupK K 2 rfl (pgs_cons (pg_name (i := 4) scFCut.nd rfl (Or.inl rfl)) (pgs_cons (pg_name (i := 5) scFCut.nd rfl (Or.inl rfl)) pgs_nil))) (fun _ _ _ _ _ => pts_one (pt_cmpR op_eq (pv 5) (pv 2) (nomark _))) (fun _ _ _ _ _ => pv 4)) pe_int (fun _ _ => rfl)))
      (pss_cons (ps_dput hu (pe_fld (pv 0) rfl) (pv 2) (pe_op op_catU (pe_slice sl_tupU (pv 1) (po_some (pv 3)) po_none) (pe_slice sl_tupU (pv 1) po_none (po_some (pv 3)))) rfl)
      (pss_cons (ps_expr (pe_bm PySem.F.plainAttrs_list PySem.F.slot_list_remove PySem.F.type_list_remove mt_remove (pe_dget hu (pe_fld (pv 0) rfl) (pe_dget hu (pe_fld (pv 0) rfl) (pv 2) (fun _ _ => rfl)) (fun _ _ => rfl)) (pa_cons (pv 2) pa_nil)))
      (pss_one (ps_dput hu (pe_fld (pv 0) rfl) (pv 2) pe_non rfl))))), ?_⟩
    obtain ⟨us, vs, eR, hgu, hix⟩ := split_at hR hg
    have hlen : R.length = us.length + (vs.length + 1) := by rw [eR, List.length_append, List.length_cons]
    obtain ⟨dt, hf⟩ := S.ob
    obtain ⟨z1, z2, z3, z4, z5⟩ := S.z
    obtain ⟨s1, s2, s3, s4, s5, s6⟩ := S.sep
    obtain ⟨rows, hdl⟩ := S.le
    have hgk := (S.inn _ _ hb).1
    have hbk := (S.inn _ _ hb).2
    refine ⟨_, rfl, q, R, rfl, .inl (.inl hq), by rw [hlen]; omega, fun m hm hmx => ?_⟩
    have em : m = g := by
      have h1 := hmx g hg
      have h2 := hmax m hm
      omega
    subst em
    -- the place
    refine ⟨_, rfl, q, _, rfl, .inl (.inl hq), fun D hD => lc_walk walk_enumT (fun i => decide (R[i]? = some m)) (fun i y _ => y = V.int (i : Nat)) hD (by rw [List.length_map, sizeLine_eq]; omega) (fun H e => .inl (.inl (e _ _ hq))) (fun _ _ _ _ _ _ e => e) (fun i x Ha Hb hi e y A N hA hN => ?_) fun H1 ys e1 hy o => ?_⟩
    · obtain ⟨Tp, x1, x2, rfl, hT, rfl, h1, h2⟩ := y
      cases h1
      have h2 : (R.map V.int)[i]? = some x2 := h2
      obtain ⟨r, hr', rfl⟩ : ∃ r, R[i]? = some r ∧ x2 = V.int r := by
        rw [List.getElem?_map] at h2
        cases e : R[i]? with
        | none => rw [e] at h2; cases h2
        | some z => rw [e] at h2; exact ⟨z, rfl, (Option.some.inj h2).symm⟩
      refine ⟨Tp, _, rfl, .inl (.inl upd_same), rfl, _, _, rfl, _, _, rfl, rfl, rfl, _, rfl, _, rfl, rfl, _, rfl, ?_⟩
      refine ite2 (fun er => ?_) fun er => ?_
      · have er : r = m := V.int.inj (of_decide_eq_true er)
        exact ⟨_, rfl, hA (decide_eq_true (by rw [hr', er])) _ _ (Ext.upd hT) rfl⟩
      · exact hN (decide_eq_false fun z => er (decide_eq_true (by rw [hr'] at z; rw [Option.some.inj z]))) _ (Ext.upd hT)
    have em := o.map fun i y q => q
    have one : (List.range (R.map V.int).length).filter (fun i => decide (R[i]? = some m)) = [us.length] := by
      refine only_one (List.Pairwise.filter _ List.nodup_range) fun x => ?_
      rw [List.mem_filter, decide_eq_true_eq, hix x, List.mem_range, List.length_map]
      constructor
      · rintro ⟨_, h⟩; exact h
      · intro h; exact ⟨by rw [h, hlen]; omega, h⟩
    rw [one] at em
    subst em
    refine .inl ⟨D, _, 0, V.int (us.length : Nat), rfl, rfl, .inl (.inl hy), rfl, ?_⟩
    have q1 := e1 _ _ hq
    have jl : us.length ≤ (R.map V.int).length := by rw [List.length_map, hlen]; omega
    -- self.rings[greatest] = ..
    refine ⟨_, rfl, _, rfl, _, rfl, q, _, rfl, q1, fun pa Ha ea hpa => ?_⟩
    refine ⟨_, rfl, _, rfl, _, rfl, q, _, rfl, ea _ _ q1, fun pb Hb eb hpb => ?_⟩
    rw [cutV_from _ jl] at hpa
    rw [cutV_to _ jl] at hpb
    have dr1 : (R.map V.int).drop us.length = (m :: vs).map V.int := by rw [← List.map_drop, eR]; simp
    have tk1 : (R.map V.int).take us.length = us.map V.int := by rw [← List.map_take, eR]; simp
    rw [dr1] at hpa
    rw [tk1] at hpb
    refine ⟨pa, pb, _, _, rfl, rfl, eb _ _ hpa, hpb, by rw [List.length_map, List.length_map, List.length_cons, sizeLine_eq]; omega, fun pc Hc ec hpc => ?_⟩
    rw [← List.map_append] at hpc
    have eHc : Ext H Hc := ((e1.trans ea).trans eb).trans ec
    have fc := eHc _ _ hf
    refine ⟨_, rfl, fo, cF, dt, _, _, rfl, fc, T.kF.cl, T.nF_rings, rfl, _, rfl, dr, _, rfl, DPut.k (k := Sum.inl m) (eHc _ _ S.ri) (by rw [rowsD_len, sizeLine_eq]; omega), ?_⟩
    rw [rowsD_new (f := V.ref) hrv]
    generalize hH2 : upd Hc dr _ = H2
    have k2 : ∀ x, x ≠ dr → H2 x = Hc x := fun x hx => by rw [← hH2]; exact upd_ne hx
    have r2 : H2 dr = some (.dK (rowsD V.ref (rv ++ [(m, pc)]))) := by rw [← hH2]; exact upd_same
    have st2 : ∀ x ob, H x = some ob → x ≠ dr → H2 x = some ob := fun x ob hx n => (k2 x n).trans (eHc x ob hx)
    have f2 := st2 fo _ hf (ne_of hf S.ri (by intro z; cases z))
    have a2 := st2 da _ S.ab s5
    have b2 := st2 db _ S.be s6
    have pc2 : H2 pc = some (.tup (((m :: vs) ++ us).map V.int)) := (k2 pc (ne_of hpc (eHc _ _ S.ri) (by intro z; cases z))).trans hpc
    -- self.below[self.above[greatest]].remove(greatest)
    obtain ⟨cs, hcs, ncs, mcs⟩ := S.kids b hbk
    have l2 := st2 _ _ hcs (ne_of hcs S.ri (by intro z; cases z))
    have ga := DGet.k (k := Sum.inl m) a2
    rw [abv_some S.nd hgk, hb] at ga
    have gb := DGet.k (k := Sum.inl b) b2
    rw [blw_some S.nd hbk] at gb
    obtain ⟨j, hj1, hj2⟩ := first_place ncs ((mcs m).mpr hb)
    refine ⟨_, rfl, fo, cF, dt, _, _, rfl, f2, T.kF.cl, T.nF_below, rfl, _, rfl, fo, cF, dt, _, _, rfl, f2, T.kF.cl, T.nF_above, rfl, _, rfl, da, _, rfl, ga, db, _, rfl, gb, .inl ⟨rfl, _, .inl (.inl l2)⟩, _, rfl, bl b, cs, m, j, rfl, rfl, l2, hj1, hj2, ?_⟩
    obtain ⟨nd3, m3⟩ := eraseIdx_mem ncs hj1
    generalize hH3 : upd H2 (bl b) _ = H3
    have k3 : ∀ x, x ≠ bl b → H3 x = H2 x := fun x hx => by rw [← hH3]; exact upd_ne hx
    have l3 : H3 (bl b) = some (.lst ((cs.eraseIdx j).map V.int)) := by rw [← hH3]; exact upd_same
    have f3 := (k3 fo (ne_of f2 l2 (by intro z; cases z))).trans f2
    have a3 := (k3 da (ne_of a2 l2 (by intro z; cases z))).trans a2
    have b3 := (k3 db (ne_of b2 l2 (by intro z; cases z))).trans b2
    have r3 := (k3 dr (ne_of r2 l2 (by intro z; cases z))).trans r2
    have pc3 := (k3 pc (ne_of pc2 l2 (by intro z; cases z))).trans pc2
    -- self.above[greatest] = None
    refine ⟨_, rfl, fo, cF, dt, _, _, rfl, f3, T.kF.cl, T.nF_above, rfl, _, rfl, da, _, rfl, DPut.k (k := Sum.inl m) a3 (by rw [abv_len, sizeLine_eq]; have := S.few.1; omega), ?_⟩
    have ep : putK (abv kn p) (Sum.inl m) V.non = abv kn (putF p m none) := abv_put S.nd hgk none
    rw [ep]
    generalize hH4 : upd H3 da _ = H4
    have k4 : ∀ x, x ≠ da → H4 x = H3 x := fun x hx => by rw [← hH4]; exact upd_ne hx
    have a4 : H4 da = some (.dK (abv kn (putF p m none))) := by rw [← hH4]; exact upd_same
    have f4 := (k4 fo (ne_of f3 a3 (by intro z; cases z))).trans f3
    have pc4 := (k4 pc (ne_of pc3 a3 (by intro z; cases z))).trans pc3
    have old2 : Ext H0 H2 := by rw [← hH2]; exact ext_put (S.old.trans eHc) z5
    have old3 : Ext H0 H3 := by rw [← hH3]; exact ext_put old2 (S.b0 b hbk)
    have old4 : Ext H0 H4 := by rw [← hH4]; exact ext_put old3 z3
    have d4 : H4 dl = H dl := by
      rw [k4 dl s1, k3 dl (ne_of hdl hcs (by intro z; cases z)), k2 dl s3, eHc _ _ hdl, hdl]
    have T4 : TupK H H4 := by
      have t1 : TupK H Hc := .of eHc
      have t2 : TupK Hc H2 := by rw [← hH2]; exact .upd (eHc _ _ S.ri) fun _ z => by cases z
      have t3 : TupK H2 H3 := by rw [← hH3]; exact .upd l2 fun _ z => by cases z
      have t4 : TupK H3 H4 := by rw [← hH4]; exact .upd a3 fun _ z => by cases z
      exact ((t1.trans t2).trans t3).trans t4
    refine k _ H4 pc us vs ⟨⟨dt, f4⟩, a4, (k4 db s4.symm).trans b3, (k4 dr s5.symm).trans r3, ⟨rows, d4.trans hdl⟩, S.nd, fun n a hn => ?_, fun n hn => ?_, S.bin, S.b0, S.z, S.sep, old4, ⟨S.few.1, by rw [List.length_append]; exact hrl⟩⟩ d4 T4 pc4 eR
    · unfold putF at hn
      by_cases e : n = m
      · rw [if_pos e] at hn; cases hn
      · rw [if_neg e] at hn; exact S.inn _ _ hn
    · by_cases e : n = b
      · subst e
        refine ⟨cs.eraseIdx j, (k4 _ (ne_of l3 a3 (by intro z; cases z))).trans l3, nd3, fun x => ?_⟩
        rw [m3 x, mcs x]
        unfold putF
        by_cases ex : x = m
        · rw [if_pos ex]
          exact ⟨fun h => absurd ex h.2, fun h => by cases h⟩
        · rw [if_neg ex]
          exact ⟨fun h => h.1, fun h => ⟨h, ex⟩⟩
      · obtain ⟨cs', h1, h2, h3⟩ := S.kids n hn
        have nb := S.bin n hn b hbk e
        have h1' := st2 _ _ h1 (ne_of h1 S.ri (by intro z; cases z))
        refine ⟨cs', (k4 _ (ne_of h1 S.ab (by intro z; cases z))).trans ((k3 _ nb).trans h1'), h2, fun x => ?_⟩
        rw [h3 x]
        unfold putF
        by_cases ex : x = m
        · rw [if_pos ex, ex, hb]
          exact ⟨fun h => absurd (Option.some.inj h).symm e, fun h => by cases h⟩
        · rw [if_neg ex]
end
end K9
set_option Elab.async false
set_option linter.all false
set_option maxRecDepth 100000
set_option maxHeartbeats 4000000
/-! WF3: a letter is put into the forest. -/
namespace K9
open PySem PySem.Spec PyProof.Rows L2 SX
/-! ### plain -/
theorem cut_plain {f p : Fn} {n a : Int} (ip : IsPar f p) (hn : f n = none) {ps : List Int} (P : Path p a ps) (h : ∀ us, ps ≠ us ++ [n]) (x : Int) : Cut (putF f n (some a)) x ↔ Cut f x := by
  constructor
  · intro c
    rcases cut_down hn c with c | ⟨_, j⟩
    · exact c
    · obtain ⟨us, e⟩ := path_end ip hn P j
      exact absurd e (h us)
  · exact cut_up hn
theorem rch_in {p : Fn} {kn : List Int} (inn : ∀ n a, p n = some a → n ∈ kn ∧ a ∈ kn) {a b : Int} (r : Rch p a b) : b ∈ kn := by
  induction r with
  | one h => exact (inn _ _ h).2
  | cons _ _ ih => exact ih
theorem max_of : ∀ {R : List Int}, R ≠ [] → ∃ g ∈ R, ∀ x ∈ R, x ≤ g
  | [], h => absurd rfl h
  | [a], _ => ⟨a, List.mem_singleton.mpr rfl, fun x hx => by rw [List.mem_singleton.mp hx]; exact Int.le_refl _⟩
  | a :: b :: R, _ => by
    obtain ⟨g, hg, hm⟩ := max_of (R := b :: R) (by simp)
    by_cases h : a ≤ g
    · refine ⟨g, List.mem_cons_of_mem _ hg, fun x hx => ?_⟩
      rcases List.mem_cons.mp hx with z | z
      · rw [z]; exact h
      · exact hm x z
    · refine ⟨a, List.mem_cons_self, fun x hx => ?_⟩
      rcases List.mem_cons.mp hx with z | z
      · rw [z]; exact Int.le_refl _
      · have := hm x z
        omega
theorem no_ring {kn : List Int} {p : Fn} {n a : Int} (inn : ∀ n a, p n = some a → n ∈ kn ∧ a ∈ kn) (ne : a ≠ n) (h : n ∉ kn ∨ a ∉ kn ∨ ∀ ps, Path p a ps → ∀ us, ps ≠ us ++ [n]) : ∀ ps, Path p a ps → ∀ us, ps ≠ us ++ [n] := by
  intro ps P us e
  rcases h with h | h | h
  · rcases P.reach (b := n) (by rw [e]; simp) with z | z
    · exact ne z
    · exact h (rch_in inn z)
  · cases P with
    | root _ =>
      have := (List.append_inj' (s₁ := []) (t₁ := [a]) (s₂ := us) (t₂ := [n]) e rfl).2
      exact ne (List.cons.inj this).1
    | step hp _ => exact h (inn _ _ hp).1
  · exact h ps P us e
/-- the rings -/
structure RSt (H : Hp) (rv : List (Int × Addr)) (fo : Fn) : Prop where
  nd : (rv.map (·.1)).Nodup
  ring : ∀ q ∈ rv, ∃ R : List Int, H q.2 = some (.tup (R.map V.int)) ∧ RingOK fo q.1 R
  keys : ∀ g, (∃ a, (g, a) ∈ rv) ↔ Cut fo g
/-- a forest of the letters S at f -/
structure ForAt (K : PySem.W.Frag) (cL cF : Addr) (H0 H : Hp) (f : Addr) (S : Lts) : Prop where
  ex : ∃ dl da db dr kn p bl rv, FSt cF H0 H f dl da db dr kn p bl rv ∧ H dl = some (.dK (rowsD V.ref (lk S))) ∧ (∀ n, n ∈ kn ↔ n ∈ known (lets S)) ∧ IsPar (fstOf (lets S)) p ∧ RSt H rv (fstOf (lets S)) ∧ kn.length ≤ 9 * S.length ∧ rv.length ≤ S.length
  old : Ext H0 H
  ls : ∀ q ∈ S, LetAt K cL H0 q.1 q.2
  nd : (come (lets S)).Nodup
  few : S.length ≤ 1300
theorem FSt.ext {cF : Addr} {H0 H H' : Hp} {f dl da db dr : Addr} {kn : List Int} {p : Fn} {bl : Int → Addr} {rv : List (Int × Addr)} (S : FSt cF H0 H f dl da db dr kn p bl rv) (e : Ext H H') : FSt cF H0 H' f dl da db dr kn p bl rv := by
  obtain ⟨⟨dt, b1⟩, b2, b3, b4, ⟨r, b5⟩, nd, inn, kids, bin, b0, z, sep, old, few⟩ := S
  refine ⟨⟨dt, e _ _ b1⟩, e _ _ b2, e _ _ b3, e _ _ b4, ⟨r, e _ _ b5⟩, nd, inn, fun n hn => ?_, bin, b0, z, sep, old.trans e, few⟩
  obtain ⟨cs, h1, h2⟩ := kids n hn
  exact ⟨cs, e _ _ h1, h2⟩
theorem RSt.keep {H H' : Hp} {rv : List (Int × Addr)} {fo : Fn} (R : RSt H rv fo) (k : TupK H H') : RSt H' rv fo := ⟨R.nd, fun q hq => by
  obtain ⟨r, h1, h2⟩ := R.ring q hq
  exact ⟨r, k _ _ h1, h2⟩, R.keys⟩
theorem ForAt.ext {K : PySem.W.Frag} {cL cF : Addr} {H0 H H' : Hp} {f : Addr} {S : Lts} (h : ForAt K cL cF H0 H f S) (e : Ext H H') : ForAt K cL cF H0 H' f S := by
  obtain ⟨⟨dl, da, db, dr, kn, p, bl, rv, F, h1, h2, h3, h4, h5⟩, old, ls, nd, few⟩ := h
  exact ⟨⟨dl, da, db, dr, kn, p, bl, rv, F.ext e, e _ _ h1, h2, h3, h4.keep (.of e), h5⟩, old.trans e, ls, nd, few⟩
theorem FSt.fq {cF : Addr} {H0 H : Hp} {f dl da db dr : Addr} {kn : List Int} {p : Fn} {bl : Int → Addr} {rv : List (Int × Addr)} (S : FSt cF H0 H f dl da db dr kn p bl rv) (path : ∀ n, ∃ ps, Path p n ps) : FQ cF H f kn p := by
  obtain ⟨dt, h⟩ := S.ob
  exact ⟨⟨dt, dl, da, db, dr, h, S.ab⟩, S.nd, S.inn, path, S.few.1⟩
theorem pairs_snoc (kn : List Int) (p : Fn) (m : Int) : pairs (kn ++ [m]) p = pairs kn p ++ [(m, p m)] := by
  unfold pairs
  rw [List.map_append] <;> rfl
/-- a number becomes known -/
theorem FSt.new {cF : Addr} {H0 H : Hp} {f dl da db dr : Addr} {kn : List Int} {p : Fn} {bl : Int → Addr} {rv : List (Int × Addr)} (S : FSt cF H0 H f dl da db dr kn p bl rv) {m : Int} (hm : m ∉ kn) (few : kn.length < 20000) {a : Addr}
    (ha : (upd H da (.dK (abv (kn ++ [m]) p))) a = none) : FSt cF H0 (upd (upd (upd H da (.dK (abv (kn ++ [m]) p))) a (.lst [])) db (.dK (rowsD V.ref (blw (kn ++ [m]) fun x => if x = m then a else bl x)))) f dl da db dr (kn ++ [m]) p (fun x => if x = m then a else bl x) rv := by
  obtain ⟨⟨dt, hf⟩, ab, be, ri, ⟨r, le⟩, nd, inn, kids, bin, b0, z, ⟨s1, s2, s3, s4, s5, s6⟩, old, fw⟩ := S
  have ada : a ≠ da := fun e => by rw [e, upd_same] at ha; cases ha
  have haH : H a = none := by rw [upd_ne ada] at ha; exact ha
  have nA : ∀ {x o}, H x = some o → x ≠ a := fun h => ne_of_none h haH
  have st : ∀ {x o}, H x = some o → x ≠ da → x ≠ db → (upd (upd (upd H da (.dK (abv (kn ++ [m]) p))) a (.lst [])) db (.dK (rowsD V.ref (blw (kn ++ [m]) fun x => if x = m then a else bl x)))) x = some o := fun {x o} h h1 h2 => by
    rw [upd_ne h2, upd_ne (nA h), upd_ne h1]; exact h
  refine ⟨⟨dt, st hf (ne_of hf ab (by intro z; cases z)) (ne_of hf be (by intro z; cases z))⟩, ?_, upd_same, st ri s5.symm s6.symm, ⟨r, st le s1 s2⟩, ?_, fun n b h => ?_, fun n hn => ?_, fun n hn k hk ne => ?_, fun n hn => ?_, z, ⟨s1, s2, s3, s4, s5, s6⟩, ?_, ⟨by rw [List.length_append]; exact few, fw.2⟩⟩
  · rw [upd_ne s4, upd_ne ada.symm, upd_same]
  · exact List.nodup_append.mpr ⟨nd, by simp, fun x hx y hy e => hm (by rw [← List.mem_singleton.mp hy, ← e]; exact hx)⟩
  · exact ⟨List.mem_append_left _ (inn n b h).1, List.mem_append_left _ (inn n b h).2⟩
  · rcases List.mem_append.mp hn with hn | hn
    · have ne : n ≠ m := fun e => hm (e ▸ hn)
      obtain ⟨cs, h1, h2, h3⟩ := kids n hn
      refine ⟨cs, ?_, h2, h3⟩
      show (upd _ db _) (if n = m then a else bl n) = _
      rw [if_neg ne]
      exact st h1 (ne_of h1 ab (by intro z; cases z)) (ne_of h1 be (by intro z; cases z))
    · have e := List.mem_singleton.mp hn
      subst e
      refine ⟨[], ?_, List.nodup_nil, fun x => ⟨(fun h => by cases h), fun h => absurd (inn _ _ h).2 hm⟩⟩
      show (upd _ db _) (if n = n then a else bl n) = _
      rw [if_pos rfl, upd_ne (nA be).symm, upd_same]
      rfl
  · show (if n = m then a else bl n) ≠ (if k = m then a else bl k)
    have old : ∀ x ∈ kn, bl x ≠ a := fun x hx => by
      obtain ⟨cs, h1, _⟩ := kids x hx
      exact nA h1
    have nm : ∀ x ∈ kn, x ≠ m := fun x hx e => hm (e ▸ hx)
    rcases List.mem_append.mp hn with hn | hn <;> rcases List.mem_append.mp hk with hk | hk
    · rw [if_neg (nm n hn), if_neg (nm k hk)]; exact bin n hn k hk ne
    · rw [if_neg (nm n hn), if_pos (List.mem_singleton.mp hk)]; exact old n hn
    · rw [if_pos (List.mem_singleton.mp hn), if_neg (nm k hk)]; exact (old k hk).symm
    · exact absurd ((List.mem_singleton.mp hn).trans (List.mem_singleton.mp hk).symm) ne
  · show H0 (if n = m then a else bl n) = none
    split
    · exact Ext.none old haH
    · rename_i ne
      rcases List.mem_append.mp hn with hn | hn
      · exact b0 n hn
      · exact absurd (List.mem_singleton.mp hn) ne
  · exact ext_put (ext_put (ext_put old z.2.2.1) (Ext.none old haH)) z.2.2.2.1
/-- only the letters' table changes -/
theorem FSt.letters {cF : Addr} {H0 H H' : Hp} {f dl da db dr : Addr} {kn : List Int} {p : Fn} {bl : Int → Addr} {rv : List (Int × Addr)} (S : FSt cF H0 H f dl da db dr kn p bl rv) {rows : List (Key × V)} (h : H' dl = some (.dK rows)) (k : ∀ b, b ≠ dl → H' b = H b) (old : Ext H0 H') : FSt cF H0 H' f dl da db dr kn p bl rv := by
  obtain ⟨⟨dt, hf⟩, ab, be, ri, ⟨r, le⟩, nd, inn, kids, bin, b0, z, ⟨s1, s2, s3, s4, s5, s6⟩, _, fw⟩ := S
  refine ⟨⟨dt, (k f (ne_of hf le (by intro z; cases z))).trans hf⟩, (k da s1.symm).trans ab, (k db s2.symm).trans be, (k dr s3.symm).trans ri, ⟨rows, h⟩, nd, inn, fun n hn => ?_, bin, b0, z, ⟨s1, s2, s3, s4, s5, s6⟩, old, fw⟩
  obtain ⟨cs, h1, h2⟩ := kids n hn
  exact ⟨cs, (k _ (ne_of h1 le (by intro z; cases z))).trans h1, h2⟩
/-- n's first answer is a: the tables above and below -/
theorem FSt.link {cF : Addr} {H0 H : Hp} {f dl da db dr : Addr} {kn : List Int} {p : Fn} {bl : Int → Addr} {rv : List (Int × Addr)} (S : FSt cF H0 H f dl da db dr kn p bl rv) {n a : Int} (hn : n ∈ kn) (ha : a ∈ kn) (pn : p n = none) {cs : List Int}
    (hcs : H (bl a) = some (.lst (cs.map V.int))) (nd : cs.Nodup) (mem : ∀ m, m ∈ cs ↔ p m = some a) :
    FSt cF H0 (upd (upd H da (.dK (abv kn (putF p n (some a))))) (bl a) (.lst ((cs ++ [n]).map V.int))) f dl da db dr kn (putF p n (some a)) bl rv := by
  obtain ⟨⟨dt, hf⟩, ab, be, ri, ⟨r, le⟩, ndk, inn, kids, bin, b0, z, ⟨s1, s2, s3, s4, s5, s6⟩, old, fw⟩ := S
  have st : ∀ {x o}, H x = some o → x ≠ da → x ≠ bl a → (upd (upd H da (.dK (abv kn (putF p n (some a))))) (bl a) (.lst ((cs ++ [n]).map V.int))) x = some o := fun h h1 h2 => by rw [upd_ne h2, upd_ne h1]; exact h
  have nlst : ∀ {x o}, H x = some o → (∀ ys, o ≠ .lst ys) → x ≠ bl a := fun h ne => ne_of h hcs (ne _)
  refine ⟨⟨dt, st hf (ne_of hf ab (by intro z; cases z)) (nlst hf (by intro _ z; cases z))⟩, ?_, st be s4.symm (nlst be (by intro _ z; cases z)), st ri s5.symm (nlst ri (by intro _ z; cases z)), ⟨r, st le s1 (nlst le (by intro _ z; cases z))⟩, ndk, fun m b h => ?_, fun m hm => ?_, bin, b0, z, ⟨s1, s2, s3, s4, s5, s6⟩, ext_put (ext_put old z.2.2.1) (b0 a ha), fw⟩
  · rw [upd_ne (nlst ab (by intro _ z; cases z)), upd_same]
  · unfold putF at h
    by_cases e : m = n
    · rw [if_pos e] at h
      rw [e, ← Option.some.inj h]
      exact ⟨hn, ha⟩
    · rw [if_neg e] at h; exact inn m b h
  · by_cases e : m = a
    · subst e
      refine ⟨cs ++ [n], upd_same, List.nodup_append.mpr ⟨nd, by simp, fun x hx y hy e => ?_⟩, fun x => ?_⟩
      · rw [List.mem_singleton.mp hy] at e
        rw [e] at hx
        rw [(mem n).mp hx] at pn
        cases pn
      · rw [List.mem_append, List.mem_singleton, mem x]
        unfold putF
        by_cases ex : x = n
        · rw [if_pos ex]; exact ⟨fun _ => rfl, fun _ => .inr ex⟩
        · rw [if_neg ex]; exact ⟨fun h => h.resolve_right ex, .inl⟩
    · obtain ⟨cs', h1, h2, h3⟩ := kids m hm
      refine ⟨cs', st h1 (ne_of h1 ab (by intro z; cases z)) (bin m hm a ha e), h2, fun x => ?_⟩
      rw [h3 x]
      unfold putF
      by_cases ex : x = n
      · rw [if_pos ex, ex, pn]
        exact ⟨(fun h => by cases h), fun h => absurd (Option.some.inj h).symm e⟩
      · rw [if_neg ex]
theorem FSt.p_none {cF : Addr} {H0 H : Hp} {f dl da db dr : Addr} {kn : List Int} {p : Fn} {bl : Int → Addr} {rv : List (Int × Addr)} (S : FSt cF H0 H f dl da db dr kn p bl rv) {m : Int} (h : m ∉ kn) : p m = none := by
  cases e : p m with
  | none => rfl
  | some a => exact absurd (S.inn _ _ e).1 h
theorem known_snoc {ls : List Let} {n : Int} {as : List Int} {x : Int} : x ∈ known (ls ++ [(n, as)]) ↔ x ∈ known ls ∨ x ∈ n :: as := by
  unfold known
  simp only [List.flatMap_append, List.flatMap_cons, List.flatMap_nil, List.append_nil, List.mem_append]
def spFPut (K : PySem.W.Frag) (cL cF : Addr) : Sp := fun vs H Q _ => ∃ (f p : Addr) (L : LD) (S : Lts) (H0 : Hp), vs = [.ref f, .ref p] ∧ ForAt K cL cF H0 H f S ∧ LetAt K cL H0 p L ∧ L.Ok ∧
  ((New S L ∧ S.length < 1300 ∧ ∀ v H', ForAt K cL cF H0 H' f (S ++ [(p, L)]) → Q v H') ∨ (Old S L ∧ ∀ v, Q v H))
section
variable {P : Program} {w : World} {K : PySem.W.Frag} {mg : Str → Option Value} {base : Heap} {cL cG cT cF : Addr}
theorem ok_fput {f : Addr} {fd : FuncData} (F : Fun K "put" "Forest.put" sFPut f fd) (T : Mo K mg cL cG cT cF) (M : Md P w K mg base cL 1 "__eq__" pLEq (spLEq K cL)) (Mc : Md P w K mg base cF 2 "closed_ring" pFCr (spFCr K cL cF))
    (Mk : Md P w K mg base cF 1 "cut" pFCut (spFCut cF)) : FnOk P w K mg base CX0 3 f fd pFPut (spFPut K cL cF) := by
  refine F.ok scFPut (fun vs H Q E h => ?_) (fun cdv A outer s H vs Q E hr h => ?_)
  · obtain ⟨_, _, _, _, _, rfl, _⟩ := h; rfl
  · obtain ⟨fo, lp, L, S, H0, rfl, D, hL, ok, k⟩ := h
    have hu := hu_of hr
    have hr1 := hr.mono (show 1 ≤ 2 by decide)
    refine ⟨_, pss_cons (ps_set (i := 2) scFPut.nd rfl (Or.inl rfl) (pe_fld (pv 1) rfl))
      (pss_cons (ps_if (pt_cmp (pc_din hu (pv 2) (pe_fld (pv 0) rfl))) (pss_cons (ps_if (pt_cmpR (op_eqOwn M hr1) (pe_dget hu (pe_fld (pv 0) rfl) (pv 2) (fun _ _ => rfl)) (pv 1) (nomark _)) (pss_one (ps_ret pe_bl)) pss_nil) pss_never) pss_nil)
      (pss_cons (ps_dput hu (pe_fld (pv 0) rfl) (pv 2) (pv 1) rfl)
      (pss_cons (ps_set (i := 3) scFPut.nd rfl (Or.inl rfl) (pe_m (pv 0) T.kF.cl Mc hr (pa_cons (pv 1) pa_nil)))
      (pss_cons (ps_for PassesOwn.never rfl (pi_list (pe_lst (pa_cons (pv 2) (StX.pa_star (pe_fld (pv 1) rfl) pa_nil)))) (pg_name (i := 4) scFPut.nd rfl (Or.inl rfl))
        (pss_cons (ps_expr (pe_dsetd (pe_fld (pv 0) rfl) (pv 4) pe_non ⟨rfl, rfl, rfl, rfl⟩)) (pss_one (ps_expr (pe_dsetd (pe_fld (pv 0) rfl) (pv 4) (pe_lst pa_nil) ⟨rfl, rfl, rfl, rfl⟩)))))
      (pss_cons (ps_if (pt_truth (pe_fld (pv 1) rfl) (fun _ => rfl)) (pss_cons (ps_dput hu (pe_fld (pv 0) rfl) (pv 2) (pe_ix ix_seq (pe_fld (pv 1) rfl) pe_int (fun _ _ => rfl)) rfl)
        (pss_one (ps_expr (pe_bm PySem.F.plainAttrs_list PySem.F.slot_list_append PySem.F.type_list_append mt_append (pe_dget hu (pe_fld (pv 0) rfl) (pe_ix ix_seq (pe_fld (pv 1) rfl) pe_int (fun _ _ => rfl)) (fun _ _ => rfl)) (pa_cons (pv 2) pa_nil))))) pss_nil)
      (pss_cons (ps_if (pt_truth (pv 3) (fun _ => rfl)) (pss_one (ps_expr (pe_m (pv 0) T.kF.cl Mk hr1 (pa_cons (pv 3) pa_nil)))) pss_nil)
      (pss_one (ps_ret pe_bl)))))))), ?_⟩
    have D' := D
    obtain ⟨⟨dl, da, db, dr, kn, p, bl, rv, St, hdl, hkn, ip, RS, hk9, hr9⟩, old, ls, nd, sfew⟩ := D'
    obtain ⟨dt, hf⟩ := St.ob
    have hL0 := hL
    obtain ⟨dx, ta, ts, tw, sd, tx, l1, l2, _⟩ := hL0
    have p1 := old _ _ l1
    refine ⟨_, rfl, lp, cL, dx, _, _, rfl, p1, T.kL.cl, T.nL_number, rfl, ?_⟩
    refine ⟨_, rfl, _, rfl, fo, cF, dt, _, _, rfl, hf, T.kF.cl, T.nF_letters, rfl, dl, _, rfl, DGet.k (k := Sum.inl L.num) hdl, _, rfl, ?_⟩
    rcases k.symm with ⟨⟨q, hq⟩, k⟩ | ⟨new, hS, k⟩
    · have v := rowsD_some (f := V.ref) (by rw [lk_fst]; exact nd) (lk_mem.mpr ⟨L, hq, rfl⟩ : (L.num, q) ∈ lk S)
      rw [v]
      have hq' := (ls _ hq).ext old
      have hq'' := hq'
      obtain ⟨dx', ta', ts', tw', sd', tx', g1, _⟩ := hq''
      refine iteT ⟨_, rfl, fo, cF, dt, _, _, rfl, hf, T.kF.cl, T.nF_letters, rfl, _, rfl, dl, _, rfl, by have z := DGet.k (k := Sum.inl L.num) hdl; rw [v] at z; exact z, ?_⟩
      refine ⟨_, rfl, q, dx', _, rfl, g1, ⟨lp, rfl, .inl ⟨cL, dx, _, p1, T.fLL⟩⟩, q, lp, L, L, rfl, hq', hL.ext old, _, rfl, _, rfl, ?_⟩
      rw [decide_eq_true (rfl : L = L)]
      exact iteT (k _)
    have nolk : ∀ b, (L.num, b) ∉ lk S := fun b hb => new (by rw [← lk_fst]; exact List.mem_map.mpr ⟨_, hb, rfl⟩)
    have lklen : (lk S).length = S.length := by unfold lk; rw [List.length_map]
    rw [rowsD_none nolk]
    refine iteF ?_
    -- self.letters[number] = letter
    refine ⟨_, rfl, _, rfl, fo, cF, dt, _, _, rfl, hf, T.kF.cl, T.nF_letters, rfl, _, rfl, dl, _, rfl, DPut.k (k := Sum.inl L.num) hdl (by rw [rowsD_len, lklen, sizeLine_eq]; omega), ?_⟩
    rw [rowsD_new nolk, ← lk_snoc]
    generalize hH1 : upd H dl _ = H1
    have d1 : H1 dl = some (.dK (rowsD V.ref (lk (S ++ [(lp, L)])))) := by rw [← hH1]; exact upd_same
    have e1 : Ext H0 H1 := by rw [← hH1]; exact ext_put old St.z.2.1
    have St1 := St.letters d1 (fun b hb => by rw [← hH1]; exact upd_ne hb) e1
    have T1 : TupK H H1 := by rw [← hH1]; exact .upd hdl fun _ z => by cases z
    obtain ⟨dt1, f1⟩ := St1.ob
    -- ring = self.closed_ring(letter)
    refine ⟨_, rfl, fo, dt1, _, rfl, f1, rfl, _, rfl, fo, lp, L, kn, p, rfl, St1.fq (path_ex ip), hL.ext e1, fun q H2 R e2 hq hR => ?_⟩
    have St2 := St1.ext e2
    -- for known in [number, *letter.answers]
    refine ⟨_, rfl, _, rfl, lp, cL, dx, _, _, rfl, St2.old _ _ l1, T.kL.cl, T.nL_answers, rfl, ta, _, rfl, .inl (l2.ext St2.old), ?_⟩
    have an := ok.ans.1
    have lenl : (V.int L.num :: (L.ans.map V.int ++ [])).length ≤ sizeLine := by rw [List.append_nil, List.length_cons, List.length_map, sizeLine_eq]; omega
    refine ⟨lenl, fun pl hpl => ?_⟩
    generalize hH3 : upd H2 pl _ = H3
    have e3 : Ext H2 H3 := by rw [← hH3]; exact Ext.upd hpl
    have l3 : H3 pl = some (.lst ((L.num :: L.ans).map V.int)) := by rw [← hH3, upd_same, List.append_nil]; rfl
    have St3 := St2.ext e3
    have few3 : kn.length ≤ 11700 := by omega
    refine ⟨pl, rfl, ⟨_, .inl (.inl l3)⟩, ?_⟩
    refine for_list (xs := (L.num :: L.ans).map V.int) (fun i σ Hi => ∃ y kni bli, σ = [some (.ref fo), some (.ref lp), some (.int L.num), some (.ref q), y] ∧ FSt cF H0 Hi fo dl da db dr kni p bli rv ∧ (∀ x, x ∈ kni ↔ x ∈ kn ∨ x ∈ (L.num :: L.ans).take i) ∧ kni.length ≤ kn.length + i ∧ Hi dl = H3 dl ∧ TupK H3 Hi ∧ Hi pl = H3 pl)
      ⟨none, kn, bl, rfl, St3, fun x => by simp, Nat.le_refl _, rfl, fun _ _ h => h, rfl⟩ (fun i σ Hi _ ⟨_, _, _, _, _, _, _, _, _, h⟩ => .inl (.inl (h.trans l3))) ?_ ?_
    · rintro i x σ Hi hx ⟨y, kni, bli, rfl, Si, mi, li, di, ti, pi⟩
      obtain ⟨m, hm, rfl⟩ : ∃ m, (L.num :: L.ans)[i]? = some m ∧ x = V.int m := by
        rw [List.getElem?_map] at hx
        cases e : (L.num :: L.ans)[i]? with
        | none => rw [e] at hx; cases hx
        | some z => rw [e] at hx; exact ⟨z, rfl, (Option.some.inj hx).symm⟩
      have il : i < (L.num :: L.ans).length := (List.getElem?_eq_some_iff.mp hm).1
      rw [List.length_cons] at il
      have tk : (L.num :: L.ans).take (i + 1) = (L.num :: L.ans).take i ++ [m] := by rw [List.take_add_one, hm] <;> rfl
      obtain ⟨dti, fi⟩ := Si.ob
      have small : (abv kni p).length < sizeLine := by rw [abv_len, sizeLine_eq]; omega
      have small2 : (rowsD V.ref (blw kni bli)).length < sizeLine := by rw [rowsD_len]; unfold blw; rw [List.length_map, sizeLine_eq]; omega
      refine ⟨_, rfl, fo, cF, dti, _, _, rfl, fi, T.kF.cl, T.nF_above, rfl, da, rfl, .inl ⟨_, .inl Si.ab⟩, _, rfl, _, Sum.inl m, Si.ab, rfl, small, fun v hv => ?_, fun hv => ?_⟩
      · -- known already
        have hmk : m ∈ kni := by
          by_cases z : m ∈ kni
          · exact z
          · rw [abv_none z] at hv; cases hv
        refine ⟨_, rfl, fo, cF, dti, _, _, rfl, fi, T.kF.cl, T.nF_below, rfl, db, rfl, .inl ⟨_, .inl Si.be⟩, _, rfl, Nat.zero_le _, fun a ha => ?_⟩
        have ea : Ext Hi (upd Hi a (.lst [])) := Ext.upd ha
        have Sa := Si.ext ea
        refine ⟨_, Sum.inl m, Sa.be, rfl, small2, fun v hv => ?_, fun hv => ?_⟩
        · refine ⟨_, kni, bli, rfl, Sa, fun z => ?_, by omega, ?_, ti.trans (.of ea), ?_⟩
          · rw [mi z, tk, List.mem_append, List.mem_singleton]
            refine ⟨fun h => h.imp id .inl, fun h => ?_⟩
            rcases h with h | h | h
            · exact .inl h
            · exact .inr h
            · rw [h]; exact (mi m).mp hmk
          · obtain ⟨rows, hr⟩ := Si.le
            rw [ea _ _ hr, ← di, hr]
          · rw [ea _ _ (pi.trans l3), l3]
        · rw [blw_some Si.nd hmk] at hv; cases hv
      · have hmk : m ∉ kni := fun z => by rw [abv_some Si.nd z] at hv; cases hv
        have pm : p m = none := Si.p_none hmk
        have ea : putK (abv kni p) (Sum.inl m) V.non = abv (kni ++ [m]) p := by
          have z := rowsD_new (f := oV) (b := none) (kvs := pairs kni p) (n := m) fun b hb => hmk (mem_pairs.mp hb).1
          unfold abv
          rw [pairs_snoc, pm]
          exact z
        rw [ea]
        obtain ⟨s1, s2, s3, s4, s5, s6⟩ := Si.sep
        have fda := ne_of fi Si.ab (by intro z; cases z)
        have ba : (upd Hi da (.dK (abv (kni ++ [m]) p))) db = some (.dK (rowsD V.ref (blw kni bli))) := by rw [upd_ne s4.symm]; exact Si.be
        refine ⟨_, rfl, fo, cF, dti, _, _, rfl, by rw [upd_ne fda]; exact fi, T.kF.cl, T.nF_below, rfl, db, rfl, .inl ⟨_, .inl ba⟩, _, rfl, Nat.zero_le _, fun a ha => ?_⟩
        have bb : (upd (upd Hi da (.dK (abv (kni ++ [m]) p))) a (.lst [])) db = some (.dK (rowsD V.ref (blw kni bli))) := by rw [upd_ne (ne_of_none ba ha)]; exact ba
        have nb : ∀ b, (m, b) ∉ blw kni bli := fun b hb => hmk (mem_blw.mp hb).1
        refine ⟨_, Sum.inl m, bb, rfl, small2, fun v hv => ?_, fun _ => ?_⟩
        · rw [rowsD_none nb] at hv; cases hv
        · have eb : putK (rowsD V.ref (blw kni bli)) (Sum.inl m) (V.ref a) = rowsD V.ref (blw (kni ++ [m]) fun x => if x = m then a else bli x) := by
            rw [rowsD_new (f := V.ref) nb]
            congr 1
            unfold blw
            rw [List.map_append]
            congr 1
            · refine List.map_congr_left fun z hz => ?_
              have ne : z ≠ m := fun e => hmk (by rw [← e]; exact hz)
              show (z, bli z) = (z, if z = m then a else bli z)
              rw [if_neg ne]
            · simp
          rw [eb]
          have adA : ∀ {x o}, Hi x = some o → x ≠ da → x ≠ a := fun {x o} h n => ne_of_none (o := o) (by rw [upd_ne n]; exact h) ha
          have keep : ∀ {x o}, Hi x = some o → x ≠ da → x ≠ db → (upd (upd (upd Hi da (.dK (abv (kni ++ [m]) p))) a (.lst [])) db (.dK (rowsD V.ref (blw (kni ++ [m]) fun x => if x = m then a else bli x)))) x = some o := fun {x o} h h1 h2 => by
            rw [upd_ne h2, upd_ne (adA h h1), upd_ne h1]; exact h
          refine ⟨_, kni ++ [m], _, rfl, Si.new hmk (by omega) ha, fun z => ?_, by rw [List.length_append]; show kni.length + 1 ≤ _; omega, ?_, fun z xs hz => ?_, ?_⟩
          · rw [List.mem_append, List.mem_singleton, mi z, tk, List.mem_append, List.mem_singleton, or_assoc]
          · obtain ⟨rows, hr⟩ := Si.le
            rw [keep hr s1 s2, ← di, hr]
          · have := ti z xs hz
            exact keep this (ne_of this Si.ab (by intro z; cases z)) (ne_of this Si.be (by intro z; cases z))
          · have := pi.trans l3
            rw [keep this (ne_of this Si.ab (by intro z; cases z)) (ne_of this Si.be (by intro z; cases z)), l3]
    · rintro σ H4 ⟨y, kn4, bl4, rfl, S4, m4, li4, di4, ti4, _⟩
      rw [List.length_map, List.length_cons] at m4 li4
      have tk4 : (L.num :: L.ans).take (L.ans.length + 1) = L.num :: L.ans := List.take_of_length_le (by simp)
      rw [tk4] at m4
      have d4 : H4 dl = some (.dK (rowsD V.ref (lk (S ++ [(lp, L)])))) := di4.trans (e3 _ _ (e2 _ _ d1))
      have T4 : TupK H H4 := ((T1.trans (.of e2)).trans (.of e3)).trans ti4
      have q4 : H4 q = some (.tup (R.map V.int)) := ti4 _ _ (e3 _ _ hq)
      obtain ⟨dt4, f4⟩ := S4.ob
      have fo_none : fstOf (lets S) L.num = none := fst_none new
      have fo' : fstOf (lets (S ++ [(lp, L)])) = putF (fstOf (lets S)) L.num L.ans.head? := by rw [lets_snoc]; exact fst_append new
      have kn4' : ∀ n, n ∈ kn4 ↔ n ∈ known (lets (S ++ [(lp, L)])) := fun n => by rw [m4 n, hkn n, lets_snoc, known_snoc]
      have nd4 : (come (lets (S ++ [(lp, L)]))).Nodup := by
        rw [lets_snoc]
        unfold come
        rw [List.map_append]
        exact List.nodup_append.mpr ⟨nd, by simp, fun a ha b hb e => new (by have z : b = L.num := List.mem_singleton.mp hb; rw [← z, ← e]; exact ha)⟩
      have pn : p L.num = none := by
        cases e : p L.num with
        | none => rfl
        | some a => rw [ip.le e] at fo_none; cases fo_none
      have ls' : ∀ q ∈ S ++ [(lp, L)], LetAt K cL H0 q.1 q.2 := fun q hq => by
        rcases List.mem_append.mp hq with hq | hq
        · exact ls q hq
        · rw [List.mem_singleton.mp hq]; exact hL
      have len' : (S ++ [(lp, L)]).length = S.length + 1 := by simp
      have fin : ∀ (H' : Hp) (p' : Fn) (bl' : Int → Addr) (rv' : List (Int × Addr)), FSt cF H0 H' fo dl da db dr kn4 p' bl' rv' → H' dl = H4 dl → IsPar (fstOf (lets (S ++ [(lp, L)]))) p' → RSt H' rv' (fstOf (lets (S ++ [(lp, L)]))) → rv'.length ≤ S.length + 1 → ∀ v, Q v H' :=
        fun H' p' bl' rv' F' hd' ip' RS' hl' v => k v H' ⟨⟨dl, da, db, dr, kn4, p', bl', rv', F', hd'.trans d4, kn4', ip', RS', by rw [len']; omega, by rw [len']; exact hl'⟩, F'.old, ls', nd4, by rw [len']; omega⟩
      -- if letter.answers
      have l24 := l2.ext S4.old
      refine ⟨_, rfl, lp, cL, dx, _, _, rfl, S4.old _ _ l1, T.kL.cl, T.nL_answers, rfl, _, .inr (.inl ⟨_, l24, rfl⟩), ?_⟩
      cases ha : L.ans with
      | nil =>
        refine iteF ?_
        have eR : R = [] := by
          rcases hR with ⟨h, _⟩ | ⟨a, us, h, _⟩
          · exact h
          · rw [ha] at h; cases h
        rw [eR] at q4
        refine ⟨_, rfl, _, tru_tup q4, iteF ?_⟩
        have ef : fstOf (lets (S ++ [(lp, L)])) = fstOf (lets S) := by
          rw [fo', ha]
          funext x
          unfold putF
          by_cases e : x = L.num
          · rw [if_pos e, e, fo_none]; rfl
          · rw [if_neg e]
        exact fin H4 p bl4 rv S4 rfl (by rw [ef]; exact ip) (by rw [ef]; exact RS.keep T4) (by omega) _
      | cons a as =>
        have han : a ≠ L.num := fun e => ok.ans.2.2.1 (by rw [ha, e]; exact List.mem_cons_self)
        have nk4 : L.num ∈ kn4 := (m4 _).mpr (.inr List.mem_cons_self)
        have ak4 : a ∈ kn4 := (m4 _).mpr (.inr (by rw [ha]; exact List.mem_cons_of_mem _ List.mem_cons_self))
        rw [ha] at l24
        obtain ⟨cs, hcs, ncs, mcs⟩ := S4.kids a ak4
        have hh : L.ans.head? = some a := by rw [ha]; rfl
        have fo2 : fstOf (lets (S ++ [(lp, L)])) = putF (fstOf (lets S)) L.num (some a) := by rw [fo', hh]
        obtain ⟨s1, s2, s3, s4, s5, s6⟩ := S4.sep
        refine iteT ⟨_, rfl, lp, cL, dx, _, _, rfl, S4.old _ _ l1, T.kL.cl, T.nL_answers, rfl, .inr (.inl ⟨ta, _, 0, V.int a, rfl, rfl, l24, atI_zero _ _, ?_⟩)⟩
        refine ⟨_, rfl, fo, cF, dt4, _, _, rfl, f4, T.kF.cl, T.nF_above, rfl, _, rfl, da, _, rfl, DPut.k (k := Sum.inl L.num) S4.ab (by rw [abv_len, sizeLine_eq]; omega), ?_⟩
        have ep : putK (abv kn4 p) (Sum.inl L.num) (V.int a) = abv kn4 (putF p L.num (some a)) := abv_put S4.nd nk4 (some a)
        rw [ep]
        have SL := S4.link nk4 ak4 pn hcs ncs mcs
        have daf : fo ≠ da := ne_of f4 S4.ab (by intro z; cases z)
        have ul : ∀ {x o}, H4 x = some o → x ≠ da → (upd H4 da (.dK (abv kn4 (putF p L.num (some a))))) x = some o := fun h n => by rw [upd_ne n]; exact h
        have lda : lp ≠ da := ne_of (S4.old _ _ l1) S4.ab (by intro z; cases z)
        have l25 : SqT K (upd H4 da (.dK (abv kn4 (putF p L.num (some a))))) ta ((a :: as).map V.int) := by
          have z := l2
          rw [ha] at z
          exact z.ext (ext_put S4.old S4.z.2.2.1)
        have gb := DGet.k (k := Sum.inl a) (ul S4.be s4.symm)
        rw [blw_some S4.nd ak4] at gb
        have lb := ul hcs (ne_of hcs S4.ab (by intro z; cases z))
        refine ⟨_, rfl, fo, cF, dt4, _, _, rfl, ul f4 daf, T.kF.cl, T.nF_below, rfl, _, rfl, lp, cL, dx, _, _, rfl, ul (S4.old _ _ l1) lda, T.kL.cl, T.nL_answers, rfl, .inr (.inl ⟨ta, _, 0, V.int a, rfl, rfl, l25, atI_zero _ _, db, _, rfl, gb, .inl ⟨rfl, _, .inl (.inl lb)⟩, _, rfl, bl4 a, _, _, rfl, rfl, lb, ?_, ?_⟩)⟩
        · have : cs.length ≤ kn4.length := nodup_le ncs fun x hx => (S4.inn _ _ ((mcs x).mp hx)).1
          rw [List.length_map, sizeLine_eq]; omega
        have ecs : cs.map V.int ++ [V.int L.num] = (cs ++ [L.num]).map V.int := by rw [List.map_append] <;> rfl
        rw [ecs]
        generalize hH5 : upd (upd H4 da _) (bl4 a) _ = H5 at SL ⊢
        have k5 : ∀ {x o}, H4 x = some o → x ≠ da → x ≠ bl4 a → H5 x = some o := fun h n1 n2 => by rw [← hH5, upd_ne n2, upd_ne n1]; exact h
        have d5 : H5 dl = H4 dl := by
          rw [d4, k5 d4 s1 (ne_of d4 hcs (by intro z; cases z))]
        have T5 : TupK H4 H5 := fun x xs h => k5 h (ne_of h S4.ab (by intro z; cases z)) (ne_of h hcs (by intro z; cases z))
        have q5 := T5 _ _ q4
        have fle : ∀ x y, fstOf (lets S) x = some y → fstOf (lets (S ++ [(lp, L)])) x = some y := fun x y h => by
          rw [fo2]
          unfold putF
          rw [if_neg fun e => by rw [e, fo_none] at h; cases h]
          exact h
        obtain ⟨ps, hps⟩ := path_ex ip a
        rcases hR with ⟨eR, hno⟩ | ⟨a', us, ha', eR, hP, hak, hnk⟩
        · rw [eR] at q5
          refine ⟨_, rfl, _, tru_tup q5, iteF ?_⟩
          have no := no_ring St.inn han (hno a hh) ps hps
          refine fin H5 _ _ _ SL d5 (by rw [fo2]; exact par_plain ip fo_none hps no) ⟨RS.nd, fun q hq => ?_, fun g => ?_⟩ (by omega) _
          · obtain ⟨r, h1, h2⟩ := RS.ring q hq
            exact ⟨r, T5 _ _ (T4 _ _ h1), h2.mono fle⟩
          · rw [RS.keys g, fo2]
            exact (cut_plain ip fo_none hps no g).symm
        · have ea : a' = a := by rw [hh] at ha'; exact (Option.some.inj ha').symm
          subst ea
          have ndR : R.Nodup := hP.nodup
          have neR : R ≠ [] := by rw [eR]; simp
          obtain ⟨g, hg, hmax⟩ := max_of neR
          have hRk : ∀ x ∈ R, x ∈ kn := fun x hx => (St.fq (path_ex ip)).inside hak hP x hx
          -- who stands above g
          obtain ⟨b, hb⟩ : ∃ b, putF p L.num (some a') g = some b := by
            unfold putF
            by_cases e : g = L.num
            · exact ⟨a', by rw [if_pos e]⟩
            · rw [if_neg e]
              obtain ⟨us', r, e', hr', hu'⟩ := hP.last
              have eq := List.append_inj' (e'.symm.trans eR) rfl
              have er : r = L.num := (List.cons.inj eq.2).1
              cases hpg : p g with
              | some b => exact ⟨b, rfl⟩
              | none =>
                rw [e'] at hg
                rcases List.mem_append.mp hg with z | z
                · exact absurd hpg (hu' g z)
                · exact absurd ((List.mem_singleton.mp z).trans er) e
          have norv : ∀ x, (g, x) ∉ rv := fun x hx => by
            have c : Cut (fstOf (lets S)) g := (RS.keys g).mp ⟨x, hx⟩
            have pg := (ip g).1 c
            have gn : g = L.num := by
              obtain ⟨us', r, e', hr', hu'⟩ := hP.last
              have eq := List.append_inj' (e'.symm.trans eR) rfl
              have er : r = L.num := (List.cons.inj eq.2).1
              rw [e'] at hg
              rcases List.mem_append.mp hg with z | z
              · exact absurd pg (hu' g z)
              · exact (List.mem_singleton.mp z).trans er
            rw [gn] at c
            exact c.1.src fo_none
          have neb : (!(R.map V.int).isEmpty) = true := by rw [eR]; simp
          refine ⟨_, rfl, _, tru_tup q5, ?_⟩
          rw [neb]
          obtain ⟨dt5, f5⟩ := SL.ob
          have Rl : R.length ≤ kn.length := nodup_le ndR hRk
          refine iteT ⟨_, rfl, fo, dt5, _, rfl, f5, rfl, _, rfl, fo, q, dl, da, db, dr, kn4, _, bl4, rv, H0, R, g, b, rfl, SL, q5, ndR, hg, hmax, hb, norv, by omega, by omega, fun v H6 a6 us6 vs6 S6 d6 T6 ha6 eR6 => ?_⟩
          rw [eR] at hP hg hmax
          have ipr := par_ring ip fo_none hP hg hmax
          have cut := cut_ring ip fo_none hP hg hmax
          refine fin H6 _ _ _ S6 (d6.trans d5) (by rw [fo2]; exact ipr) ⟨?_, fun q hq => ?_, fun x => ?_⟩ (by rw [List.length_append]; show rv.length + 1 ≤ _; omega) _
          · rw [List.map_append]
            exact List.nodup_append.mpr ⟨RS.nd, by simp, fun x hx y hy e => by
              obtain ⟨z, hz, rfl⟩ := List.mem_map.mp hx
              have ey : y = g := List.mem_singleton.mp hy
              exact norv z.2 (by rw [← ey, ← e]; exact hz)⟩
          · rcases List.mem_append.mp hq with hq | hq
            · obtain ⟨r, h1, h2⟩ := RS.ring q hq
              exact ⟨r, T6 _ _ (T5 _ _ (T4 _ _ h1)), h2.mono fle⟩
            · rw [List.mem_singleton.mp hq]
              refine ⟨_, ha6, ?_⟩
              have st : Steps (fstOf (lets (S ++ [(lp, L)]))) R a' := path_steps (fun x y h => fle x y (ip.le h)) (by rw [eR]; exact hP) eR (by rw [fo2]; unfold putF; rw [if_pos rfl])
              rw [eR6] at st
              refine ring_turn st ?_ ?_ (by rw [← eR6]; exact ndR)
              · obtain ⟨r, hr'⟩ := hP.head
                rw [← eR6, eR, hr']
                rfl
              · rw [← eR6, eR]
                exact hmax
          · rw [fo2, cut x, ← RS.keys x]
            constructor
            · rintro ⟨y, hy⟩
              rcases List.mem_append.mp hy with hy | hy
              · exact .inl ⟨y, hy⟩
              · exact .inr (Prod.mk.inj (List.mem_singleton.mp hy)).1
            · rintro (⟨y, hy⟩ | e)
              · exact ⟨y, List.mem_append_left _ hy⟩
              · exact ⟨a6, List.mem_append_right _ (by rw [e]; exact List.mem_singleton.mpr rfl)⟩
end
end K9
set_option Elab.async false
set_option linter.all false
set_option maxRecDepth 100000
set_option maxHeartbeats 4000000
/-! WF4: forests are made, and asked. -/
namespace K9
open PySem PySem.Spec PyProof.Rows L2 SX
/-- len(x) by an own __len__ -/
theorem call_lenOwn {X : Cx} {n : Nat} {C : Addr} {ps : List Str} {sp : Sp} (M : Md X.prog X.w X.K X.mg X.base C n "__len__" ps sp) (hr : Room (n + 1) X.A) :
    CallR X (.builtin "len") (fun xs H Q => ∃ a dx fs, xs = [.ref a] ∧ H a = some (.ins C dx fs) ∧ sp [.ref a] H (fun v H' => ∃ k : Nat, v = .int k ∧ k < 2 ^ 62 ∧ Q (.int k) H') E0) := by
  intro pins s σ H xs us Q I r h
  obtain ⟨f, fd, F, hm, hb⟩ := M.ex
  obtain ⟨a, dx, fs, rfl, ha, hq⟩ := h
  rw [Vals.ref1 r]
  obtain ⟨mA, J, _⟩ := ins_get I.hok ha
  obtain ⟨od, J, _⟩ := J.look
  obtain ⟨m, hF⟩ := I.fr
  refine PySem.W.len_K hF I.ok.mod.kin J hm.at_ hm.fn ?_
  have hl := F.len _ _ _ _ hq
  refine wpAny_call (codeAny_mono (F.run X.A.in1 X.stack s H ⟨[.ref a], []⟩ [.ref a] [.ref a] _ E0 hr.in1 I.env0.in1 (by
    have := hb s [.ref a] I.kIn (by simpa using hl)
    simpa using this) (.cons rfl .nil) hq) fun r s' hq' => ?_)
  cases r with
  | error e => exact False.elim hq'
  | ok fl =>
    cases fl with
    | ret w =>
      obtain ⟨z, H', I', rz, k, ez, hk, ex⟩ := I.after hq'
      subst ez
      obtain ⟨t, rfl⟩ := rz
      exact ⟨⟨by omega, by omega⟩, .int k, H', I'.tok _, ⟨_, rfl⟩, ex⟩
    | next => exact False.elim hq'
    | brk => exact False.elim hq'
    | cont => exact False.elim hq'
/-- the parents of the letters -/
noncomputable def pr (S : Lts) : Fn := parOf (fstOf (lets S))
/-- the plain forest of the letters -/
structure IsF (S : Lts) (F : Frst) : Prop where
  p : F.p = pr S
  ks : ∀ n, n ∈ F.ks ↔ n ∈ known (lets S)
theorem isF_one {S : Lts} {F G : Frst} (a : IsF S F) (b : IsF S G) : F = G := Frst.ext (Up.ext F.up G.up fun x => (a.ks x).trans (b.ks x).symm) (a.p.trans b.p.symm)
theorem ForAt.par {K : PySem.W.Frag} {cL cF : Addr} {H0 H : Hp} {f : Addr} {S : Lts} (h : ForAt K cL cF H0 H f S) : ∃ dl da db dr kn bl rv, FSt cF H0 H f dl da db dr kn (pr S) bl rv ∧ H dl = some (.dK (rowsD V.ref (lk S))) ∧ (∀ n, n ∈ kn ↔ n ∈ known (lets S)) ∧ RSt H rv (fstOf (lets S)) ∧ kn.length ≤ 9 * S.length := by
  obtain ⟨⟨dl, da, db, dr, kn, p, bl, rv, F, h1, h2, h3, h4, h5, _⟩, _⟩ := h
  have e : p = pr S := h3.uniq (parOf_is _)
  subst e
  exact ⟨dl, da, db, dr, kn, bl, rv, F, h1, h2, h4, h5⟩
theorem ForAt.fq {K : PySem.W.Frag} {cL cF : Addr} {H0 H : Hp} {f : Addr} {S : Lts} (h : ForAt K cL cF H0 H f S) : ∃ kn, FQ cF H f kn (pr S) ∧ ∀ n, n ∈ kn ↔ n ∈ known (lets S) := by
  obtain ⟨dl, da, db, dr, kn, bl, rv, F, h1, h2, h4⟩ := h.par
  exact ⟨kn, F.fq (path_ex (parOf_is _)), h2⟩
def spFInit (cF : Addr) : Sp := fun vs H Q _ => ∃ (p dx : Addr), vs = [.ref p] ∧ H p = some (.ins cF dx []) ∧
  ∀ dl da db dr H', H dl = none → H da = none → H db = none → H dr = none → (dl ≠ da ∧ dl ≠ db ∧ dl ≠ dr ∧ da ≠ db ∧ da ≠ dr ∧ db ≠ dr) → ExtB p H H' →
    H' p = some (.ins cF dx [("letters", .ref dl), ("above", .ref da), ("below", .ref db), ("rings", .ref dr)]) → H' dl = some (.dK []) → H' da = some (.dK []) → H' db = some (.dK []) → H' dr = some (.dK []) → Q .non H'
def spFOf (K : PySem.W.Frag) (cL cF : Addr) : Sp := fun vs H Q _ => ∃ (la : Addr) (X : Lts), vs = [.ref cF, .ref la] ∧ H la = some (.lst (X.map fun q => V.ref q.1)) ∧ (∀ q ∈ X, LetAt K cL H q.1 q.2 ∧ q.2.Ok) ∧ Cons X ∧ X.length ≤ 1300 ∧
  ∀ t H', ForAt K cL cF H H' t (addAll X) → Q (.ref t) H'
section
variable {P : Program} {w : World} {K : PySem.W.Frag} {mg : Str → Option Value} {base : Heap} {cL cG cT cF : Addr}
theorem ok_finit {f : Addr} {fd : FuncData} (F : Fun K "__init__" "Forest.__init__" sFInit f fd) (T : Mo K mg cL cG cT cF) : FnOk P w K mg base CX0 1 f fd pFInit (spFInit cF) := by
  refine F.ok scFInit (fun vs H Q E h => ?_) (fun cdv A outer s H vs Q E hr h => ?_)
  · obtain ⟨_, _, rfl, _⟩ := h; rfl
  · obtain ⟨p, dx, rfl, hp, k⟩ := h
    refine ⟨_, pss_cons (ps_fld (pv 0) pe_dnewK rfl) (pss_cons (ps_fld (pv 0) pe_dnewK rfl) (pss_cons (ps_fld (pv 0) pe_dnewK rfl) (pss_one (ps_fld (pv 0) pe_dnewK rfl)))), ?_⟩
    -- one field: a new dict, then the store
    have step : ∀ {Hk : Hp} {fs : List (Str × V)} {d : Addr} {g : Str}, ExtB p H Hk → Hk p = some (.ins cF dx fs) → Hk d = none →
        d ≠ p ∧ H d = none ∧ ExtB p H (upd (upd Hk d (.dK [])) p (.ins cF dx (L2.putF g (.ref d) fs))) ∧ ExtB p Hk (upd (upd Hk d (.dK [])) p (.ins cF dx (L2.putF g (.ref d) fs))) ∧ (upd (upd Hk d (.dK [])) p (.ins cF dx (L2.putF g (.ref d) fs))) d = some (.dK []) ∧ (upd Hk d (.dK [])) p = some (.ins cF dx fs) := fun {Hk fs d g} e h hd => by
      have n : d ≠ p := (ne_of_none h hd).symm
      refine ⟨n, ?_, (e.new hd).self, (ExtB.refl.new hd).self, by rw [upd_ne n, upd_same], by rw [upd_ne n.symm]; exact h⟩
      cases q : H d with
      | none => rfl
      | some o => rw [e d o n q] at hd; cases hd
    intro dl hdl
    obtain ⟨n1, z1, e1, _, d1, q1⟩ := step (g := "letters") ExtB.refl hp hdl
    refine ⟨_, rfl, p, cF, dx, [], rfl, q1, T.kF.cl, T.nF_letters, lenF 0, ?_⟩
    generalize hH1 : upd (upd H dl (.dK [])) p _ = H1 at e1 d1
    have p1 : H1 p = some (.ins cF dx [("letters", .ref dl)]) := by rw [← hH1]; exact upd_same
    intro da hda
    obtain ⟨n2, z2, e2, x2, d2, q2⟩ := step (g := "above") e1 p1 hda
    refine ⟨_, rfl, p, cF, dx, _, rfl, q2, T.kF.cl, T.nF_above, lenF 1, ?_⟩
    generalize hH2 : upd (upd H1 da (.dK [])) p _ = H2 at e2 d2 x2
    have p2 : H2 p = some (.ins cF dx [("letters", .ref dl), ("above", .ref da)]) := by rw [← hH2]; exact upd_same
    have d12 := x2 _ _ n1 d1
    intro db hdb
    obtain ⟨n3, z3, e3, x3, d3, q3⟩ := step (g := "below") e2 p2 hdb
    refine ⟨_, rfl, p, cF, dx, _, rfl, q3, T.kF.cl, T.nF_below, lenF 2, ?_⟩
    generalize hH3 : upd (upd H2 db (.dK [])) p _ = H3 at e3 d3 x3
    have p3 : H3 p = some (.ins cF dx [("letters", .ref dl), ("above", .ref da), ("below", .ref db)]) := by rw [← hH3]; exact upd_same
    have d13 := x3 _ _ n1 d12
    have d23 := x3 _ _ n2 d2
    intro dr hdr
    obtain ⟨n4, z4, e4, x4, d4, q4⟩ := step (g := "rings") e3 p3 hdr
    refine ⟨_, rfl, p, cF, dx, _, rfl, q4, T.kF.cl, T.nF_rings, lenF 3, ?_⟩
    exact k dl da db dr _ z1 z2 z3 z4 ⟨ne_of_none d1 hda, ne_of_none d12 hdb, ne_of_none d13 hdr, ne_of_none d2 hdb, ne_of_none d23 hdr, ne_of_none d3 hdr⟩ e4 upd_same (x4 _ _ n1 d13) (x4 _ _ n2 d23) (x4 _ _ n3 d3) d4
theorem ok_fof {f : Addr} {fd : FuncData} (F : Fun K "of" "Forest.of" sFOf f fd) (T : Mo K mg cL cG cT cF) (I : Id P w K mg base cF 1 pFInit (spFInit cF)) (Mp : Md P w K mg base cF 3 "put" pFPut (spFPut K cL cF)) : FnOk P w K mg base CX0 4 f fd pFOf (spFOf K cL cF) := by
  refine F.ok scFOf (fun vs H Q E h => ?_) (fun cdv A outer s H vs Q E hr h => ?_)
  · obtain ⟨_, _, rfl, _⟩ := h; rfl
  · obtain ⟨la, X, rfl, hla, hX, hc, hz, k⟩ := h
    have hr2 := hr.mono (show 2 ≤ 3 by decide)
    refine ⟨_, pss_cons (ps_set (i := 2) scFOf.nd rfl (Or.inl rfl) (pe_il (i := 0) I hr2 rfl (Or.inl rfl)))
      (pss_cons (ps_for PassesOwn.never rfl (pi_list (pv 1)) (pg_name (i := 3) scFOf.nd rfl (Or.inl rfl)) (pss_one (ps_expr (pe_m (pv 2) T.kF.cl Mp hr (pa_cons (pv 3) pa_nil)))))
      (pss_one (ps_ret (pv 2)))), ?_⟩
    refine ⟨rfl, fun x dx hx hdx hne => ⟨x, dx, rfl, upd_same, fun dl da db dr H1 h1 h2 h3 h4 sep e1 o1 o2 o3 o4 o5 => ⟨rfl, ?_⟩⟩⟩
    have e00 : Ext H (upd (upd H dx (.own x)) x (.ins cF dx [])) := (Ext.upd hdx).upd' (by rw [upd_ne (Ne.symm hne)]; exact hx)
    have e01 : Ext H H1 := fun b o q => e1 b o (ne_of_none q hx) (e00 b o q)
    have start : ForAt K cL cF H H1 x [] := ⟨⟨dl, da, db, dr, [], fun _ => none, fun _ => 0, [], ⟨⟨dx, o1⟩, o3, o4, o5, ⟨_, o2⟩, List.nodup_nil, (fun n a h => by cases h), (fun n hn => by cases hn), (fun n hn => by cases hn), (fun n hn => by cases hn), ⟨hx, Ext.none e00 h1, Ext.none e00 h2, Ext.none e00 h3, Ext.none e00 h4⟩, sep, e01, ⟨Nat.zero_le _, Nat.zero_le _⟩⟩, o2, (fun n => ⟨(fun h => by cases h), (fun h => by cases h)⟩),
      (fun n => ⟨fun _ => rfl, fun _ => rfl⟩), ⟨List.nodup_nil, (fun q hq => by cases hq), fun g => ⟨(fun ⟨a, ha⟩ => by cases ha), fun c => absurd rfl c.1.src⟩⟩, Nat.zero_le _, Nat.zero_le _⟩, e01, (fun q hq => by cases hq), List.nodup_nil, Nat.zero_le _⟩
    refine ⟨_, rfl, la, rfl, ⟨_, .inl (.inl (e01 _ _ hla))⟩, ?_⟩
    refine for_list (xs := X.map fun q => V.ref q.1) (fun i σ Hi => ∃ y, σ = [some (.ref cF), some (.ref la), some (.ref x), y] ∧ ForAt K cL cF H Hi x (addAll (X.take i))) ⟨none, rfl, start⟩ (fun i σ Hi _ ⟨_, _, D⟩ => .inl (.inl (D.old _ _ hla))) ?_ ?_
    · rintro i v σ Hi hv ⟨y, rfl, D⟩
      obtain ⟨q, hq, rfl⟩ : ∃ q, X[i]? = some q ∧ v = V.ref q.1 := by
        rw [List.getElem?_map] at hv
        cases e : X[i]? with
        | none => rw [e] at hv; cases hv
        | some z => rw [e] at hv; exact ⟨z, rfl, (Option.some.inj hv).symm⟩
      have il : i < X.length := (List.getElem?_eq_some_iff.mp hq).1
      obtain ⟨hq1, hq2⟩ := hX q (List.mem_of_getElem? hq)
      obtain ⟨dl', da', db', dr', _, _, _, D', _⟩ := D.par
      obtain ⟨dti, hti⟩ := D'.ob
      refine ⟨_, rfl, x, dti, _, rfl, hti, rfl, _, rfl, x, q.1, q.2, _, H, rfl, D, hq1, hq2, ?_⟩
      have len := addAll_len (X.take i) []
      rw [List.length_take] at len
      have len : (addAll (X.take i)).length ≤ min i X.length := by rw [List.length_nil, Nat.zero_add] at len; exact len
      rcases add_case hc hq with ⟨h1, h2⟩ | ⟨h1, h2⟩
      · exact .inl ⟨h1, by omega, fun v H' D2 => ⟨_, rfl, by rw [h2]; exact D2⟩⟩
      · exact .inr ⟨h1, fun v => ⟨_, rfl, by rw [h2]; exact D⟩⟩
    · rintro σ H2 ⟨y, rfl, D⟩
      rw [List.length_map, List.take_length] at D
      exact ⟨_, rfl, k x H2 D⟩
end
end K9
set_option Elab.async false
set_option linter.all false
set_option maxRecDepth 100000
set_option maxHeartbeats 4000000
/-! WF5: forests are asked. -/
namespace K9
open PySem PySem.Spec PyProof.Rows L2 SX
theorem Outs.get {F : Nat → V → Hp → Prop} {H : Hp} {is : List Nat} {ys : List V} (o : Outs F H is ys) : ∀ {i j : Nat}, is[i]? = some j → ∃ y, ys[i]? = some y ∧ F j y H := by
  induction o with
  | nil => intro i j h; simp at h
  | @cons k is y ys h _ ih =>
    intro i j e
    cases i with
    | zero =>
      have e : k = j := by simpa using e
      subst e
      exact ⟨y, rfl, h⟩
    | succ i =>
      obtain ⟨z, h1, h2⟩ := ih (i := i) (j := j) (by simpa using e)
      exact ⟨z, by simpa using h1, h2⟩
theorem paired_of {α β : Type} {R : α → β → Prop} : ∀ {xs : List α} {ys : List β}, xs.length = ys.length → (∀ (i : Nat) x y, xs[i]? = some x → ys[i]? = some y → R x y) → Paired R xs ys
  | [], [], _, _ => .nil
  | [], _ :: _, h, _ => by simp at h
  | _ :: _, [], h, _ => by simp at h
  | x :: xs, y :: ys, h, f => .cons (f 0 x y rfl rfl) (paired_of (by simpa using h) fun i a b h1 h2 => f (i + 1) a b (by simpa using h1) (by simpa using h2))
theorem outs_list {α : Type} {l : List α} {G : α → V → Prop} {F : Nat → V → Hp → Prop} {H : Hp} {ys : List V} (o : Outs F H (List.range l.length) ys) (h : ∀ i y, F i y H → ∃ n, l[i]? = some n ∧ G n y) : Paired (fun y n => G n y) ys l := by
  refine paired_of (by rw [o.len]; simp) fun i y n h1 h2 => ?_
  have hi : i < l.length := (List.getElem?_eq_some_iff.mp h2).1
  obtain ⟨z, hz, f⟩ := o.get (i := i) (j := i) (by simp [hi])
  rw [h1] at hz
  cases hz
  obtain ⟨m, hm, g⟩ := h i y f
  rw [h2] at hm
  cases hm
  exact g
abbrev FPre (K : PySem.W.Frag) (cL cF : Addr) (H : Hp) (f : Addr) (S : Lts) (F : Frst) : Prop := (∃ H0, ForAt K cL cF H0 H f S) ∧ IsF S F
def spFChi (K : PySem.W.Frag) (cL cF : Addr) : Sp := fun vs H Q _ => ∃ (f : Addr) (n : Int) (S : Lts) (F : Frst), vs = [.ref f, .int n] ∧ FPre K cL cF H f S F ∧ n ∈ F.ks ∧ ∀ q H', Ext H H' → H' q = some (.tup ((F.kids n).map V.int)) → Q (.ref q) H'
def spFRts (K : PySem.W.Frag) (cL cF : Addr) : Sp := fun vs H Q _ => ∃ (f : Addr) (S : Lts) (F : Frst), vs = [.ref f] ∧ FPre K cL cF H f S F ∧ ∀ q H', Ext H H' → H' q = some (.tup (F.roots.map V.int)) → Q (.ref q) H'
/-- a list of pairs stands at q -/
def PairsAt (H : Hp) (q : Addr) (l : List (Int × Option Int)) : Prop := ∃ vs, H q = some (.lst vs) ∧ Paired (fun v e => ∃ t, v = V.ref t ∧ H t = some (.tup [.int e.1, oV e.2])) vs l
def spFSum (K : PySem.W.Frag) (cL cF : Addr) : Sp := fun vs H Q _ => ∃ (f : Addr) (S : Lts) (F : Frst), vs = [.ref f] ∧ FPre K cL cF H f S F ∧ ∀ q H', Ext H H' → PairsAt H' q (F.ks.map fun n => (n, F.p n)) → Q (.ref q) H'
def spFLen (K : PySem.W.Frag) (cL cF : Addr) : Sp := fun vs H Q _ => ∃ (f : Addr) (S : Lts) (F : Frst), vs = [.ref f] ∧ FPre K cL cF H f S F ∧ Q (.int (F.ks.length : Nat)) H
def spFRing (K : PySem.W.Frag) (cL cF : Addr) : Sp := fun vs H Q _ => ∃ (f : Addr) (n : Int) (S : Lts) (H0 : Hp), vs = [.ref f, .int n] ∧ ForAt K cL cF H0 H f S ∧ n ∈ known (lets S) ∧
  ∀ H' us r, Ext H H' → Path (pr S) n (us ++ [r]) → (Cut (fstOf (lets S)) r → ∀ a R, H' a = some (.tup (R.map V.int)) → RingOK (fstOf (lets S)) r R → Q (.ref a) H') ∧ (¬ Cut (fstOf (lets S)) r → Q .non H')
/-- the same numbers, the same parents -/
def SameF (S S' : Lts) : Prop := (∀ n, n ∈ known (lets S) ↔ n ∈ known (lets S')) ∧ pr S = pr S'
def spFEq (K : PySem.W.Frag) (cL cF : Addr) : Sp := fun vs H Q _ => ∃ (f o : Addr) (S : Lts) (H0 : Hp), vs = [.ref f, .ref o] ∧ ForAt K cL cF H0 H f S ∧
  ((∃ S' H0', ForAt K cL cF H0 H0' f S ∧ ForAt K cL cF H0' H o S' ∧ (SameF S S' → Q (.bl true) H) ∧ (¬ SameF S S' → Q (.bl false) H)) ∨ (∃ xs, H o = some (.lst xs)) ∧ Q (.bl false) H)
section
variable {P : Program} {w : World} {K : PySem.W.Frag} {mg : Str → Option Value} {base : Heap} {cL cG cT cF : Addr}
theorem ok_fchi {f : Addr} {fd : FuncData} (F : Fun K "children" "Forest.children" sFChi f fd) (T : Mo K mg cL cG cT cF) : FnOk P w K mg base CX0 1 f fd pFChi (spFChi K cL cF) := by
  refine F.ok scFChi (fun vs H Q E h => ?_) (fun cdv A outer s H vs Q E hr h => ?_)
  · obtain ⟨_, _, _, _, rfl, _⟩ := h; rfl
  · obtain ⟨fo, n, S, Fr, rfl, ⟨⟨H0, D⟩, iF⟩, hn, k⟩ := h
    have hu := hu_of hr
    obtain ⟨dl, da, db, dr, kn, bl, rv, St, hdl, hkn, RS, hk9⟩ := D.par
    obtain ⟨dt, hf⟩ := St.ob
    refine ⟨_, pss_one (ps_ret (pe_callTy call_tuple_of (by rfl) T.b_tuple boot_tuple (pa_cons (pe_callB cr_sortedI (by rfl) T.b_sorted boot_sorted (pa_cons (pe_dget2 hu (pe_fld (pv 0) rfl) (pv 1) (pe_lst pa_nil) ⟨rfl, rfl, rfl, rfl⟩) pa_nil)) pa_nil))), ?_⟩
    refine ⟨_, rfl, fo, cF, dt, _, _, rfl, hf, T.kF.cl, T.nF_below, rfl, db, rfl, .inl ⟨_, .inl St.be⟩, _, rfl, Nat.zero_le _, fun e he => ?_⟩
    have e1 : Ext H (upd H e (.lst [])) := Ext.upd he
    have nk : n ∈ kn := (hkn n).mpr ((iF.ks n).mp hn)
    have g := DGet.k (k := Sum.inl n) (e1 _ _ St.be)
    rw [blw_some St.nd nk] at g
    obtain ⟨cs, h1, h2, h3⟩ := St.kids n nk
    refine ⟨_, g, bl n, cs, rfl, .inl (.inl (e1 _ _ h1)), fun ns' p hp hs hpn => ?_⟩
    have e2 : Ext (upd H e (.lst [])) (upd (upd H e (.lst [])) p (.lst (ns'.map V.int))) := Ext.upd hpn
    refine ⟨p, _, rfl, .inl ⟨.inl (.inl upd_same), fun l hl => ?_⟩⟩
    have up : Up ns' := up_of_sorted hs (hp.nodup_iff.mpr h2)
    have em : ns' = Fr.kids n := Up.ext up (Fr.kids_up n) fun x => by rw [hp.mem_iff, h3 x, Frst.mem_kids, iF.p]
    exact k l _ ((e1.trans e2).trans (Ext.upd hl)) (by rw [upd_same, em])
theorem ok_frts {f : Addr} {fd : FuncData} (F : Fun K "roots" "Forest.roots" sFRts f fd) (T : Mo K mg cL cG cT cF) : FnOk P w K mg base CX0 1 f fd pFRts (spFRts K cL cF) := by
  refine F.ok scFRts (fun vs H Q E h => ?_) (fun cdv A outer s H vs Q E hr h => ?_)
  · obtain ⟨_, _, _, rfl, _⟩ := h; rfl
  · obtain ⟨fo, S, Fr, rfl, ⟨⟨H0, D⟩, iF⟩, k⟩ := h
    have hu := hu_of hr
    obtain ⟨dl, da, db, dr, kn, bl, rv, St, hdl, hkn, RS, hk9⟩ := D.par
    obtain ⟨dt, hf⟩ := St.ob
    refine ⟨_, pss_one (ps_ret (pe_callTy call_tuple_of (by rfl) T.b_tuple boot_tuple (pa_cons (pe_lc rfl scFRts.nd (pi_list (pe_callB cr_sortedI (by rfl) T.b_sorted boot_sorted (pa_cons (pe_callTy (call_listD rfl) (by rfl) T.b_list boot_list (pa_cons (pe_fld (pv 0) rfl) pa_nil)) pa_nil))) (own := [("number", 1)]) (blkOk_by (by show blkC nFRts (defScope sFRts) _ _ = true; decide +kernel)) (fun _ _ _ _ _ => pg_name (i := 1) scFRts.nd rfl (Or.inl rfl))
      (fun _ _ _ _ _ => pts_one (pt_cmp (pc_isN (pe_dget hu (pe_fldK K (pv 0)) (pv 1) (fun _ _ => rfl))))) (fun _ _ _ _ _ => pv 1)) pa_nil))), ?_⟩
    refine ⟨_, rfl, fo, cF, dt, _, _, rfl, hf, T.kF.cl, T.nF_above, rfl, da, _, rfl, .inl St.ab, fun pl hpl => ?_⟩
    unfold abv
    rw [rowsD_keys, pairs_fst]
    have e1 : Ext H (upd H pl (.lst (kn.map V.int))) := Ext.upd hpl
    refine ⟨pl, kn, rfl, .inl (.inl upd_same), fun ns' p hp hs hpn => ?_⟩
    have e2 : Ext (upd H pl (.lst (kn.map V.int))) (upd (upd H pl (.lst (kn.map V.int))) p (.lst (ns'.map V.int))) := Ext.upd hpn
    have up : Up ns' := up_of_sorted hs (hp.nodup_iff.mpr St.nd)
    have em : ns' = Fr.ks := Up.ext up Fr.up fun x => by rw [hp.mem_iff, hkn x, iF.ks x]
    subst em
    generalize hH2 : upd (upd H pl _) p _ = H2 at e2
    have p2 : H2 p = some (.lst (Fr.ks.map V.int)) := by rw [← hH2]; exact upd_same
    have eH := e1.trans e2
    have few := St.few.1
    have len : Fr.ks.length = kn.length := hp.length_eq
    refine ⟨p, rfl, ⟨_, .inl (.inl p2)⟩, fun Dn hD => ?_⟩
    refine lc_flat walk_list (fun x => match x with | .int i => decide (Fr.p i = none) | _ => false) (fun x => x) hD (by rw [List.length_map, sizeLine_eq]; omega) (fun H e => .inl (.inl (e _ _ p2))) (fun x hx Hi e A N hA hN => ?_) (fun H3 e hy => ?_)
    · obtain ⟨i, hi, rfl⟩ := List.mem_map.mp hx
      have ik : i ∈ kn := (hkn i).mpr ((iF.ks i).mp hi)
      have g := DGet.k (k := Sum.inl i) (e _ _ (eH _ _ St.ab))
      rw [abv_some St.nd ik, ← iF.p] at g
      refine ⟨rfl, _, rfl, fo, cF, dt, _, _, rfl, e _ _ (eH _ _ hf), T.kF.cl, T.nF_above, rfl, _, rfl, da, _, rfl, g, _, rfl, ?_⟩
      cases hpi : Fr.p i with
      | none => exact iteT ⟨_, rfl, hA (decide_eq_true hpi) Hi Ext.rfl'⟩
      | some b => exact iteF (hN (decide_eq_false (by rw [hpi]; simp)) Hi Ext.rfl')
    · have ef : (Fr.ks.map V.int).filter (fun x => match x with | .int i => decide (Fr.p i = none) | _ => false) = Fr.roots.map V.int := by
        rw [List.filter_map] <;> rfl
      rw [ef, List.map_id'] at hy
      refine ⟨Dn, _, rfl, .inl ⟨.inl (.inl hy), fun l hl => ?_⟩⟩
      exact k l _ ((eH.trans e).trans (Ext.upd hl)) upd_same
theorem ok_flen {f : Addr} {fd : FuncData} (F : Fun K "__len__" "Forest.__len__" sFLen f fd) (T : Mo K mg cL cG cT cF) : FnOk P w K mg base CX0 1 f fd pFLen (spFLen K cL cF) := by
  refine F.ok scFLen (fun vs H Q E h => ?_) (fun cdv A outer s H vs Q E hr h => ?_)
  · obtain ⟨_, _, _, rfl, _⟩ := h; rfl
  · obtain ⟨fo, S, Fr, rfl, ⟨⟨H0, D⟩, iF⟩, k⟩ := h
    obtain ⟨dl, da, db, dr, kn, bl, rv, St, hdl, hkn, RS, hk9⟩ := D.par
    obtain ⟨dt, hf⟩ := St.ob
    refine ⟨_, pss_one (ps_ret (pe_callB call_lenD (by rfl) T.b_len boot_len (pa_cons (pe_fld (pv 0) rfl) pa_nil))), ?_⟩
    have len : (abv kn (pr S)).length = Fr.ks.length := by
      rw [abv_len]
      exact (perm_of St.nd Fr.up.nodup fun x => (hkn x).trans (iF.ks x).symm).length_eq
    refine ⟨_, rfl, fo, cF, dt, _, _, rfl, hf, T.kF.cl, T.nF_above, rfl, da, _, rfl, St.ab, ?_⟩
    rw [len]
    exact k
theorem ok_fsum {f : Addr} {fd : FuncData} (F : Fun K "summary" "Forest.summary" sFSum f fd) (T : Mo K mg cL cG cT cF) : FnOk P w K mg base CX0 1 f fd pFSum (spFSum K cL cF) := by
  refine F.ok scFSum (fun vs H Q E h => ?_) (fun cdv A outer s H vs Q E hr h => ?_)
  · obtain ⟨_, _, _, rfl, _⟩ := h; rfl
  · obtain ⟨fo, S, Fr, rfl, ⟨⟨H0, D⟩, iF⟩, k⟩ := h
    have hu := hu_of hr
    obtain ⟨dl, da, db, dr, kn, bl, rv, St, hdl, hkn, RS, hk9⟩ := D.par
    obtain ⟨dt, hf⟩ := St.ob
    refine ⟨_, pss_one (ps_ret (pe_lc rfl scFSum.nd (pi_list (pe_callB cr_sortedI (by rfl) T.b_sorted boot_sorted (pa_cons (pe_callTy (call_listD rfl) (by rfl) T.b_list boot_list (pa_cons (pe_fld (pv 0) rfl) pa_nil)) pa_nil))) (own := [("number", 1)]) (blkOk_by (by show blkC nFSum (defScope sFSum) _ _ = true; decide +kernel)) (fun _ _ _ _ _ => pg_name (i := 1) scFSum.nd rfl (Or.inl rfl))
      (fun _ _ _ _ _ => pts_nil) (fun _ _ _ _ _ => pe_tup (pa_cons (pv 1) (pa_cons (pe_dget hu (pe_fldK K (pv 0)) (pv 1) (fun _ _ => rfl)) pa_nil))))), ?_⟩
    refine ⟨_, rfl, fo, cF, dt, _, _, rfl, hf, T.kF.cl, T.nF_above, rfl, da, _, rfl, .inl St.ab, fun pl hpl => ?_⟩
    unfold abv
    rw [rowsD_keys, pairs_fst]
    have e1 : Ext H (upd H pl (.lst (kn.map V.int))) := Ext.upd hpl
    refine ⟨pl, kn, rfl, .inl (.inl upd_same), fun ns' p hp hs hpn => ?_⟩
    have e2 : Ext (upd H pl (.lst (kn.map V.int))) (upd (upd H pl (.lst (kn.map V.int))) p (.lst (ns'.map V.int))) := Ext.upd hpn
    have up : Up ns' := up_of_sorted hs (hp.nodup_iff.mpr St.nd)
    have em : ns' = Fr.ks := Up.ext up Fr.up fun x => by rw [hp.mem_iff, hkn x, iF.ks x]
    subst em
    generalize hH2 : upd (upd H pl _) p _ = H2 at e2
    have p2 : H2 p = some (.lst (Fr.ks.map V.int)) := by rw [← hH2]; exact upd_same
    have eH := e1.trans e2
    have few := St.few.1
    have len : Fr.ks.length = kn.length := hp.length_eq
    refine ⟨p, rfl, ⟨_, .inl (.inl p2)⟩, fun Dn hD => ?_⟩
    refine lc_eachD walk_list (fun i y H => ∃ n t, Fr.ks[i]? = some n ∧ y = V.ref t ∧ t ≠ Dn ∧ H t = some (.tup [.int n, oV (Fr.p n)])) hD (by rw [List.length_map, sizeLine_eq]; omega) (fun H e => .inl (.inl (e _ _ p2))) (fun i y H H' _ x ⟨n, t, h1, h2, h3, h4⟩ => ⟨n, t, h1, h2, h3, x _ _ h3 h4⟩) (fun i x Hi Hi' hil e ⟨zs, hz⟩ y A hA => ?_) (fun H3 ys e hy o => ?_)
    · obtain ⟨rfl, hx⟩ := y
      obtain ⟨n, hn, rfl⟩ : ∃ n, Fr.ks[i]? = some n ∧ x = V.int n := by
        rw [List.getElem?_map] at hx
        cases e : Fr.ks[i]? with
        | none => rw [e] at hx; cases hx
        | some z => rw [e] at hx; exact ⟨z, rfl, (Option.some.inj hx).symm⟩
      have nk : n ∈ kn := (hkn n).mpr ((iF.ks n).mp (List.mem_of_getElem? hn))
      have g := DGet.k (k := Sum.inl n) (e _ _ (eH _ _ St.ab))
      rw [abv_some St.nd nk, ← iF.p] at g
      refine ⟨rfl, _, rfl, _, rfl, fo, cF, dt, _, _, rfl, e _ _ (eH _ _ hf), T.kF.cl, T.nF_above, rfl, _, rfl, da, _, rfl, g, (show 2 ≤ sizeLine by decide), fun t ht => ?_⟩
      exact hA _ _ (Ext.upd ht) ⟨n, t, hn, rfl, (ne_of_none hz ht).symm, upd_same⟩
    · rw [List.length_map] at o
      have pd := outs_list (l := Fr.ks) (G := fun n y => ∃ t, y = V.ref t ∧ H3 t = some (.tup [.int n, oV (Fr.p n)])) o fun i y ⟨n, t, h1, h2, _, h4⟩ => ⟨n, h1, t, h2, h4⟩
      refine k Dn H3 (eH.trans e) ⟨ys, hy, ?_⟩
      have mp : ∀ {xs : List V} {l : List Int}, Paired (fun y n => ∃ t, y = V.ref t ∧ H3 t = some (.tup [.int n, oV (Fr.p n)])) xs l → Paired (fun v (e : Int × Option Int) => ∃ t, v = V.ref t ∧ H3 t = some (.tup [.int e.1, oV e.2])) xs (l.map fun n => (n, Fr.p n)) := fun {xs l} h => by
        induction h with
        | nil => exact .nil
        | cons r _ ih => exact .cons r ih
      exact mp pd
theorem ok_fring {f : Addr} {fd : FuncData} (F : Fun K "ring_at" "Forest.ring_at" sFRing f fd) (T : Mo K mg cL cG cT cF) (M : Md P w K mg base cF 2 "root" pFRoot (spFRoot cF)) : FnOk P w K mg base CX0 3 f fd pFRing (spFRing K cL cF) := by
  refine F.ok scFRing (fun vs H Q E h => ?_) (fun cdv A outer s H vs Q E hr h => ?_)
  · obtain ⟨_, _, _, _, rfl, _⟩ := h; rfl
  · obtain ⟨fo, n, S, H0, rfl, D, hn, k⟩ := h
    have hu := hu_of hr
    obtain ⟨dl, da, db, dr, kn, bl, rv, St, hdl, hkn, RS, hk9⟩ := D.par
    obtain ⟨dt, hf⟩ := St.ob
    refine ⟨_, pss_one (ps_ret (pe_dget2 hu (pe_fld (pv 0) rfl) (pe_m (pv 0) T.kF.cl M hr (pa_cons (pv 1) pa_nil)) pe_non ⟨rfl, rfl, rfl, rfl⟩)), ?_⟩
    refine ⟨_, rfl, fo, cF, dt, _, _, rfl, hf, T.kF.cl, T.nF_rings, rfl, dr, rfl, .inl ⟨_, .inl St.ri⟩, _, rfl, fo, dt, _, rfl, hf, rfl, _, rfl, fo, n, kn, pr S, rfl, St.fq (path_ex (parOf_is _)), (hkn n).mpr hn, fun H1 us r e1 P => ?_⟩
    obtain ⟨k1, k2⟩ := k H1 us r e1 P
    have g := DGet.k (k := Sum.inl r) (e1 _ _ St.ri)
    by_cases c : Cut (fstOf (lets S)) r
    · obtain ⟨a, ha⟩ := (RS.keys r).mpr c
      obtain ⟨R, h1, h2⟩ := RS.ring _ ha
      rw [rowsD_some (f := V.ref) RS.nd ha] at g
      exact ⟨_, g, k1 c a R (e1 _ _ h1) h2⟩
    · rw [rowsD_none (f := V.ref) fun b hb => c ((RS.keys r).mp ⟨b, hb⟩)] at g
      exact ⟨_, g, k2 c⟩
theorem eqV_oV (a b : Option Int) : eqV (oV a) (oV b) = decide (a = b) := by
  cases a with
  | none => cases b <;> simp [oV, eqV]
  | some a => cases b with
    | none => simp [oV, eqV]
    | some b => show eqV (.int a) (.int b) = _; simp only [eqV, Option.some.injEq]; exact PySem.W.beq_decide _ _
theorem flat_oV (a : Option Int) : flatV (oV a) = true := by cases a <;> rfl
theorem abv_get {kn : List Int} {p : Fn} {i : Nat} {k : Key} {v : V} (h : (abv kn p)[i]? = some (k, v)) : ∃ n, kn[i]? = some n ∧ k = Sum.inl n ∧ v = oV (p n) := by
  unfold abv rowsD pairs at h
  rw [List.map_map, List.getElem?_map] at h
  cases e : kn[i]? with
  | none => rw [e] at h; cases h
  | some q =>
    rw [e] at h
    have z := Prod.mk.inj (Option.some.inj h)
    exact ⟨q, rfl, z.1.symm, z.2.symm⟩
theorem ok_feq {f : Addr} {fd : FuncData} (F : Fun K "__eq__" "Forest.__eq__" sFEq f fd) (T : Mo K mg cL cG cT cF) : FnOk P w K mg base CX0 3 f fd pFEq (spFEq K cL cF) := by
  refine F.ok scFEq (fun vs H Q E h => ?_) (fun cdv A outer s H vs Q E hr h => ?_)
  · obtain ⟨_, _, _, _, rfl, _⟩ := h; rfl
  · obtain ⟨t, o, S, H0, rfl, D, k⟩ := h
    have hu := hu_of hr
    obtain ⟨dl, da, db, dr, kn, bl, rv, St, hdl, hkn, RS, hk9⟩ := D.par
    obtain ⟨dt, ht⟩ := St.ob
    refine ⟨_, pss_one (ps_ret (pe_and (pe_callB call_isi (by rfl) T.b_isinstance boot_isinstance (pa_cons (pv 1) (pa_cons (pe_glob (v := .ref cF) (by rfl) T.mF rfl) pa_nil)))
      (pe_one (pe_lock (pe_lock (pe_cmpR (op_eqDct (n := 1) eqr_flat hr) (pe_fld (pv 0) rfl) (pe_fld (pv 1) rfl) (nomark _))))))), ?_⟩
    rcases k with ⟨S', H0', D1, D2, k1, k2⟩ | ⟨⟨xs, ho⟩, k⟩
    · obtain ⟨dl', da', db', dr', kn', bl', rv', St', hdl', hkn', RS', hk9'⟩ := D2.par
      obtain ⟨dt', ht'⟩ := St'.ob
      refine ⟨_, rfl, _, _, _, _, true, rfl, .own cF, T.kF.ty T ht', kit_self, true, rfl, ?_⟩
      rw [if_pos rfl]
      have nda : da ≠ da' := by
        obtain ⟨dl0, da0, db0, dr0, kn0, bl0, rv0, St0, _⟩ := D1.par
        obtain ⟨dt0, ht0⟩ := St0.ob
        have z := D2.old _ _ ht0
        rw [ht] at z
        have e1 : da = da0 := by
          have z := Option.some.inj z
          injection z with _ _ z
          have z := (List.cons.inj (List.cons.inj z).2).1
          exact V.ref.inj (Prod.mk.inj z).2
        rw [e1]
        exact ne_of_none St0.ab St'.z.2.2.1
      refine ⟨da, .dK (abv kn (pr S)), St.ab, trivial, fun o1 => ⟨da', .dK (abv kn' (pr S')), by rw [upd_ne nda.symm]; exact St'.ab, trivial, fun o2 => ?_⟩⟩
      have op : ∀ v, Q v H → (upd (upd H da (.frz o1 (.dK (abv kn (pr S))))) da' (.frz o2 (.dK (abv kn' (pr S'))))) da' = some (.frz o2 (.dK (abv kn' (pr S')))) ∧
          (upd (upd (upd H da (.frz o1 (.dK (abv kn (pr S))))) da' (.frz o2 (.dK (abv kn' (pr S'))))) da' (.dK (abv kn' (pr S')))) da = some (.frz o1 (.dK (abv kn (pr S)))) ∧
          Q v (upd (upd (upd (upd H da (.frz o1 (.dK (abv kn (pr S))))) da' (.frz o2 (.dK (abv kn' (pr S'))))) da' (.dK (abv kn' (pr S')))) da (.dK (abv kn (pr S)))) := fun v q => by
        refine ⟨upd_same, by rw [upd_ne nda, upd_ne nda, upd_same], ?_⟩
        rw [relock nda St.ab St'.ab]
        exact q
      generalize hHL : upd (upd H da (.frz o1 (.dK (abv kn (pr S))))) da' (.frz o2 (.dK (abv kn' (pr S')))) = HL at op ⊢
      have st : ∀ b ob, b ≠ da → b ≠ da' → H b = some ob → HL b = some ob := fun b ob h1 h2 q => by rw [← hHL, upd_ne h2, upd_ne h1]; exact q
      have f1 : HL da = some (.frz o1 (.dK (abv kn (pr S)))) := by rw [← hHL, upd_ne nda, upd_same]
      have f2 : HL da' = some (.frz o2 (.dK (abv kn' (pr S')))) := by rw [← hHL, upd_same]
      have t1 := st t _ (ne_of ht St.ab (by intro z; cases z)) (ne_of ht St'.ab (by intro z; cases z)) ht
      have t2 := st o _ (ne_of ht' St.ab (by intro z; cases z)) (ne_of ht' St'.ab (by intro z; cases z)) ht'
      refine ⟨_, rfl, t, cF, dt, _, _, rfl, t1, T.kF.cl, T.nF_above, rfl, _, rfl, o, cF, dt', _, _, rfl, t2, T.kF.cl, T.nF_above, rfl, da, da', o1, o2, _, _, rfl, rfl, f1, f2, fun ne => ?_, ?_⟩
      · refine op _ (k2 fun z => ne ?_)
        rw [abv_len, abv_len]
        exact (perm_of St.nd St'.nd fun x => by rw [hkn x, hkn' x]; exact z.1 x).length_eq
      · refine ⟨fun i H' => H' = HL ∧ kn.length = kn'.length ∧ ∀ q ∈ kn.take i, q ∈ kn' ∧ pr S q = pr S' q, fun i H' ⟨e, _⟩ => by rw [e]; exact ⟨f1, f2⟩, fun e => ⟨rfl, by rw [abv_len, abv_len] at e; exact e, fun q hq => by cases hq⟩, ?_, ?_⟩
        · rintro i k v H' hk ⟨rfl, e, hd⟩
          obtain ⟨n, hn, rfl, rfl⟩ := abv_get hk
          have nk := List.mem_of_getElem? hn
          by_cases nk' : n ∈ kn'
          · refine .inr ⟨_, abv_some St'.nd nk', flat_oV _, flat_oV _, ?_⟩
            rw [eqV_oV]
            refine ite_dec (fun es => ⟨rfl, e, fun x hx => ?_⟩) (fun es => op _ (k2 fun z => es (by rw [z.2])))
            rw [List.take_add_one, hn] at hx
            rcases List.mem_append.mp hx with hx | hx
            · exact hd x hx
            · rw [List.mem_singleton.mp hx]; exact ⟨nk', es⟩
          · exact .inl ⟨abv_none nk', op _ (k2 fun z => nk' ((hkn' n).mpr ((z.1 n).mp ((hkn n).mp nk))))⟩
        · rintro H' ⟨rfl, e, hd⟩
          rw [abv_len, List.take_length] at hd
          refine op _ (k1 ⟨fun n => ?_, ?_⟩)
          · rw [← hkn n, ← hkn' n]
            refine ⟨fun h => (hd n h).1, fun h => ?_⟩
            -- as many, so the same
            by_cases c : n ∈ kn
            · exact c
            · have l1 : (n :: kn).length ≤ kn'.length := nodup_le (List.nodup_cons.mpr ⟨c, St.nd⟩) fun x hx => by
                rcases List.mem_cons.mp hx with z | z
                · rw [z]; exact h
                · exact (hd x z).1
              rw [List.length_cons] at l1
              omega
          · funext n
            by_cases c : n ∈ kn
            · exact (hd n c).2
            · have c' : n ∉ kn' := fun h => by
                have l1 : (n :: kn).length ≤ kn'.length := nodup_le (List.nodup_cons.mpr ⟨c, St.nd⟩) fun x hx => by
                  rcases List.mem_cons.mp hx with z | z
                  · rw [z]; exact h
                  · exact (hd x z).1
                rw [List.length_cons] at l1
                omega
              rw [St.p_none c, St'.p_none c']
    · refine ⟨_, rfl, _, _, _, _, false, rfl, .own cF, .base (.lst ho), T.iLF, false, rfl, ?_⟩
      rw [if_neg Bool.false_ne_true]
      exact k
end
end K9
set_option Elab.async false
set_option linter.all false
set_option maxRecDepth 100000
set_option maxHeartbeats 2000000
/-! G1: a generator's run, turn by turn: the context of a turn. -/
namespace K9
open PySem PySem.Spec PyProof.Rows L2

/-- the heap below n -/
def cut (h : Heap) (n : Nat) : Heap := { h with objs := h.objs.extract 0 n }
theorem cut_size {h : Heap} {n : Nat} (hn : n ≤ h.objs.size) : (cut h n).objs.size = n := by
  show (h.objs.extract 0 n).size = n
  rw [Array.size_extract]; omega
theorem cut_lt {h : Heap} {n : Nat} {b : Addr} (hb : b < n) : (cut h n).get? b = h.get? b := by
  have e : (h.objs.extract 0 n)[b]? = h.objs[b]? := by
    by_cases k : b < h.objs.size
    · rw [Array.getElem?_extract, if_pos (by rw [Nat.sub_zero]; exact Nat.lt_min.mpr ⟨hb, k⟩), Nat.zero_add]
    · rw [Array.getElem?_eq_none (Nat.le_of_not_lt k), Array.getElem?_eq_none]
      rw [Array.size_extract, Nat.sub_zero]
      exact Nat.le_trans (Nat.min_le_right _ _) (Nat.le_of_not_lt k)
  show (match (h.objs.extract 0 n)[b]? with | some ⟨_, _, .freed, _⟩ => none | o => o) = (match h.objs[b]? with | some ⟨_, _, .freed, _⟩ => none | o => o)
  rw [e]
theorem cut_sub {h : Heap} {n : Nat} {b : Addr} {o : Obj} (e : (cut h n).get? b = some o) : h.get? b = some o ∧ b < n := by
  have hb : b < n := by
    have z : (cut h n).objs.size ≤ n := by
      show (h.objs.extract 0 n).size ≤ n
      rw [Array.size_extract]; omega
    exact Nat.lt_of_lt_of_le (Heap.lt_size e) z
  rw [cut_lt hb] at e
  exact ⟨e, hb⟩
/-- what stands untracked from n on, but a frame and cells -/
def isCell (o : Obj) : Bool := match o.data with | .cell _ => true | _ => false
def standing (h : Heap) (n : Nat) (ok : Addr → Bool) : List (Addr × Obj) := (List.range h.objs.size).filterMap fun b => if n < b ∧ ok b = true then (h.get? b).bind fun o => if isCell o = true then none else some (b, o) else none
theorem mem_standing {h : Heap} {n : Nat} {ok : Addr → Bool} {p : Addr × Obj} : p ∈ standing h n ok ↔ n < p.1 ∧ ok p.1 = true ∧ h.get? p.1 = some p.2 ∧ isCell p.2 = false := by
  obtain ⟨b, o⟩ := p
  unfold standing
  rw [List.mem_filterMap]
  constructor
  · rintro ⟨c, hc, e⟩
    by_cases k : n < c ∧ ok c = true
    · rw [if_pos k] at e
      cases g : h.get? c with
      | none => rw [g] at e; cases e
      | some u =>
        rw [g] at e
        have e : (if isCell u = true then none else some (c, u)) = some (b, o) := e
        by_cases z : isCell u = true
        · rw [if_pos z] at e; cases e
        · rw [if_neg z] at e
          obtain ⟨rfl, rfl⟩ := Prod.mk.inj (Option.some.inj e)
          exact ⟨k.1, k.2, g, by simpa using z⟩
    · rw [if_neg k] at e; cases e
  · rintro ⟨h1, h2, h3, h4⟩
    refine ⟨b, List.mem_range.mpr (Heap.lt_size h3), ?_⟩
    have h3 : h.get? b = some o := h3
    have h4 : isCell o = false := h4
    rw [if_pos ⟨h1, h2⟩, h3]
    show (if isCell o = true then none else some (b, o)) = _
    rw [h4, if_neg Bool.false_ne_true]

theorem funs_cut {h base : Heap} {n : Nat} : ∀ {l : List Env}, (∀ b ∈ frs l, b < n) → h.FunFrames base l → (cut h n).FunFrames base l
  | [], _, _ => trivial
  | env :: r, hn, hl => by
    obtain ⟨hk, ⟨L, o, hf, hb, ho, hd⟩, hr⟩ := hl
    have hL : L < n := hn L (by unfold frs; rw [List.filterMap_cons, hf]; exact List.mem_cons_self)
    exact ⟨hk, ⟨L, o, hf, hb, by rw [cut_lt hL]; exact ho, hd⟩, funs_cut (fun b hb => hn b (by unfold frs at hb ⊢; rw [List.filterMap_cons, hf]; exact List.mem_cons_of_mem _ hb)) hr⟩

/-- a turn of a generator: its frame stands already -/
def gx (P : Program) (w : World) (K : PySem.W.Frag) (mg : Str → Option Value) (base : Heap) (N : List Str) (env : Env) (A : Around) (outer : List Env) (s : Shared) (H : Hp) : Cx where
  prog := P
  w := w
  K := K
  mg := mg
  base := base
  A := A.deeper env
  N := N
  s_0 := { s with heap := cut s.heap env.locals }
  H_0 := H
  env := env
  outer := outer
  stack := env :: outer
  ex := []
  fn := fun _ => true
  calm := true
  pn := []
  xe := fun _ _ => False

/-- a generator's frame -/
structure GEnv (base : Heap) (outer : List Env) (env : Env) : Prop where
  kind : env.scope.kind = .function
  glob : env.globals = mainGlobals
  blt : env.builtins = builtinsNs
  fr : env.frame = some env.locals
  inj : ∀ x y c, env.cells.lookup x = some c → env.cells.lookup y = some c → x = y
  has : ∀ x, (env.kindOf x = some .cell ∨ env.kindOf x = some .free) → ∃ c, env.cells.lookup x = some c
  cab : ∀ x c, env.cells.lookup x = some c → env.locals ≤ c
  base : base.objs.size ≤ env.locals
  old : ∀ b ∈ frs outer, b < env.locals

section
variable {P : Program} {w : World} {K : PySem.W.Frag} {mg : Str → Option Value} {base : Heap} {N : List Str} {env : Env} {A : Around} {outer : List Env} {s : Shared} {H : Hp} {σ : L2.St}
theorem gx_ok (g : GEnv base outer env) (hd : A.handled = none) (e0 : Env0 P w K mg base A outer s H) (hs : env.locals ≤ s.heap.objs.size) : (gx P w K mg base N env A outer s H).Ok where
  mod := e0.mod
  kind := g.kind
  glob := g.glob
  blt := g.blt
  above := Nat.le_of_eq (cut_size hs)
  inj := g.inj
  has := g.has
  cab := fun x c _ h => by show (cut s.heap env.locals).objs.size ≤ c; rw [cut_size hs]; exact g.cab x c h
  hd := fun _ => hd
  frames := Around.frames_deeper e0.frames
  stk := .inr ⟨rfl, g.fr⟩
  exf := fun b hb => absurd (show b ∈ ([] : List Addr) from hb) (by simp)
  bs := fun b o e => ⟨by
    show (cut s.heap env.locals).get? b = some o
    rw [cut_lt (Nat.lt_of_lt_of_le (Heap.lt_size e) g.base)]
    exact (e0.bs b o e).1, (e0.bs b o e).2⟩
  bsz := by show base.objs.size ≤ (cut s.heap env.locals).objs.size; rw [cut_size hs]; exact g.base
  noex := fun b _ _ hb => absurd (show b ∈ ([] : List Addr) from hb) (by simp)
  exfs := fun b hb => absurd (show b ∈ ([] : List Addr) from hb) (by simp)
  funs := funs_cut g.old e0.funs
  frf := e0.frf
/-- a turn begins -/
theorem gx_start {m : Str → Option Value} (g : GEnv base outer env) (hd : A.handled = none) (e0 : Env0 P w K mg base A outer s H) (hn : s.heap.Ns env.locals m) (hl : H env.locals = none) (hlen : σ.length = N.length)
    (hv : ∀ (i : Nat) (x : Str) (v : V), N[i]? = some x → σ[i]? = some (some v) → Vis env.scope x → ∃ u, RelV v u ∧ Look env s.heap m x u) (hc : ∀ x c, env.cells.lookup x = some c → (∃ v, s.heap.IsCell c v) ∧ H c = none) :
    Inv (gx P w K mg base N env A outer s H) (standing s.heap env.locals fun b => (H b).isNone) σ H s where
  ok := gx_ok g hd e0 (Nat.le_of_lt hn.lt)
  os := rfl
  bare := e0.bare
  base := Un.kept fun b o e => (cut_sub e).1
  loc := ⟨m, hn, hv⟩
  cell := fun x c e => (hc x c e).1
  free := hl
  freeC := fun x c e => (hc x c e).2
  pin := fun p hp => by
    have hp : p ∈ standing s.heap env.locals fun b => (H b).isNone := (List.mem_append.mp hp).elim (fun z => absurd (show p ∈ ([] : List (Addr × Obj)) from z) (by simp)) id
    obtain ⟨h1, h2, h3, h4⟩ := mem_standing.mp hp
    refine ⟨h3, Option.isNone_iff_eq_none.mp h2, Nat.ne_of_gt h1, fun hm => absurd (Nat.lt_trans h1 (g.old _ hm)) (Nat.lt_irrefl _), fun v e => ?_⟩
    unfold isCell at h4
    rw [e] at h4
    cases h4
  hok := e0.hok
  len := hlen
/-- what a turn leaves as it was -/
theorem gx_kept {s1 : Shared} {H1 : Hp} (I : Inv (gx P w K mg base N env A outer s H) (standing s.heap env.locals fun b => (H b).isNone) σ H1 s1) {b : Addr} {o : Obj} (e : s.heap.get? b = some o) (hH : H b = none) (hb : b ≠ env.locals) (hf : b ∉ frs outer)
    (hc : b < env.locals ∨ isCell o = false) : s1.heap.get? b = some o := by
  by_cases hlt : b < env.locals
  · exact I.base.keep b o (by show (cut s.heap env.locals).get? b = some o; rw [cut_lt hlt]; exact e) hH hf (by show b ∉ ([] : List Addr); simp)
  · have hc : isCell o = false := hc.elim (fun z => absurd z hlt) id
    exact (I.pin (b, o) (List.mem_append_right _ (mem_standing.mpr ⟨Nat.lt_of_le_of_ne (Nat.le_of_not_lt hlt) (Ne.symm hb), by show (H b).isNone = true; rw [hH]; rfl, e, hc⟩))).1
theorem gx_slot {s1 : Shared} {H1 : Hp} (g : GEnv base outer env) (I : Inv (gx P w K mg base N env A outer s H) (standing s.heap env.locals fun b => (H b).isNone) σ H1 s1) {b : Addr} {o : Obj} (e : s.heap.get? b = some o) (hH : H b = none) (hf : b ∈ frs outer) :
    ∃ sl, s1.heap.get? b = some { o with slots := sl } :=
  I.base.slot b o (by show (cut s.heap env.locals).get? b = some o; rw [cut_lt (g.old b hf)]; exact e) hH hf (by show b ∉ ([] : List Addr); simp)
end

/-! ### a part of the tracked things -/
def simpleO : HO → Bool
  | .ins _ _ _ => true
  | .own _ => true
  | .dK _ => true
  | .lst _ => true
  | .tup _ => true
  | .frz _ (.tup _) => true
  | _ => false
theorem ObjOk.part {P : Program} {w : World} {H H2 : Hp} {h h' : Heap} {a : Addr} {o : HO} (k : simpleO o = true) (x : ObjOk P w H h a o) (y : ObjOk P w H2 h' a o) : ObjOk P w H h' a o := by
  cases o with
  | ins C dx fs =>
    obtain ⟨d, _⟩ := x
    obtain ⟨_, r⟩ := y
    exact ⟨d, r⟩
  | lst xs => exact y
  | tup xs => exact y
  | dK kvs => exact y
  | own b => exact y
  | frz ob u =>
    cases u with
    | tup xs => exact y
    | _ => cases k
  | _ => cases k
/-- lists, tuples, dicts of simple keys, instances with their dicts -/
def core (H : Hp) : Hp := fun b => match H b with
  | some (.own a) => match H a with
    | some (.ins C dx fs) => some (.own a)
    | _ => none
  | some o => if simpleO o = true then some o else none
  | none => none
theorem core_sub {H : Hp} {b : Addr} {o : HO} (h : core H b = some o) : H b = some o ∧ simpleO o = true := by
  unfold core at h
  cases e : H b with
  | none => rw [e] at h; cases h
  | some u =>
    rw [e] at h
    cases u with
    | own a =>
      cases f : H a with
      | none => simp only [f] at h; cases h
      | some v => cases v <;> simp only [f] at h <;> cases h <;> exact ⟨rfl, rfl⟩
    | frz ob u => cases u <;> simp only [simpleO, if_true, if_false, Bool.false_eq_true] at h <;> cases h <;> exact ⟨rfl, rfl⟩
    | _ => simp only [simpleO, if_true, if_false, Bool.false_eq_true] at h <;> cases h <;> exact ⟨rfl, rfl⟩
theorem core_at {H : Hp} {b : Addr} {o : HO} (h : H b = some o) (k : simpleO o = true) (n : ∀ a, o ≠ .own a) : core H b = some o := by
  unfold core
  rw [h]
  cases o with
  | own a => exact absurd rfl (n a)
  | frz ob u => cases u <;> first | rfl | cases k
  | _ => first | rfl | cases k
theorem core_own {H : Hp} {a dx : Addr} (h : core H dx = some (.own a)) : ∃ o, core H a = some o := by
  unfold core at h
  cases e : H dx with
  | none => rw [e] at h; cases h
  | some u =>
    rw [e] at h
    cases u with
    | own a' =>
      cases f : H a' with
      | none => simp only [f] at h; cases h
      | some v =>
        cases v with
        | ins C d fs =>
          simp only [f] at h
          cases h
          exact ⟨_, core_at f rfl fun _ z => by cases z⟩
        | _ => simp only [f] at h; cases h
    | frz ob u => cases u <;> simp only [simpleO, if_true, if_false, Bool.false_eq_true] at h <;> cases h
    | _ => simp only [simpleO, if_true, if_false, Bool.false_eq_true] at h <;> cases h
theorem core_ok {P : Program} {w : World} {H : Hp} {h : Heap} (k : HOk P w H h) : HOk P w (core H) h := fun a o e => by
  obtain ⟨e1, s⟩ := core_sub e
  have x := k a o e1
  cases o with
  | ins C dx fs =>
    obtain ⟨d, r⟩ := x
    refine ⟨?_, r⟩
    unfold core
    rw [d]
    simp only [e1]
  | lst xs => exact x
  | tup xs => exact x
  | dK kvs => exact x
  | own b => exact x
  | frz ob u =>
    cases u with
    | tup xs => exact x
    | _ => cases s
  | _ => cases s
theorem core_ext {H : Hp} : Ext (core H) H := fun b o h => (core_sub h).1
end K9
set_option Elab.async false
set_option linter.all false
set_option maxRecDepth 100000
set_option maxHeartbeats 2000000
/-! G2: a generator's run and its consumer: what each leaves to the other. -/
namespace K9
open PySem PySem.Spec PyProof.Rows L2
/-- a tuple of two ints, raw -/
def IsT (P : Program) (w : World) (h : Heap) (t : Addr) (q : Nat × Int) : Prop := ObjOk P w (fun _ => none) h t (.tup [.int q.1, .int q.2])
theorem obj_has {P : Program} {w : World} {H : Hp} {h : Heap} {a : Addr} {o : HO} (x : ObjOk P w H h a o) : ∃ u, h.get? a = some u := by
  cases o with
  | lst xs => obtain ⟨_, _, _, _, e⟩ := x; exact ⟨_, e⟩
  | tup xs => obtain ⟨_, _, _, u, e, _⟩ := x; exact ⟨u, e⟩
  | dK kvs => obtain ⟨_, _, _, _, o, _, _, e, _⟩ := x; exact ⟨_, e⟩
  | dT kvs => obtain ⟨_, _, _, _, o, _, _, e, _⟩ := x; exact ⟨_, e⟩
  | set S n => obtain ⟨o, _, _, _, e, _⟩ := x; exact ⟨_, e⟩
  | ins C dx fs => obtain ⟨_, _, _, e, _⟩ := x; exact ⟨_, e⟩
  | own y => exact x
  | xd fs => obtain ⟨_, ⟨_, _, _, e, _⟩, _⟩ := x; exact ⟨_, e⟩
  | rng lo hi => obtain ⟨_, _, _, e⟩ := x; exact ⟨_, e⟩
  | frz ob u => obtain ⟨e, _⟩ := x; exact ⟨_, e⟩
  | tbl ps => exact ⟨_, show h.get? a = some _ from x⟩
  | met f y => exact ⟨_, show h.get? a = some _ from x⟩
  | ext φ => obtain ⟨_, h, _⟩ := x; exact h
theorem vals_inj : ∀ {a b : List Int} {us : List Value}, Vals (a.map V.int) us → Vals (b.map V.int) us → a = b
  | [], [], _, _, _ => rfl
  | [], _ :: _, _, x, y => by cases x; cases y
  | _ :: _, [], _, x, y => by cases y; cases x
  | a :: as, b :: bs, us, x, y => by
    obtain _ | ⟨r, x⟩ := x
    obtain _ | ⟨r', y⟩ := y
    obtain ⟨t, e⟩ : ∃ t, _ = Value.int a t := r
    obtain ⟨t', e'⟩ : ∃ t, _ = Value.int b t := r'
    rw [e] at e'
    cases e'
    rw [vals_inj x y]
theorem IsT.uniq {P : Program} {w : World} {h : Heap} {t : Addr} {q q' : Nat × Int} (x : IsT P w h t q) (y : IsT P w h t q') : q = q' := by
  obtain ⟨_, its, r, o, ho, hc, n, hd⟩ := x
  obtain ⟨_, its', r', o', ho', hc', n', hd'⟩ := y
  rw [ho] at ho'
  cases ho'
  rw [hd] at hd'
  have e : its = its' := by
    have : its.toArray = its'.toArray := by injection hd'
    simpa using this
  subst e
  have := vals_inj (a := [(q.1 : Int), q.2]) (b := [(q'.1 : Int), q'.2]) r r'
  injection this with h1 h2
  injection h2 with h2 _
  exact Prod.ext (by omega) h2
/-- what is the same through the whole run: HF: what the generator leans on; Dm: what the consumer tracks; OW: the consumer's own frame; E: what nobody changes -/
structure Gn where
  P : Program
  w : World
  K : PySem.W.Frag
  mg : Str → Option Value
  base : Heap
  N : List Str
  env : Env
  outer : List Env
  HF : Hp
  Dm : Addr → Prop
  OW : List Addr
  E : Addr → Option Obj
structure Gn.Ok (G : Gn) : Prop where
  env : GEnv G.base G.outer G.env
  simple : ∀ b o, G.HF b = some o → simpleO o = true
  own : ∀ dx a, G.HF dx = some (.own a) → ∃ o, G.HF a = some o
  dm : ∀ b o, G.HF b = some o → G.Dm b
  ow : ∀ b ∈ G.OW, G.base.get? b = none ∧ b ∉ frs G.outer ∧ b ≠ G.env.locals ∧ ∀ x c, G.env.cells.lookup x = some c → c ≠ b
  dl : ¬ G.Dm G.env.locals ∧ ∀ x c, G.env.cells.lookup x = some c → ¬ G.Dm c
  e : ∀ b o, G.E b = some o → ¬ G.Dm b ∧ b ∉ G.OW ∧ b ∉ frs G.outer ∧ b ≠ G.env.locals ∧ (∀ x c, G.env.cells.lookup x = some c → c ≠ b) ∧ (b < G.env.locals ∨ isCell o = false)
/-- the state as the consumer leaves it -/
structure Gn.Rest (G : Gn) (s : Shared) : Prop where
  ex : ∃ H, HOk G.P G.w H s.heap ∧ Ext G.HF H ∧ (∀ b, G.Dm b ↔ H b ≠ none) ∧ Mod G.K G.mg G.base ∧ (∀ b o, G.base.get? b = some o → s.heap.get? b = some o ∧ H b = none) ∧ (∀ b ∈ frs G.outer, H b = none)
  bsz : G.base.objs.size ≤ s.heap.objs.size
  funs : s.heap.FunFrames G.base G.outer
  bare : AllBare s.gens
  hf : HOk G.P G.w G.HF s.heap
  e : ∀ b o, G.E b = some o → s.heap.get? b = some o
  ow : ∀ b ∈ G.OW, ∃ o, s.heap.get? b = some o
/-- the consumer's step -/
structure Gn.Woke (G : Gn) (s s' : Shared) : Prop where
  rest : G.Rest s'
  os : s'.os = s.os
  keep : ∀ b o, ¬ G.Dm b → b ∉ G.OW → b ∉ frs G.outer → s.heap.get? b = some o → s'.heap.get? b = some o
/-- the generator's step -/
structure Gn.Kp (G : Gn) (s s' : Shared) : Prop where
  os : s'.os = s.os
  bare : AllBare s'.gens
  hf : HOk G.P G.w G.HF s'.heap
  e : ∀ b o, G.E b = some o → s'.heap.get? b = some o
  dm : ∀ b o, (G.Dm b ∨ b ∈ G.OW) → G.HF b = none → s.heap.get? b = some o → s'.heap.get? b = some o
  slot : ∀ b o, b ∈ frs G.outer → s.heap.get? b = some o → ∃ sl, s'.heap.get? b = some { o with slots := sl }
  tup : ∀ t q, ¬ G.Dm t → t ∉ G.OW → t ∉ frs G.outer → t ≠ G.env.locals → IsT G.P G.w s.heap t q → IsT G.P G.w s'.heap t q
  lim : s'.heap.NoLimit
abbrev Pl := List (Addr × (Nat × Int))
/-- a thing of the generator's own -/
structure Gn.PB (G : Gn) (b : Addr) : Prop where
  hf : G.HF b = none
  dm : ¬ G.Dm b
  ow : b ∉ G.OW
  fr : b ∉ frs G.outer
  l : b ≠ G.env.locals
  c : ∀ x c, G.env.cells.lookup x = some c → c ≠ b
  bs : G.base.get? b = none
  e : G.E b = none
/-- the waiting list and its tuples -/
structure Gn.Pv (G : Gn) (aw : Option Addr) (pl : Pl) (h : Heap) : Prop where
  a : ∀ a, aw = some a → G.PB a ∧ ObjOk G.P G.w (fun _ => none) h a (.lst (pl.map fun q => V.ref q.1).reverse)
  t : ∀ q ∈ pl, G.PB q.1 ∧ aw ≠ some q.1 ∧ IsT G.P G.w h q.1 q.2
open Classical in
/-- what the generator tracks as its turn begins -/
noncomputable def Gn.hg (G : Gn) (h : Heap) (aw : Option Addr) (pl : Pl) : Hp := fun b =>
  match G.HF b with
  | some o => some o
  | none => if G.Dm b ∨ b ∈ G.OW then (h.get? b).map fun o => .ext fun h' => h'.get? b = some o
    else if aw = some b then some (.lst (pl.map fun q => V.ref q.1).reverse)
    else (pl.lookup b).map fun q => .tup [.int q.1, .int q.2]
section
variable {G : Gn} {h : Heap} {aw : Option Addr} {pl : Pl} {s s' s1 : Shared} {H H1 : Hp} {σ : L2.St}
theorem hg_f {b : Addr} {o : HO} (e : G.HF b = some o) : G.hg h aw pl b = some o := by unfold Gn.hg; rw [e]
theorem hg_ext : Ext G.HF (G.hg h aw pl) := fun _ _ e => hg_f e
theorem hg_d {b : Addr} {o : Obj} (e : G.HF b = none) (d : G.Dm b ∨ b ∈ G.OW) (g : h.get? b = some o) : G.hg h aw pl b = some (.ext fun h' => h'.get? b = some o) := by
  unfold Gn.hg; rw [e]; simp only []; rw [if_pos d, g]; rfl
theorem hg_p {b : Addr} (p : G.PB b) : G.hg h aw pl b = if aw = some b then some (.lst (pl.map fun q => V.ref q.1).reverse) else (pl.lookup b).map fun q => .tup [.int q.1, .int q.2] := by
  unfold Gn.hg; rw [p.hf]; simp only []; rw [if_neg fun z => z.elim p.dm p.ow]
theorem hg_a {a : Addr} (v : G.Pv aw pl h) (e : aw = some a) : G.hg h aw pl a = some (.lst (pl.map fun q => V.ref q.1).reverse) := by
  rw [hg_p (v.a a e).1, if_pos e]
theorem lookup_mem' {α β : Type} [BEq α] [LawfulBEq α] : ∀ {l : List (α × β)} {a : α} {b : β}, l.lookup a = some b → (a, b) ∈ l
  | [], _, _, h => by cases h
  | (x, y) :: l, a, b, h => by
    rw [List.lookup_cons] at h
    by_cases e : a == x
    · rw [e] at h
      simp only [Option.some.injEq] at h
      rw [eq_of_beq e, h]
      exact List.mem_cons_self
    · rw [Bool.not_eq_true] at e
      rw [e] at h
      exact List.mem_cons_of_mem _ (lookup_mem' h)
theorem mem_lookup {α β : Type} [BEq α] [LawfulBEq α] : ∀ {l : List (α × β)} {a : α} {b : β}, (a, b) ∈ l → ∃ b', l.lookup a = some b'
  | (x, y) :: l, a, b, h => by
    rw [List.lookup_cons]
    by_cases e : a == x
    · rw [e]; exact ⟨y, rfl⟩
    · rw [Bool.not_eq_true] at e
      rw [e]
      rcases List.mem_cons.mp h with z | z
      · cases z; simp at e
      · exact mem_lookup z
theorem hg_t {q : Addr × (Nat × Int)} (v : G.Pv aw pl h) (hq : q ∈ pl) : G.hg h aw pl q.1 = some (.tup [.int q.2.1, .int q.2.2]) := by
  obtain ⟨p, na, ht⟩ := v.t q hq
  rw [hg_p p, if_neg na]
  obtain ⟨b', e⟩ := mem_lookup (l := pl) (a := q.1) (b := q.2) hq
  rw [e]
  obtain ⟨_, _, ht'⟩ := v.t _ (lookup_mem' e)
  have z : b' = q.2 := ht'.uniq ht
  rw [z]; rfl
/-- what it tracks: of one of four kinds -/
theorem hg_cases {b : Addr} {o : HO} (e : G.hg h aw pl b = some o) : G.HF b = some o ∨ (G.HF b = none ∧ (G.Dm b ∨ b ∈ G.OW) ∧ ∃ u, h.get? b = some u ∧ o = .ext fun h' => h'.get? b = some u) ∨
    (aw = some b ∧ o = .lst (pl.map fun q => V.ref q.1).reverse) ∨ ∃ q, (b, q) ∈ pl ∧ o = .tup [.int q.1, .int q.2] := by
  unfold Gn.hg at e
  cases f : G.HF b with
  | some u => rw [f] at e; exact .inl e
  | none =>
    rw [f] at e
    simp only [] at e
    by_cases d : G.Dm b ∨ b ∈ G.OW
    · rw [if_pos d] at e
      cases g : h.get? b with
      | none => rw [g] at e; cases e
      | some u => rw [g] at e; cases e; exact .inr (.inl ⟨rfl, d, u, rfl, rfl⟩)
    · rw [if_neg d] at e
      by_cases k : aw = some b
      · rw [if_pos k] at e; cases e; exact .inr (.inr (.inl ⟨k, rfl⟩))
      · rw [if_neg k] at e
        cases g : pl.lookup b with
        | none => rw [g] at e; cases e
        | some q => rw [g] at e; cases e; exact .inr (.inr (.inr ⟨q, lookup_mem' g, rfl⟩))
theorem hg_none {b : Addr} (h1 : ¬ G.Dm b) (k : G.Ok) (h2 : b ∉ G.OW) (h3 : aw ≠ some b) (h4 : ∀ q, (b, q) ∉ pl) : G.hg h aw pl b = none := by
  cases e : G.hg h aw pl b with
  | none => rfl
  | some o =>
    rcases hg_cases e with z | ⟨_, z, _⟩ | ⟨z, _⟩ | ⟨q, z, _⟩
    · exact absurd (k.dm _ _ z) h1
    · exact (z.elim h1 h2).elim
    · exact absurd z h3
    · exact absurd z (h4 q)
theorem hg_ok (hf : HOk G.P G.w G.HF h) (v : G.Pv aw pl h) : HOk G.P G.w (G.hg h aw pl) h := fun b o e => by
  rcases hg_cases e with z | ⟨_, _, u, g, rfl⟩ | ⟨z, rfl⟩ | ⟨q, z, rfl⟩
  · exact (hf b o z).stay (fun _ _ _ q => q) (fun _ q => hg_f q) fun _ _ q => hg_f q
  · exact ⟨g, ⟨u, g⟩, fun h1 h2 a k => k _ a⟩
  · exact (v.a b z).2
  · exact (v.t _ z).2.2
/-- it is at rest: the state of a turn's beginning -/
theorem rest_env0 {A : Around} (k : G.Ok) (r : G.Rest s) (v : G.Pv aw pl s.heap) (hA : A.frames = some G.outer) : Env0 G.P G.w G.K G.mg G.base A G.outer s (G.hg s.heap aw pl) := by
  obtain ⟨H, hok, ext, dm, mod, bs, frf⟩ := r.ex
  have no : ∀ b, ¬ G.Dm b ↔ H b = none := fun b => by rw [dm b]; exact ⟨fun z => Classical.byContradiction z, fun z y => y z⟩
  refine ⟨hA, mod, fun b o e => ⟨(bs b o e).1, ?_⟩, r.bsz, r.funs, fun b hb => ?_, hg_ok r.hf v, r.bare⟩
  · refine hg_none ((no b).mpr (bs b o e).2) k (fun z => ?_) (fun z => ?_) fun q z => ?_
    · rw [(k.ow b z).1] at e; cases e
    · rw [(v.a b z).1.bs] at e; cases e
    · rw [(v.t _ z).1.bs] at e; cases e
  · exact hg_none ((no b).mpr (frf b hb)) k (fun z => (k.ow b z).2.1 hb) (fun z => (v.a b z).1.fr hb) fun q z => (v.t _ z).1.fr hb
/-- a turn's context -/
noncomputable abbrev Gn.cx (G : Gn) (A : Around) (s : Shared) (aw : Option Addr) (pl : Pl) : Cx := gx G.P G.w G.K G.mg G.base G.N G.env A G.outer s (G.hg s.heap aw pl)
noncomputable abbrev Gn.pins (G : Gn) (s : Shared) (aw : Option Addr) (pl : Pl) : List (Addr × Obj) := standing s.heap G.env.locals fun b => (G.hg s.heap aw pl b).isNone
theorem Gn.hg_l (k : G.Ok) (v : G.Pv aw pl h) (f : G.env.locals ∉ frs G.outer) : G.hg h aw pl G.env.locals = none :=
  hg_none k.dl.1 k (fun z => (k.ow _ z).2.2.1 rfl) (fun z => (v.a _ z).1.l rfl) fun q z => (v.t _ z).1.l rfl
theorem Gn.hg_c (k : G.Ok) (v : G.Pv aw pl h) {x : Str} {c : Addr} (e : G.env.cells.lookup x = some c) : G.hg h aw pl c = none :=
  hg_none (k.dl.2 x c e) k (fun z => (k.ow _ z).2.2.2 x c e rfl) (fun z => (v.a _ z).1.c x c e rfl) fun q z => (v.t _ z).1.c x c e rfl
/-- woken: its next turn begins -/
theorem woken {A A' : Around} {sI : Shared} {aw0 : Option Addr} {pl0 : Pl} (k : G.Ok) (hd : A'.handled = none) (hA : A'.frames = some G.outer) (I : Inv (G.cx A sI aw0 pl0) (G.pins sI aw0 pl0) σ H s) (z : G.Woke s s') (v : G.Pv aw pl s.heap) :
    Inv (G.cx A' s' aw pl) (G.pins s' aw pl) σ (G.hg s'.heap aw pl) s' ∧ G.Pv aw pl s'.heap := by
  have lo : G.env.locals ∉ frs G.outer := fun hm => absurd (k.env.old _ hm) (Nat.lt_irrefl _)
  have kp : ∀ b o, G.PB b → s.heap.get? b = some o → s'.heap.get? b = some o := fun b o p e => z.keep b o p.dm p.ow p.fr e
  have v' : G.Pv aw pl s'.heap := by
    refine ⟨fun a e => ⟨(v.a a e).1, ?_⟩, fun q hq => ⟨(v.t q hq).1, (v.t q hq).2.1, ?_⟩⟩
    · refine (v.a a e).2.stay (fun b u hb y => kp b u ?_ y) (fun _ q => q) fun _ _ q => q
      rcases hb with rfl | hb
      · exact (v.a _ e).1
      · cases hb
    · refine (v.t q hq).2.2.stay (fun b u hb y => kp b u ?_ y) (fun _ q => q) fun _ _ q => q
      rcases hb with rfl | hb
      · exact (v.t q hq).1
      · cases hb
  have kl : ∀ o, s.heap.get? G.env.locals = some o → s'.heap.get? G.env.locals = some o := fun o e => z.keep _ o k.dl.1 (fun q => (k.ow _ q).2.2.1 rfl) lo e
  have kc : ∀ x c, G.env.cells.lookup x = some c → ∀ o, s.heap.get? c = some o → s'.heap.get? c = some o := fun x c e o g => by
    refine z.keep _ o (k.dl.2 x c e) (fun q => (k.ow _ q).2.2.2 x c e rfl) (fun hm => ?_) g
    exact absurd (Nat.lt_of_le_of_lt (k.env.cab x c e) (k.env.old _ hm)) (Nat.lt_irrefl _)
  obtain ⟨m, ⟨o, es, ep, ho, r⟩, hl⟩ := I.loc
  refine ⟨gx_start (m := m) k.env hd (rest_env0 k z.rest v' hA) ⟨o, es, ep, kl o ho, r⟩ (Gn.hg_l k v' lo) I.len (fun i x u h1 h2 h3 => ?_) fun x c e => ⟨?_, Gn.hg_c k v' e⟩, v'⟩
  · obtain ⟨y, r1, l⟩ := hl i x u h1 h2 h3
    refine ⟨y, r1, ?_⟩
    rcases l with l | ⟨hk, c, hc, o, hco, hd⟩
    · exact .inl l
    · exact .inr ⟨hk, c, hc, o, kc x c hc o hco, hd⟩
  · obtain ⟨u, o, ho, hd⟩ := I.cell x c e
    exact ⟨u, o, kc x c e o ho, hd⟩
/-- a turn: what the consumer finds -/
theorem kept {A : Around} {sI : Shared} (k : G.Ok) (r : G.Rest sI) (v : G.Pv aw pl sI.heap) (I : Inv (G.cx A sI aw pl) (G.pins sI aw pl) σ H s) (e : ∀ b o, aw ≠ some b → G.hg sI.heap aw pl b = some o → H b = some o) : G.Kp sI s := by
  have naw : ∀ b, G.Dm b ∨ b ∈ G.OW → aw ≠ some b := fun b d y => d.elim (v.a b y).1.dm (v.a b y).1.ow
  have nPl : ∀ b q, G.Dm b ∨ b ∈ G.OW → (b, q) ∉ pl := fun b q d y => d.elim (v.t _ y).1.dm (v.t _ y).1.ow
  refine ⟨I.os, I.bare, fun b o hb => ?_, fun b o hb => ?_, fun b o d hf hb => ?_, fun b o hf hb => ?_, fun t q h1 h2 h3 h4 x => ?_, I.nolimit⟩
  · have z : H b = some o := e b o (naw b (.inl (k.dm b o hb))) (hg_f hb)
    exact K9.ObjOk.part (k.simple b o hb) (r.hf b o hb) (I.hok b o z)
  · obtain ⟨e1, e2, e3, e4, e5, e6⟩ := k.e b o hb
    have eo := r.e b o hb
    have hn : G.hg sI.heap aw pl b = none := hg_none e1 k e2 (fun y => by have := (v.a b y).1.e; rw [hb] at this; cases this) fun q y => by have := (v.t _ y).1.e; rw [hb] at this; cases this
    exact gx_kept I eo hn e4 e3 e6
  · have z := e b _ (naw b d) (hg_d (aw := aw) (pl := pl) hf d hb)
    exact (I.hok b _ z).1
  · exact gx_slot k.env I hb (I.ok.frf b hf) hf
  · cases c : G.hg sI.heap aw pl t with
    | none =>
      refine x.stay (fun b u hb y => ?_) (fun _ q => q) fun _ _ q => q
      rcases hb with rfl | hb
      · obtain ⟨_, its, _, o, ho, _, n, hd⟩ := id x
        rw [y] at ho
        cases ho
        exact gx_kept I y c h4 h3 (.inr (by unfold isCell; rw [hd]))
      · cases hb
    | some u =>
      rcases hg_cases c with y | ⟨_, y, _⟩ | ⟨y, rfl⟩ | ⟨q', y, rfl⟩
      · exact absurd (k.dm _ _ y) h1
      · exact (y.elim h1 h2).elim
      · exfalso
        obtain ⟨_, its, n, _, eo⟩ := (v.a t y).2
        obtain ⟨_, _, _, o, ho, hc, _⟩ := x
        rw [eo] at ho
        cases ho
        injection hc with hc
        exact absurd hc (by decide)
      · obtain ⟨_, nq, ht⟩ := v.t _ y
        rw [x.uniq ht]
        exact I.hok t _ (e t _ nq (hg_t v y))
/-- what became tracked in the turn is the generator's own -/
theorem newPB {A : Around} {sI : Shared} (k : G.Ok) (r : G.Rest sI) (I : Inv (G.cx A sI aw pl) (G.pins sI aw pl) σ H s) {b : Addr} {o : HO} (h0 : G.hg sI.heap aw pl b = none) (h1 : H b = some o) : G.PB b := by
  have nn : H b ≠ none := fun z => by rw [h1] at z; cases z
  have hf : G.HF b = none := by
    cases c : G.HF b with
    | none => rfl
    | some u => rw [hg_f c] at h0; cases h0
  have nd : ∀ o, (G.Dm b ∨ b ∈ G.OW) → sI.heap.get? b = some o → False := fun o d e => by rw [hg_d hf d e] at h0; cases h0
  have l : b ≠ G.env.locals := fun z => nn (by rw [z]; exact I.free)
  have fr : b ∉ frs G.outer := fun hb => nn (I.stkFree b (by
    show b ∈ frs (G.env :: G.outer)
    unfold frs at hb ⊢
    rw [List.filterMap_cons, k.env.fr]
    exact List.mem_cons_of_mem _ hb))
  refine ⟨hf, fun d => ?_, fun d => ?_, fr, l, fun x c e z => nn (by rw [← z]; exact I.freeC x c e), ?_, ?_⟩
  · obtain ⟨H', hok, _, dm, _⟩ := r.ex
    cases c : H' b with
    | none => exact (dm b).mp d c
    | some u =>
      obtain ⟨y, e⟩ := obj_has (hok b u c)
      exact nd y (.inl d) e
  · obtain ⟨u, e⟩ := r.ow b d
    exact nd u (.inr d) e
  · cases c : G.base.get? b with
    | none => rfl
    | some u => exact absurd (I.bs b u c).2 nn
  · cases c : G.E b with
    | none => rfl
    | some u =>
      exfalso
      obtain ⟨e1, e2, e3, e4, e5, e6⟩ := k.e b u c
      have eo := r.e b u c
      by_cases hlt : b < G.env.locals
      · exact nn (I.base.free b u (by show (cut sI.heap G.env.locals).get? b = some u; rw [cut_lt hlt]; exact eo) h0 (by show b ∉ ([] : List Addr); simp))
      · exact nn (I.pin (b, u) (List.mem_append_right _ (mem_standing.mpr ⟨Nat.lt_of_le_of_ne (Nat.le_of_not_lt hlt) (Ne.symm e4), by show (G.hg sI.heap aw pl b).isNone = true; rw [h0]; rfl, eo, e6.elim (fun z => absurd z hlt) id⟩))).2.1
end
end K9
set_option Elab.async false
set_option linter.all false
set_option maxRecDepth 100000
set_option maxHeartbeats 4000000
/-! WG: the walk of the trees, turn by turn. -/
namespace K9
open PySem PySem.Spec PyProof.Rows L2 SX
abbrev nWalk : List Str := ["self", "waiting", "number", "depth", "child"]
abbrev pWalk : List Str := ["self"]
theorem scWalk : GScope nWalk pWalk (defScope sWalk) := ⟨rfl, rfl, rfl, by decide +kernel, rfl, by decide +kernel, by decide +kernel⟩
abbrev bWalk : List Stmt := defBody sWalk
def sW1 : Stmt := match bWalk with | [a, _] => a | _ => .Pass default
def wTest : Expr := match bWalk with | [_, .While t _ _ _] => t | _ => .Name "x" default
def wPos : Pos := match bWalk with | [_, .While _ _ _ p] => p | _ => default
def sB1 : Stmt := match bWalk with | [_, .While _ [a, _, _] _ _] => a | _ => .Pass default
def sB2 : Stmt := match bWalk with | [_, .While _ [_, a, _] _ _] => a | _ => .Pass default
def wOut : Expr := match bWalk with | [_, .While _ [_, _, .Expr (.Yield (some e) _) _] _ _] => e | _ => .Name "x" default
def wOuts : List Expr := match wOut with | .Tuple es _ _ => es | _ => []
def wYp : Pos := match bWalk with | [_, .While _ [_, _, .Expr (.Yield (some _) p) _] _ _] => p | _ => default
def wYq : Pos := match bWalk with | [_, .While _ [_, _, .Expr (.Yield (some _) _) p] _ _] => p | _ => default
theorem bWalk_eq : bWalk = [sW1, .While wTest [sB1, sB2, .Expr (.Yield (some wOut) wYp) wYq] [] wPos] := by rfl
/-- a pile at aw, in the heap -/
def PileAt (H : Hp) (aw : Addr) (pl : Pl) : Prop := H aw = some (.lst (pl.map fun q => V.ref q.1).reverse) ∧ ∀ q ∈ pl, H q.1 = some (.tup [.int q.2.1, .int q.2.2])
theorem outs_pile {l : List Int} {H0 H : Hp} {ys : List V} {D : Nat} (o : Outs (fun i y H => ∃ n t, l[i]? = some n ∧ y = .ref t ∧ H0 t = none ∧ H t = some (.tup [.int D, .int n])) H (List.range l.length) ys) :
    ∃ pk : Pl, ys = (pk.map fun q => V.ref q.1) ∧ pk.map (·.2) = l.map (fun n => (D, n)) ∧ ∀ q ∈ pk, H0 q.1 = none ∧ H q.1 = some (.tup [.int q.2.1, .int q.2.2]) := by
  have h := outs_list (G := fun n y => ∃ t, y = .ref t ∧ H0 t = none ∧ H t = some (.tup [.int D, .int n])) o fun i y ⟨n, t, a, b⟩ => ⟨n, a, t, b⟩
  clear o
  induction h with
  | nil => exact ⟨[], rfl, rfl, fun q hq => by cases hq⟩
  | cons a _ ih =>
    obtain ⟨t, rfl, h1, h2⟩ := a
    obtain ⟨pk, e1, e2, e3⟩ := ih
    refine ⟨(t, (D, _)) :: pk, by rw [e1]; rfl, by rw [List.map_cons, List.map_cons, e2], fun q hq => ?_⟩
    rcases List.mem_cons.mp hq with rfl | hq
    · exact ⟨h1, h2⟩
    · exact e3 q hq
section
variable {P : Program} {w : World} {K : PySem.W.Frag} {mg : Str → Option Value} {base : Heap} {cL cG cT cF f : Addr} {cdv : Value} {L : Addr} {A : Around} {outer : List Env} {s : Shared} {H0 : Hp} {k : Nat}
abbrev wEnv (L f : Addr) (cdv : Value) : Env := envOfC "Forest.walk_trees" (defScope sWalk) L f cdv
theorem rev_get {cs : List Int} {i : Nat} {x : V} (h : (cs.map V.int)[(cs.map V.int).length - 1 - i]? = some x) (hi : i < (cs.map V.int).length) : ∃ n, cs.reverse[i]? = some n ∧ x = .int n := by
  rw [List.length_map] at h hi
  rw [List.getElem?_map] at h
  rw [List.getElem?_reverse hi]
  cases e : cs[cs.length - 1 - i]? with
  | none => rw [e] at h; cases h
  | some n => rw [e] at h; cases h; exact ⟨n, rfl, rfl⟩
theorem walk_1 (T : Mo K mg cL cG cT cF) (Mr : Md P w K mg base cF 1 "roots" pFRts (spFRts K cL cF)) (hr : Room 1 (A.deeper (wEnv L f cdv))) : ∃ t, PS (gx P w K mg base nWalk (wEnv L f cdv) A outer s H0) sW1 t ∧
    ∀ (D : Ends) (fo : Addr) (S : Lts) (Fr : Frst) (H : Hp), FPre K cL cF H fo S Fr → (∀ aw pl H', Ext H H' → H aw = none → PileAt H' aw pl → pl.map (·.2) = Fr.start → (∀ q ∈ pl, H q.1 = none) → D.nx [some (.ref fo), some (.ref aw), none, none, none] H') → t D [some (.ref fo), none, none, none, none] H := by
  have hu := hu_of hr
  refine ⟨_, ps_setLc (i := 1) (y := "waiting") rfl scWalk.nd rfl rfl (by rfl) (RT.pi_revA (by rfl) T.b_reversed (pe_callTy call_list_of (by rfl) T.b_list boot_list (pa_cons (pe_m0 (pv 0) T.kF.cl Mr hr) pa_nil))) (own := [("number", 2)]) (blkOk_by (by show blkC nWalk (defScope sWalk) _ _ = true; decide +kernel))
    (fun _ _ _ _ _ => pg_name (i := 2) scWalk.nd rfl (Or.inl rfl)) (fun _ _ _ _ _ => pts_nil) (fun _ _ _ _ _ => pe_tup (pa_cons pe_int (pa_cons (pv 2) pa_nil))), fun D fo S Fr H F kk => ?_⟩
  obtain ⟨⟨Hx, D0⟩, iF⟩ := id F
  obtain ⟨dl, da, db, dr, kn, bl, rv, St, hdl, hkn, RS, hk9⟩ := D0.par
  obtain ⟨dt, hf⟩ := St.ob
  refine ⟨_, rfl, fo, dt, _, rfl, hf, rfl, fo, S, Fr, rfl, F, fun q H1 e1 hq => ?_⟩
  refine ⟨q, _, rfl, .inr (.inl (.inl hq)), fun l hl => ?_⟩
  have e2 : Ext H1 (upd H1 l (.lst (Fr.roots.map V.int))) := Ext.upd hl
  refine ⟨l, _, rfl, .inl ⟨.inl (.inl upd_same), fun aw haw => ?_⟩⟩
  generalize hH2 : upd H1 l (.lst (Fr.roots.map V.int)) = H2 at e2 haw
  have l2 : H2 l = some (.lst (Fr.roots.map V.int)) := by rw [← hH2]; exact upd_same
  have e12 := e1.trans e2
  have few : Fr.roots.length ≤ sizeLine := by
    have h1 : Fr.roots.length ≤ kn.length := nodup_le (Fr.roots_up.nodup) fun x hx => (hkn x).mpr ((iF.ks x).mp (Frst.mem_roots.mp hx).1)
    have := St.few.1
    rw [sizeLine_eq]; omega
  refine lc_eachD walk_rev (fun i y H' => ∃ n t, Fr.roots.reverse[i]? = some n ∧ y = .ref t ∧ H2 t = none ∧ H' t = some (.tup [.int ((0 : Nat) : Int), .int n]) ∧ t ≠ aw) haw (by rw [List.length_map]; exact few) (fun H e => .inl (.inl (e _ _ l2))) (fun i y H3 H4 _ e ⟨n, t, a, b, c, d, z⟩ => ⟨n, t, a, b, c, e t _ z d, z⟩) (fun i x H4 H' hi e ⟨zs, hz⟩ y A kA => ?_) (fun H5 ys e hy o => ?_)
  · obtain ⟨rfl, hx⟩ := y
    obtain ⟨n, hn, rfl⟩ := rev_get hx hi
    refine ⟨rfl, ?_⟩
    refine ⟨_, rfl, (by show 2 ≤ sizeLine; decide), fun t ht => ?_⟩
    exact kA _ _ (Ext.upd ht) ⟨n, t, hn, rfl, Ext.none e ht, upd_same, (ne_of_none hz ht).symm⟩
  · rw [List.length_map, ← List.length_reverse] at o
    obtain ⟨pk, e1', e2', e3'⟩ := outs_pile (o.imp fun i y ⟨n, t, a, b, c, d, _⟩ => ⟨n, t, a, b, c, d⟩)
    refine kk aw pk.reverse H5 (e12.trans e) (Ext.none e12 haw) ⟨?_, fun q hq => (e3' q (List.mem_reverse.mp hq)).2⟩ ?_ fun q hq => Ext.none e12 (e3' q (List.mem_reverse.mp hq)).1
    · rw [hy, e1', List.map_reverse, List.reverse_reverse]
    · rw [List.map_reverse, e2', ← List.map_reverse, List.reverse_reverse]; rfl
theorem walk_b (T : Mo K mg cL cG cT cF) (Mc : Md P w K mg base cF 1 "children" pFChi (spFChi K cL cF)) (hr : Room 1 (A.deeper (wEnv L f cdv))) : ∃ t, PSs (gx P w K mg base nWalk (wEnv L f cdv) A outer s H0) [sB1, sB2] t ∧
    ∀ (D : Ends) (fo : Addr) (S : Lts) (Fr : Frst) (HF H : Hp) (aw : Addr) (q : Addr × (Nat × Int)) (pl : Pl) (u2 u3 u4 : Option V), FPre K cL cF HF fo S Fr → Ext HF H → HF aw = none → q.2.2 ∈ Fr.ks → (q :: pl).length + (Fr.kids q.2.2).length ≤ sizeLine → PileAt H aw (q :: pl) →
    (∀ pk H', ExtB aw H H' → PileAt H' aw (pk ++ pl) → pk.map (·.2) = (Fr.kids q.2.2).map (fun c => (q.2.1 + 1, c)) → (∀ r ∈ pk, H r.1 = none) → D.nx [some (.ref fo), some (.ref aw), some (.int q.2.2), some (.int q.2.1), u4] H') → t D [some (.ref fo), some (.ref aw), u2, u3, u4] H := by
  have hu := hu_of hr
  refine ⟨_, pss_cons (ps_asg (pe_bm0 PySem.F.plainAttrs_list PySem.F.slot_list_pop PySem.F.type_list_pop mt_pop (pv 1)) (pg_tupK K 2 rfl (pgs_cons (pg_name (i := 3) scWalk.nd rfl (Or.inr rfl)) (pgs_cons (pg_name (i := 2) scWalk.nd rfl (Or.inl rfl)) pgs_nil))))
    (pss_one (ps_expr (pe_bm PySem.F.plainAttrs_list PySem.F.slot_list_extend PySem.F.type_list_extend mt_extend (pv 1) (pa_cons (pe_lc rfl scWalk.nd (RT.pi_revA (by rfl) T.b_reversed (pe_callTy call_list_of (by rfl) T.b_list boot_list (pa_cons (pe_m (pv 0) T.kF.cl Mc hr (pa_cons (pv 2) pa_nil)) pa_nil))) (own := [("child", 4)]) (blkOk_by (by show blkC nWalk (defScope sWalk) _ _ = true; decide +kernel))
      (fun _ _ _ _ _ => pg_name (i := 4) scWalk.nd rfl (Or.inl rfl)) (fun _ _ _ _ _ => pts_nil) (fun _ _ _ _ _ => pe_tup (pa_cons (pe_op op_add (pv 3) pe_int) (pa_cons (pv 4) pa_nil)))) pa_nil)))), fun D fo S Fr HF H aw q pl u2 u3 u4 F eF hF hk hsz hp kk => ?_⟩
  obtain ⟨⟨Hx, D0⟩, iF⟩ := id F
  obtain ⟨dl, da, db, dr, kn, bl, rv, St, hdl, hkn, RS, hk9⟩ := D0.par
  obtain ⟨dt, hf⟩ := St.ob
  obtain ⟨ha, ht⟩ := hp
  have hq := ht q List.mem_cons_self
  have nq : ∀ r ∈ q :: pl, r.1 ≠ aw := fun r hr => ne_of (ht r hr) ha (by intro z; cases z)
  refine ⟨_, rfl, .inl ⟨rfl, _, .inl (.inl ha)⟩, aw, _, .ref q.1, rfl, rfl, ha, ?_, ?_⟩
  · rw [List.map_cons, List.reverse_cons, List.length_append, List.length_singleton]
    simp
  have ed : ((q :: pl).map fun q => V.ref q.1).reverse.dropLast = (pl.map fun q => V.ref q.1).reverse := by rw [List.map_cons, List.reverse_cons, List.dropLast_concat]
  rw [ed]
  generalize hH1 : upd H aw (.lst (pl.map fun q => V.ref q.1).reverse) = H1
  have e01 : ExtB aw H H1 := by rw [← hH1]; exact ExtB.self ExtB.refl
  have a1 : H1 aw = some (.lst (pl.map fun q => V.ref q.1).reverse) := by rw [← hH1]; exact upd_same
  have eF1 : Ext HF H1 := fun b o e => e01 b o (ne_of_none e hF) (eF b o e)
  refine ⟨q.1, _, rfl, .inl (.inl (e01 _ _ (nq q List.mem_cons_self) hq)), rfl, _, _, rfl, _, _, rfl, rfl, ?_⟩
  refine ⟨_, rfl, .inl ⟨rfl, _, .inl (.inl a1)⟩, ?_⟩
  refine ⟨_, rfl, fo, dt, _, rfl, eF1 _ _ hf, rfl, _, rfl, fo, q.2.2, S, Fr, rfl, ⟨⟨Hx, D0.ext eF1⟩, iF⟩, hk, fun r H2 e2 hr2 => ?_⟩
  refine ⟨r, _, rfl, .inr (.inl (.inl hr2)), fun l hl => ?_⟩
  have e3 : Ext H2 (upd H2 l (.lst ((Fr.kids q.2.2).map V.int))) := Ext.upd hl
  refine ⟨l, _, rfl, .inl ⟨.inl (.inl upd_same), fun dd hdd => ?_⟩⟩
  generalize hH3 : upd H2 l (.lst ((Fr.kids q.2.2).map V.int)) = H3 at e3 hdd
  have l3 : H3 l = some (.lst ((Fr.kids q.2.2).map V.int)) := by rw [← hH3]; exact upd_same
  have e13 := e2.trans e3
  refine lc_eachD walk_rev (fun i y H' => ∃ n t, (Fr.kids q.2.2).reverse[i]? = some n ∧ y = .ref t ∧ H3 t = none ∧ H' t = some (.tup [.int ((q.2.1 + 1 : Nat) : Int), .int n]) ∧ t ≠ dd) hdd (by rw [List.length_map]; exact Nat.le_trans (Nat.le_add_left _ _) hsz) (fun H e => .inl (.inl (e _ _ l3))) (fun i y H3 H4 _ e ⟨n, t, a, b, c, d, z⟩ => ⟨n, t, a, b, c, e t _ z d, z⟩) (fun i x H4 H' hi e ⟨zs, hz⟩ y A kA => ?_) (fun H5 ys e hy o => ?_)
  · obtain ⟨rfl, hx⟩ := y
    obtain ⟨n, hn, rfl⟩ := rev_get hx hi
    refine ⟨rfl, ?_⟩
    refine ⟨_, rfl, _, _, rfl, rfl, _, rfl, (by show 2 ≤ sizeLine; decide), fun t ht => ?_⟩
    exact kA _ _ (Ext.upd ht) ⟨n, t, hn, rfl, Ext.none e ht, upd_same, (ne_of_none hz ht).symm⟩
  · rw [List.length_map, ← List.length_reverse] at o
    obtain ⟨pk, e1', e2', e3'⟩ := outs_pile (o.imp fun i y ⟨n, t, a, b, c, d, _⟩ => ⟨n, t, a, b, c, d⟩)
    have e15 := e13.trans e
    have nd : dd ≠ aw := fun z => by rw [z, e13 _ _ a1] at hdd; cases hdd
    have hlen : pk.length = (Fr.kids q.2.2).length := by have := congrArg List.length e2'; simpa using this
    have none0 : ∀ r ∈ pk, H r.1 = none := fun r hr => by
      have h1 : H1 r.1 = none := Ext.none e13 (e3' r hr).1
      have h2 : r.1 ≠ aw := fun z => by rw [z, a1] at h1; cases h1
      rw [← hH1, upd_ne h2] at h1
      exact h1
    refine ⟨aw, dd, _, _, rfl, rfl, e15 _ _ a1, hy, ?_, ?_⟩
    · rw [e1', List.length_reverse, List.length_map, List.length_map, hlen]
      rw [List.length_cons] at hsz
      omega
    refine kk pk.reverse _ (fun b o nb h => ?_) ⟨?_, fun r hr => ?_⟩ ?_ fun r hr => none0 r (List.mem_reverse.mp hr)
    · rw [upd_ne nb]; exact e15 _ _ (e01 b o nb h)
    · rw [upd_same, e1', List.map_append, List.reverse_append, List.map_reverse, List.reverse_reverse]
    · rcases List.mem_append.mp hr with hr | hr
      · have hr := List.mem_reverse.mp hr
        have z : r.1 ≠ aw := fun z => by have := none0 r hr; rw [z, ha] at this; cases this
        rw [upd_ne z]
        exact (e3' r hr).2
      · have z := nq r (List.mem_cons_of_mem _ hr)
        rw [upd_ne z]
        exact e15 _ _ (e01 _ _ z (ht r (List.mem_cons_of_mem _ hr)))
    · rw [List.map_reverse, e2', ← List.map_reverse, List.reverse_reverse]
end
end K9
set_option Elab.async false
set_option linter.all false
set_option maxRecDepth 100000
set_option maxHeartbeats 4000000
/-! WG2: the walk of the trees as a generator. -/
namespace K9
open PySem PySem.Spec PyProof.Rows L2 SX GenW
/-- an item is handed out -/
def YW (G : Gn) (zs : List (Nat × Int)) : Protocol := fun m s₀ v s kap => ∃ t q, v = .ref t ∧ m + 1 ≤ zs.length ∧ zs[zs.length - (m + 1)]? = some q ∧ IsT G.P G.w s.heap t q ∧ G.PB t ∧ G.env.locals < t ∧ G.Kp s₀ s ∧ ∀ s', G.Woke s s' → kap (.send .none) s'
def RW (G : Gn) : GenEnd := fun n s₀ r s => ((r = .ok (.ret .none) ∨ r = .ok .next) ∧ (n = 0 ∧ G.Kp s₀ s)) ∨ ∃ e, r = .error e ∧ False
theorem Walk.len {F : Frst} {st out : List (Nat × Int)} (w : K9.Walk F st out) : st.length ≤ out.length := by
  induction w with
  | nil => exact Nat.le_refl _
  | cons _ ih =>
    rw [List.length_append] at ih
    rw [List.length_cons, List.length_cons]
    omega
section
variable {P : Program} {w : World} {K : PySem.W.Frag} {mg : Str → Option Value} {base : Heap} {cL cG cT cF f : Addr} {cdv : Value} {L : Addr} {A : Around} {outer : List Env} {k : Nat} {HF : Hp} {Dm : Addr → Prop} {OW : List Addr} {E : Addr → Option Obj}
abbrev wGn (P : Program) (w : World) (K : PySem.W.Frag) (mg : Str → Option Value) (base : Heap) (L f : Addr) (cdv : Value) (outer : List Env) (HF : Hp) (Dm : Addr → Prop) (OW : List Addr) (E : Addr → Option Obj) : Gn := ⟨P, w, K, mg, base, nWalk, wEnv L f cdv, outer, HF, Dm, OW, E⟩
/-- at the loop's head, amid a turn that began at s₀ -/
structure Head (G : Gn) (A : Around) (fo aw : Addr) (s₀ s : Shared) (pl : Pl) : Prop where
  rest : G.Rest s₀
  ex : ∃ (aw0 : Option Addr) (pl0 : Pl) (H : Hp) (u2 u3 u4 : Option V), G.Pv aw0 pl0 s₀.heap ∧ Inv (G.cx A s₀ aw0 pl0) (G.pins s₀ aw0 pl0) [some (.ref fo), some (.ref aw), u2, u3, u4] H s ∧
    (∀ b o, aw0 ≠ some b → G.hg s₀.heap aw0 pl0 b = some o → H b = some o) ∧ PileAt H aw pl ∧ G.PB aw ∧ (∀ q ∈ pl, G.PB q.1) ∧ ((aw0 = none ∧ pl0 = []) ∨ aw0 = some aw)
theorem nx_flow {f : Flow} {X : Cx} {pins : List (Addr × Obj)} {N : L2.St → Hp → Prop} {s : Shared} (h : SP X pins { nx := N, rt := fun _ _ => False } f s) : f = .next ∧ ∃ σ H, Inv X pins σ H s ∧ N σ H := by
  cases f with
  | next => exact ⟨rfl, h⟩
  | brk => obtain ⟨_, _, _, z⟩ := h; exact z.elim
  | cont => obtain ⟨_, _, _, z⟩ := h; exact z.elim
  | ret u => obtain ⟨_, _, _, _, _, z⟩ := h; exact z.elim
/-- a tuple's address -/
theorem tup_run {X : Cx} {es : List Expr} {x1} {pos : Pos} {t : TA} {pins : List (Addr × Obj)} {σ : L2.St} {H : Hp} {s : Shared} {C : List V → Hp → Prop} (h : PA X es t) (I : Inv X pins σ H s) (hq : t σ H fun xs H1 => xs.length ≤ sizeLine ∧ C xs H1) :
    wpAny (model X.prog X.w) X.A (eval (.Tuple es x1 pos) X.env) (fun v s' => ∃ p xs H1, v = .ref p ∧ X.env.locals < p ∧ H1 p = none ∧ Inv X pins σ (upd H1 p (.tup xs)) s' ∧ C xs H1) X.xe s := by
  refine wpAny_Tuple_spliced (thn (h.run pos pins s σ H _ I hq) fun us s1 ⟨xs, H1, I1, r, z, q⟩ => ⟨by rw [← r.length]; exact z, ?_⟩)
  have hf : H1 s1.heap.objs.size = none := I1.hok.fresh (Nat.le_refl _)
  refine ⟨s1.heap.objs.size, xs, H1, rfl, I1.lt, hf, I1.laid (t' := s1.toks) (fun b u e => Heap.get?_push_of_some _ e) (Nat.le_refl _) ?_, q⟩
  exact ⟨z, us, r, ⟨_, Heap.get?_push_size _ rfl, rfl, _, rfl⟩⟩
theorem seg_walk (T : Mo K mg cL cG cT cF) (Mc : Md P w K mg base cF 1 "children" pFChi (spFChi K cL cF)) (hr : Room 1 (A.deeper (wEnv L f cdv))) (hfr : A.frames = some outer) {fo : Addr} {S : Lts} {Fr : Frst} {zs : List (Nat × Int)} (hz : zs.length ≤ sizeLine) {p : Pos}
    {G : Gn} (hG : G = wGn P w K mg base L f cdv outer HF Dm OW E) (ok : G.Ok) (F : FPre K cL cF HF fo S Fr) {Kf : Result → Sem PySem.Fin} (hK : ∀ s₀ s, G.Kp s₀ s → Seg (model P w) A (RW G) (YW G zs) 0 s₀ (.func bWalk (wEnv L f cdv)) (Kf (.ok .next)) [] s) :
    ∀ {st out : List (Nat × Int)}, K9.Walk Fr st out → ∀ (pl : Pl) (aw : Addr) (s₀ s : Shared), pl.map (·.2) = st → (∀ e ∈ st, e.2 ∈ Fr.ks) → out.length ≤ zs.length → out = zs.drop (zs.length - out.length) → Head G A fo aw s₀ s pl →
      Seg (model P w) A (RW G) (YW G zs) out.length s₀ (.whileLoop wTest [sB1, sB2, .Expr (.Yield (some wOut) wYp) wYq] [] (wEnv L f cdv)) ((model P w).den (.whileLoop wTest [sB1, sB2, .Expr (.Yield (some wOut) wYp) wYq] [] (wEnv L f cdv))) [.ret Kf none false [] (.func bWalk (wEnv L f cdv)) p []] s := by
  have over : A.over (.whileLoop wTest [sB1, sB2, .Expr (.Yield (some wOut) wYp) wYq] [] (wEnv L f cdv)) [.ret Kf none false [] (.func bWalk (wEnv L f cdv)) p []] = A.deeper (wEnv L f cdv) := (over_loop rfl rfl).trans over_func
  subst hG
  intro st out W
  induction W with
  | nil =>
    intro pl aw s₀ s hpl hks hlen hdr hd
    obtain rfl : pl = [] := by cases pl with | nil => rfl | cons _ _ => cases hpl
    obtain ⟨aw0, pl0, H, u2, u3, u4, v0, I, e, hp, pba, pbt, aweq⟩ := hd.ex
    have pt : PT ((wGn P w K mg base L f cdv outer HF Dm OW E).cx A s₀ aw0 pl0) wTest _ := pt_truth (pv 1) (fun _ => rfl)
    refine seg_whileLoop ?_
    rw [over]
    refine wpAny_mono (pt.run _ s _ H (fun b H' => b = false ∧ H' = H) I ⟨_, rfl, false, .inl ⟨_, .inl (.inl hp.1), rfl⟩, rfl, rfl⟩) (fun b s' ⟨H', I', hb, hH⟩ => ?_) fun x s' hx => hx.elim
    subst hb hH
    rw [if_neg Bool.false_ne_true]
    refine seg_execs_nil (seg_leaf (.ok .next) (hK _ _ ?_))
    exact kept ok hd.rest v0 I' e
  | @cons d n st out W ih =>
    intro pl aw s₀ s hpl hks hlen hdr hd
    obtain ⟨q, pl', rfl, hq, hpl'⟩ : ∃ q pl', pl = q :: pl' ∧ q.2 = (d, n) ∧ pl'.map (·.2) = st := by
      cases pl with
      | nil => cases hpl
      | cons q pl' => rw [List.map_cons] at hpl; injection hpl with h1 h2; exact ⟨q, pl', rfl, h1, h2⟩
    obtain ⟨t, d', n'⟩ := q
    obtain ⟨rfl, rfl⟩ : d = d' ∧ n = n' := by cases hq; exact ⟨rfl, rfl⟩
    obtain ⟨aw0, pl0, H, u2, u3, u4, v0, I, e, hp, pba, pbt, aweq⟩ := hd.ex
    have wl := Walk.len W
    rw [List.length_append, List.length_map] at wl
    rw [List.length_cons] at hlen
    have pt : PT ((wGn P w K mg base L f cdv outer HF Dm OW E).cx A s₀ aw0 pl0) wTest _ := pt_truth (pv 1) (fun _ => rfl)
    refine seg_whileLoop ?_
    rw [over]
    refine wpAny_mono (pt.run _ s _ H (fun b H' => b = true ∧ H' = H) I ⟨_, rfl, true, .inl ⟨_, .inl (.inl hp.1), by simp⟩, rfl, rfl⟩) (fun b s' ⟨H', I', hb, hH⟩ => ?_) fun x s' hx => hx.elim
    subst hb hH
    rw [if_pos rfl]
    show Seg _ _ _ _ _ _ _ ((execs ([sB1, sB2] ++ [.Expr (.Yield (some wOut) wYp) wYq]) (wEnv L f cdv)).wrap _ _ _ _) _ _
    rw [PySem.W.execs_app_wrap]
    refine seg_wrap ?_
    rw [over]
    obtain ⟨tb, pb, rb⟩ := walk_b (A := A) (outer := outer) (s := s₀) (H0 := (wGn P w K mg base L f cdv outer HF Dm OW E).hg s₀.heap aw0 pl0) T Mc hr
    have eF : Ext HF H' := fun b o h => e b o (fun z => by have y : HF b = none := (v0.a b z).1.hf; have h : HF b = some o := h; rw [h] at y; cases y) (hg_f h)
    have nk : n ∈ Fr.ks := hks _ List.mem_cons_self
    have hgn : ∀ b, H' b = none → (wGn P w K mg base L f cdv outer HF Dm OW E).hg s₀.heap aw0 pl0 b = none := fun b hb => by
      cases c : (wGn P w K mg base L f cdv outer HF Dm OW E).hg s₀.heap aw0 pl0 b with
      | none => rfl
      | some o =>
        exfalso
        by_cases z : aw0 = some b
        · rcases aweq with ⟨y, _⟩ | y
          · rw [y] at z; cases z
          · rw [y] at z; cases z; rw [hp.1] at hb; cases hb
        · rw [e b o z c] at hb; cases hb
    have hga : ∀ o, aw0 ≠ some aw → (wGn P w K mg base L f cdv outer HF Dm OW E).hg s₀.heap aw0 pl0 aw ≠ some o := fun o z c => by
      rcases aweq with ⟨y, y2⟩ | y
      · subst y y2
        rw [hg_p pba, if_neg z] at c
        cases c
      · exact z y
    refine wpAny_mono (pb.run _ s' _ H' { nx := fun σ2 H2 => ∃ pk, ExtB aw H' H2 ∧ PileAt H2 aw (pk ++ pl') ∧ pk.map (·.2) = (Fr.kids n).map (fun c => (d + 1, c)) ∧ (∀ r ∈ pk, H' r.1 = none) ∧ σ2 = [some (.ref fo), some (.ref aw), some (.int n), some (.int d), u4], rt := fun _ _ => False } I'
      (rb _ fo S Fr HF H' aw (t, (d, n)) pl' u2 u3 u4 F eF pba.hf nk ?_ hp fun pk H2 x1 x2 x3 x4 => ⟨pk, x1, x2, x3, x4, rfl⟩)) (fun fl s2 h2 => ?_) fun x s' hx => hx.elim
    · have l2 : pl'.length = st.length := by rw [← hpl', List.length_map]
      rw [List.length_cons, l2]
      show st.length + 1 + (Fr.kids n).length ≤ sizeLine
      omega
    obtain ⟨rfl, σ2, H2, I2, pk, x1, x2, x3, x4, rfl⟩ := nx_flow h2
    refine seg_execs_cons ?_
    refine seg_Expr_Yield rfl rfl rfl ?_
    rw [over]
    have po : PA ((wGn P w K mg base L f cdv outer HF Dm OW E).cx A s₀ aw0 pl0) wOuts _ := pa_cons (pv 3) (pa_cons (pv 2) pa_nil)
    refine wpAny_mono (tup_run (es := wOuts) (C := fun xs H3 => xs = [.int d, .int n] ∧ H3 = H2) po I2 ⟨_, rfl, _, rfl, (by show 2 ≤ sizeLine; decide), rfl, rfl⟩) (fun v s3 ⟨pt, xs, H3, ev, hlt, hpt, I3, ex, eH⟩ => ?_) fun x s' hx => hx.elim
    have eH := eH.symm
    subst ex eH ev
    intro kap hkap
    have npt : pt ≠ aw := (ne_of_none x2.1 hpt).symm
    have H'pt : H' pt = none := by
      cases c : H' pt with
      | none => rfl
      | some o => rw [x1 pt o npt c] at hpt; cases hpt
    have e3 : ∀ b o, aw0 ≠ some b → (wGn P w K mg base L f cdv outer HF Dm OW E).hg s₀.heap aw0 pl0 b = some o → upd H2 pt (.tup [.int d, .int n]) b = some o := fun b o z c => by
      have y1 := e b o z c
      have y2 : b ≠ pt := ne_of_none y1 H'pt
      rw [upd_ne y2]
      exact x1 b o (fun y => hga o (by rw [← y]; exact z) (by rw [← y]; exact c)) y1
    have pbp := newPB ok hd.rest I3 (hgn pt H'pt) upd_same
    have a3 : upd H2 pt (.tup [.int d, .int n]) aw = some (.lst ((pk ++ pl').map fun q => V.ref q.1).reverse) := by rw [upd_ne npt.symm]; exact x2.1
    have t3 : ∀ r ∈ pk ++ pl', upd H2 pt (.tup [.int d, .int n]) r.1 = some (.tup [.int r.2.1, .int r.2.2]) ∧ (wGn P w K mg base L f cdv outer HF Dm OW E).PB r.1 := fun r hr => by
      have y1 := x2.2 r hr
      have y2 : upd H2 pt (.tup [.int d, .int n]) r.1 = some (.tup [.int r.2.1, .int r.2.2]) := by rw [upd_ne (ne_of_none y1 hpt)]; exact y1
      refine ⟨y2, ?_⟩
      rcases List.mem_append.mp hr with z | z
      · exact newPB ok hd.rest I3 (hgn _ (x4 r z)) y2
      · exact pbt r (List.mem_cons_of_mem _ z)
    have v3 : (wGn P w K mg base L f cdv outer HF Dm OW E).Pv (some aw) (pk ++ pl') s3.heap := by
      refine ⟨fun a z => ?_, fun r hr => ⟨(t3 r hr).2, fun z => ?_, I3.hok _ _ (t3 r hr).1⟩⟩
      · cases z
        exact ⟨pba, I3.hok _ _ a3⟩
      · injection z with z
        have := (t3 r hr).1
        rw [← z, a3] at this
        cases this
    refine ⟨pt, (d, n), rfl, hlen, ?_, I3.hok _ _ upd_same, pbp, hlt, kept ok hd.rest v0 I3 e3, fun s4 wk => hkap .none s4 ?_⟩
    · have z : (zs.drop (zs.length - (out.length + 1)))[0]? = some (d, n) := by rw [← List.length_cons (a := (d, n)), ← hdr]; rfl
      rw [List.getElem?_drop, Nat.add_zero] at z
      exact z
    obtain ⟨I4, v4⟩ := woken ok (A' := A) hr.hd hfr I3 wk v3
    refine seg_execs_nil (seg_again rfl (ih (pk ++ pl') aw s4 s4 ?_ (fun e he => ?_) (by omega) ?_ ⟨wk.rest, some aw, pk ++ pl', _, _, _, _, v4, I4, fun b o _ h => h, ⟨hg_a v4 rfl, fun r hr => hg_t v4 hr⟩, pba, fun r hr => (t3 r hr).2, .inr rfl⟩))
    · rw [List.map_append, x3, hpl']
    · rcases List.mem_append.mp he with z | z
      · obtain ⟨c, hc, rfl⟩ := List.mem_map.mp z
        exact (Fr.pin _ _ (Frst.mem_kids.mp hc)).1
      · exact hks e (List.mem_cons_of_mem _ z)
    · have z := congrArg List.tail hdr
      rw [List.tail_cons, List.length_cons, List.tail_drop] at z
      rw [show zs.length - out.length = zs.length - (out.length + 1) + 1 by omega]
      exact z
end
end K9
set_option Elab.async false
set_option linter.all false
set_option maxRecDepth 100000
set_option maxHeartbeats 4000000
/-! WG3: the walk is called, and woken first. -/
namespace K9
open PySem PySem.Spec PyProof.Rows L2 SX GenW
/-- a call of walk_trees: what stands behind it -/
structure WM (base : Heap) (outer : List Env) (f : Addr) (cdv : Value) (fo : Addr) (s s' : Shared) (a g : Nat) : Prop where
  lt : s.heap.objs.size < a
  gen : s'.heap.IsGen a g
  fresh : s'.gens[g]? = some (.fresh (.func bWalk (wEnv s.heap.objs.size f cdv)))
  os : s'.os = s.os
  bare : AllBare s'.gens
  keep : ∀ b o, s.heap.get? b = some o → s'.heap.get? b = some o
  loc : ∃ m, s'.heap.Ns s.heap.objs.size m ∧ ∀ (i : Nat) (x : Str) (v : V), nWalk[i]? = some x → (start nWalk [.ref fo])[i]? = some (some v) → Vis (wEnv s.heap.objs.size f cdv).scope x → ∃ u, RelV v u ∧ Look (wEnv s.heap.objs.size f cdv) s'.heap m x u
  cell : ∀ x c, (wEnv s.heap.objs.size f cdv).cells.lookup x = some c → ∃ v, s'.heap.IsCell c v
  env : GEnv base outer (wEnv s.heap.objs.size f cdv)
section
variable {P : Program} {w : World} {K : PySem.W.Frag} {mg : Str → Option Value} {base : Heap} {f fo : Addr} {fd : FuncData} {A : Around} {outer : List Env} {s : Shared} {H : Hp} {k : Nat} {args : Args}
theorem walk_call (F : Fun K "walk_trees" "Forest.walk_trees" sWalk f fd) (hr : Room (k + 1) A) (e0 : Env0 P w K mg base A outer s H) (hb : BindsTo s fd args (pWalk.zip [.ref fo])) :
    codeAny (model P w) A (.call (.ref f) args) (fun r s' => match r with | .ok (.ret u) => ∃ cdv a g, u = .ref a ∧ WM base outer f cdv fo s s' a g | _ => False) s := by
  obtain ⟨oc, od, kV, doc, pm, an, cdv, ct, osl, rfl, lk, hcd⟩ := F.ex
  have S := scWalk
  have KX : K.In s.heap := e0.mod.kin.keeps fun b o e => (e0.bs b o e).1
  have lim : s.heap.NoLimit := e0.mod.nolimit.keeps fun b o e => (e0.bs b o e).1
  have r : Vals [V.ref fo] [Value.ref fo] := .cons rfl .nil
  have hkind : ∀ y ∈ pWalk.zip [Value.ref fo], (defScope sWalk).names.lookup y.1 = some .local ∨ ((defScope sWalk).names.lookup y.1 = some .cell ∧ ((cellsFrom (s.heap.objs.size + 1) (defScope sWalk).names []).lookup y.1).isSome = true) := fun ⟨n, v⟩ hy => by
    rcases S.par n (List.of_mem_zip hy).1 with q | q
    · exact .inl q
    · exact .inr ⟨q, PySem.W.cellsFrom_some _ _ _ (.inl q)⟩
  refine codeAny_call_generator hr.depth (KX _ _ lk) rfl S.co S.gen rfl (PySem.W.codeRec_of KX hcd) (hb _ _ _ _ ?_)
  refine wpAny_newFunctionEnv_cells S.kind hkind fun env he s1 x => ?_
  subst he
  have lim1 : s1.heap.NoLimit := lim.keeps x.toInCall.keep
  refine ⟨lim1, ?_⟩
  obtain ⟨h1, tk, es1, hk1⟩ := x.done
  have os1 : s1.os = s.os := by rw [es1]
  have gen1 : s1.gens = s.gens := by rw [es1]
  have lt1 : s.heap.objs.size < s1.heap.objs.size := x.toInCall.ns.lt
  have kp1 : ∀ b o, s.heap.get? b = some o → s1.heap.get? b = some o := x.toInCall.keep
  have I1 := inv_startG (E := E0) S hr.hd e0 rfl r x
  have main : ∀ (go : Obj) (nm qn : Value) (tk2 : Nat), go.cls = .type "generator" → go.data = .fields #[.int s1.gens.size 0, nm, qn] → go.slots = #[] → (∀ h : Heap, (h.push go).get? h.objs.size = some go) →
      WM base outer f cdv fo s { s1 with gens := s1.gens.push (.fresh (.func bWalk (envOfC "Forest.walk_trees" (defScope sWalk) s.heap.objs.size f cdv))), toks := tk2, heap := s1.heap.push go } s1.heap.objs.size s1.gens.size := by
    intro go nm qn tk2 hgc hgd0 hgs hgp
    have kp2 : ∀ b o, s1.heap.get? b = some o → (s1.heap.push go).get? b = some o := fun b o e => Heap.get?_push_of_some _ e
    obtain ⟨m, ⟨o, es, ep, ho, rr⟩, hl⟩ := I1.loc
    refine ⟨lt1, ⟨go, nm, qn, hgp _, hgc, hgd0, hgs⟩, Array.getElem?_push_size .., os1, AllBare.push (by rw [gen1]; exact e0.bare) rfl, fun b o e => kp2 b o (kp1 b o e), ⟨m, ⟨o, es, ep, kp2 _ o ho, rr⟩, fun i y v h1 h2 h3 => ?_⟩, fun y c e => ?_, ?_⟩
    · obtain ⟨u, r1, l⟩ := hl i y v h1 h2 h3
      refine ⟨u, r1, ?_⟩
      rcases l with l | ⟨hk, c, hc, o, hco, hd⟩
      · exact .inl l
      · exact .inr ⟨hk, c, hc, o, kp2 c o hco, hd⟩
    · obtain ⟨v, o, ho, hd⟩ := I1.cell y c e
      exact ⟨v, o, kp2 c o ho, hd⟩
    · refine ⟨I1.ok.kind, rfl, rfl, rfl, I1.ok.inj, I1.ok.has, fun y c e => Nat.le_of_lt (x.above y c (PySem.mem_of_lookup e)), e0.bsz, fun b hb => ?_⟩
      obtain ⟨_, o, ho, _⟩ := e0.funs.mem hb
      exact Heap.lt_size ho
  exact ⟨cdv, s1.heap.objs.size, s1.gens.size, rfl, main _ _ _ _ rfl rfl rfl fun h => Heap.get?_push_size _ rfl⟩
end
section
variable {P : Program} {w : World} {K : PySem.W.Frag} {mg : Str → Option Value} {base : Heap} {cL cG cT cF f fo : Addr} {cdv : Value} {L : Addr} {A : Around} {outer : List Env} {HF : Hp} {Dm : Addr → Prop} {OW : List Addr} {E : Addr → Option Obj} {m : Str → Option Value} {s : Shared}
theorem walk_wake (T : Mo K mg cL cG cT cF) (Mr : Md P w K mg base cF 1 "roots" pFRts (spFRts K cL cF)) (Mc : Md P w K mg base cF 1 "children" pFChi (spFChi K cL cF)) (hr : Room 1 (A.deeper (wEnv L f cdv))) (hfr : A.frames = some outer) {S : Lts} {Fr : Frst} {zs : List (Nat × Int)} (hz : zs.length ≤ sizeLine)
    (iw : IsWalk Fr zs) (ok : (wGn P w K mg base L f cdv outer HF Dm OW E).Ok) (rest : (wGn P w K mg base L f cdv outer HF Dm OW E).Rest s) (F : FPre K cL cF HF fo S Fr)
    (hn : s.heap.Ns L m) (hv : ∀ (i : Nat) (x : Str) (v : V), nWalk[i]? = some x → (start nWalk [.ref fo])[i]? = some (some v) → Vis (wEnv L f cdv).scope x → ∃ u, RelV v u ∧ Look (wEnv L f cdv) s.heap m x u)
    (hc : ∀ x c, (wEnv L f cdv).cells.lookup x = some c → ∃ v, s.heap.IsCell c v) :
    Seg (model P w) A (RW (wGn P w K mg base L f cdv outer HF Dm OW E)) (YW (wGn P w K mg base L f cdv outer HF Dm OW E) zs) zs.length s (.func bWalk (wEnv L f cdv)) ((model P w).den (.func bWalk (wEnv L f cdv))) [] s := by
  generalize hG : wGn P w K mg base L f cdv outer HF Dm OW E = G at ok rest ⊢
  have lo : G.env.locals ∉ frs G.outer := fun hm => absurd (ok.env.old _ hm) (Nat.lt_irrefl _)
  have v0 : G.Pv none [] s.heap := ⟨fun a e => (by cases e), fun q hq => by cases hq⟩
  have I : Inv (G.cx A s none []) (G.pins s none []) (start nWalk [.ref fo]) (G.hg s.heap none []) s := by
    have hN : G.N = nWalk := by rw [← hG]
    have hE : G.env = wEnv L f cdv := by rw [← hG]
    refine gx_start (m := m) ok.env hr.hd (rest_env0 ok rest v0 (by rw [← hG]; exact hfr)) (by rw [hE]; exact hn) (Gn.hg_l ok v0 lo) (by rw [hN]; rfl) (fun i x v h1 h2 h3 => ?_) fun x c e => ⟨?_, Gn.hg_c ok v0 e⟩
    · rw [hE] at h3 ⊢
      rw [hN] at h1
      exact hv i x v h1 h2 h3
    · rw [hE] at e
      exact hc x c e
  have over : A.over (.func bWalk (wEnv L f cdv)) [] = A.deeper (wEnv L f cdv) := over_func
  have eF : Ext HF (G.hg s.heap none []) := fun b o h => by subst hG; exact hg_f h
  refine seg_func ?_
  rw [show execs bWalk (wEnv L f cdv) = execs [sW1, .While wTest [sB1, sB2, .Expr (.Yield (some wOut) wYp) wYq] [] wPos] (wEnv L f cdv) from congrArg (fun b => execs b (wEnv L f cdv)) bWalk_eq]
  refine seg_execs_cons (seg_wrap ?_)
  rw [over]
  obtain ⟨tb, pb, rb⟩ := walk_1 (A := A) (outer := outer) (s := s) (H0 := G.hg s.heap none []) T Mr hr
  have pb' : PS (G.cx A s none []) sW1 tb := by subst hG; exact pb
  refine wpAny_mono (by
    have z := pb'.run _ s _ _ { nx := fun σ2 H2 => ∃ aw pl, Ext (G.hg s.heap none []) H2 ∧ G.hg s.heap none [] aw = none ∧ PileAt H2 aw pl ∧ pl.map (·.2) = Fr.start ∧ (∀ q ∈ pl, G.hg s.heap none [] q.1 = none) ∧ σ2 = [some (.ref fo), some (.ref aw), none, none, none], rt := fun _ _ => False } I
      (rb _ fo S Fr _ (by obtain ⟨⟨H0, D0⟩, iF⟩ := F; exact ⟨⟨H0, D0.ext eF⟩, iF⟩) fun aw pl H' x1 x2 x3 x4 x5 => ⟨aw, pl, x1, x2, x3, x4, x5, rfl⟩)
    subst hG
    exact z) (fun fl s2 h2 => ?_) fun x s' hx => (by subst hG; exact hx.elim)
  subst hG
  obtain ⟨rfl, σ2, H2, I2, aw, pl, x1, x2, x3, x4, x5, rfl⟩ := nx_flow h2
  have pba := newPB ok rest I2 x2 x3.1
  refine seg_execs_cons (seg_While fun p => ?_)
  have hd : Head _ A fo aw s s2 pl := ⟨rest, none, [], H2, none, none, none, v0, I2, fun b o _ h => x1 b o h, x3, pba, fun q hq => newPB ok rest I2 (x5 q hq) (x3.2 q hq), .inl ⟨rfl, rfl⟩⟩
  refine seg_walk T Mc hr hfr hz rfl ok F (fun s₀ s' kp => ?_) iw.w pl aw s s2 x4 (fun e he => ?_) (Nat.le_refl _) (by rw [Nat.sub_self]; rfl) hd
  · exact seg_execs_nil (env := wEnv L f cdv) (seg_end (.ok (.ret .none)) (.inl ⟨.inl rfl, rfl, kp⟩))
  · unfold Frst.start at he
    obtain ⟨n, hn, rfl⟩ := List.mem_map.mp he
    exact (Frst.mem_roots.mp hn).1
end
end K9
set_option Elab.async false
set_option linter.all false
set_option maxRecDepth 100000
set_option maxHeartbeats 4000000
/-! G3: the consumer of a walk. -/
namespace K9
open PySem PySem.Spec PyProof.Rows L2 SX GenW
open Classical in
/-- what stands as the consumer first wakes the generator -/
noncomputable def stands (h : Heap) (H0 : Hp) (OW : List Addr) (outer : List Env) (env : Env) : Addr → Option Obj := fun b =>
  if H0 b = none ∧ b ∉ OW ∧ b ∉ frs outer ∧ b ≠ env.locals ∧ (∀ x c, env.cells.lookup x = some c → c ≠ b) ∧ (b < env.locals ∨ ∃ o, h.get? b = some o ∧ isCell o = false) then h.get? b else none
theorem stands_of {h : Heap} {H0 : Hp} {OW : List Addr} {outer : List Env} {env : Env} {b : Addr} {o : Obj} (e : stands h H0 OW outer env b = some o) :
    h.get? b = some o ∧ H0 b = none ∧ b ∉ OW ∧ b ∉ frs outer ∧ b ≠ env.locals ∧ (∀ x c, env.cells.lookup x = some c → c ≠ b) ∧ (b < env.locals ∨ isCell o = false) := by
  unfold stands at e
  by_cases k : H0 b = none ∧ b ∉ OW ∧ b ∉ frs outer ∧ b ≠ env.locals ∧ (∀ x c, env.cells.lookup x = some c → c ≠ b) ∧ (b < env.locals ∨ ∃ o, h.get? b = some o ∧ isCell o = false)
  · rw [if_pos k] at e
    obtain ⟨k1, k2, k3, k4, k5, k6⟩ := k
    refine ⟨e, k1, k2, k3, k4, k5, k6.imp id fun ⟨u, hu, hc⟩ => ?_⟩
    rw [e] at hu; cases hu; exact hc
  · rw [if_neg k] at e; cases e
theorem of_stands {h : Heap} {H0 : Hp} {OW : List Addr} {outer : List Env} {env : Env} {b : Addr} {o : Obj} (e : h.get? b = some o) (k1 : H0 b = none) (k2 : b ∉ OW) (k3 : b ∉ frs outer) (k4 : b ≠ env.locals) (k5 : ∀ x c, env.cells.lookup x = some c → c ≠ b) (k6 : b < env.locals ∨ isCell o = false) :
    stands h H0 OW outer env b = some o := by
  unfold stands
  rw [if_pos ⟨k1, k2, k3, k4, k5, k6.imp id fun z => ⟨o, e, z⟩⟩]
  exact e
/-- the generator as its consumer knows it -/
noncomputable abbrev conG (Y : Cx) (H0 : Hp) (sF : Shared) (HF : Hp) (L f : Addr) (cdv : Value) (OW : List Addr) : Gn :=
  wGn Y.prog Y.w Y.K Y.mg Y.base L f cdv Y.stack HF (fun b => H0 b ≠ none) OW (stands sF.heap H0 OW Y.stack (wEnv L f cdv))
/-- the consumer -/
structure Con (Y : Cx) (pins : List (Addr × Obj)) (σ0 : L2.St) (H0 : Hp) (sF : Shared) (HF : Hp) (L f : Addr) (cdv : Value) (OW : List Addr) : Prop where
  i0 : Inv Y pins σ0 H0 sF
  nc : ∀ x, Y.env.cells.lookup x = none
  env : GEnv Y.base Y.stack (wEnv L f cdv)
  simple : ∀ b o, HF b = some o → simpleO o = true
  own : ∀ dx a, HF dx = some (.own a) → ∃ o, HF a = some o
  sub : Ext HF H0
  hf : HOk Y.prog Y.w HF sF.heap
  dl : H0 L = none
  dc : ∀ x c, (wEnv L f cdv).cells.lookup x = some c → H0 c = none
  ow : (OW = [] ∧ Y.env.locals ∈ frs Y.stack) ∨ (OW = [Y.env.locals] ∧ Y.env.locals ∉ frs Y.stack ∧ Y.env.locals ≠ L ∧ ∀ x c, (wEnv L f cdv).cells.lookup x = some c → c ≠ Y.env.locals)
  pin : ∀ p ∈ Y.pn ++ pins, p.1 < L
  old : ∀ b o, Y.s_0.heap.get? b = some o → b ∉ Y.ex → H0 b = none → b ≠ L ∧ (∀ x c, (wEnv L f cdv).cells.lookup x = some c → c ≠ b) ∧ (b < L ∨ ∀ o, sF.heap.get? b = some o → isCell o = false)
section
variable {Y : Cx} {pins : List (Addr × Obj)} {σ0 σ : L2.St} {H0 H : Hp} {sF s s1 : Shared} {HF : Hp} {L f : Addr} {cdv : Value} {OW : List Addr}
theorem Con.gok (c : Con Y pins σ0 H0 sF HF L f cdv OW) : (conG Y H0 sF HF L f cdv OW).Ok where
  env := c.env
  simple := c.simple
  own := c.own
  dm := fun b o e z => by rw [c.sub b o e] at z; cases z
  ow := fun b hb => by
    rcases c.ow with ⟨e, _⟩ | ⟨e, h1, h2, h3⟩
    · rw [show (conG Y H0 sF HF L f cdv OW).OW = OW from rfl, e] at hb; cases hb
    · rw [show (conG Y H0 sF HF L f cdv OW).OW = OW from rfl, e] at hb
      have z : b = Y.env.locals := List.mem_singleton.mp hb
      subst z
      refine ⟨Heap.get?_none_of_le (Nat.le_trans c.i0.ok.bsz c.i0.ok.above), h1, h2, h3⟩
  dl := ⟨fun z => z c.dl, fun x d e z => z (c.dc x d e)⟩
  e := fun b o e => by
    obtain ⟨_, k1, k2, k3, k4, k5, k6⟩ := stands_of e
    exact ⟨fun z => z k1, k2, k3, k4, k5, k6⟩
/-- the state as the consumer leaves it -/
theorem Con.rest (c : Con Y pins σ0 H0 sF HF L f cdv OW) (I : Inv Y pins σ H s) (dm : ∀ b, H b ≠ none ↔ H0 b ≠ none) (sub : Ext HF H) (hr : HOk Y.prog Y.w HF sF.heap) (e : ∀ b o, stands sF.heap H0 OW Y.stack (wEnv L f cdv) b = some o → s.heap.get? b = some o) : (conG Y H0 sF HF L f cdv OW).Rest s where
  ex := ⟨H, I.hok, sub, fun b => (dm b).symm, I.mod, I.bs, I.stkFree⟩
  bsz := Nat.le_trans I.ok.bsz I.sz
  funs := I.stack
  bare := I.bare
  hf := fun b o h => K9.ObjOk.part (c.simple b o h) (hr b o h) (I.hok b o (sub b o h))
  e := e
  ow := fun b hb => by
    rcases c.ow with ⟨e, _⟩ | ⟨e, _⟩
    · rw [show (conG Y H0 sF HF L f cdv OW).OW = OW from rfl, e] at hb; cases hb
    · rw [show (conG Y H0 sF HF L f cdv OW).OW = OW from rfl, e] at hb
      have z : b = Y.env.locals := List.mem_singleton.mp hb
      subst z
      obtain ⟨m, ⟨o, _, _, ho, _⟩, _⟩ := I.loc
      exact ⟨o, ho⟩
/-- behind the generator's turn -/
theorem Con.step (c : Con Y pins σ0 H0 sF HF L f cdv OW) (I : Inv Y pins σ H s) (dm : ∀ b, H b ≠ none ↔ H0 b ≠ none) (sub : Ext HF H) (k : (conG Y H0 sF HF L f cdv OW).Kp s s1) : Inv Y pins σ H s1 := by
  have hfs : ∀ b, b ∈ Y.fs → b ∈ frs Y.stack := fun b hb => by
    rcases c.i0.ok.stk with e | ⟨e, hf⟩
    · rw [e]; exact hb
    · have hb : b ∈ frs Y.outer := hb
      rw [e]; unfold frs at hb ⊢; rw [List.filterMap_cons, hf]; exact List.mem_cons_of_mem _ hb
  have lk : ∃ o' : Obj → Array (Option Value), ∀ o, s.heap.get? Y.env.locals = some o → s1.heap.get? Y.env.locals = some { o with slots := o' o } := by
    rcases c.ow with ⟨e, h1⟩ | ⟨e, h1, _⟩
    · refine ⟨fun o => (s1.heap.get? Y.env.locals).elim #[] (·.slots), fun o ho => ?_⟩
      obtain ⟨sl, h⟩ := k.slot _ o h1 ho
      rw [h]; rfl
    · refine ⟨fun o => o.slots, fun o ho => ?_⟩
      refine k.dm _ o (.inr (by show Y.env.locals ∈ OW; rw [e]; exact List.mem_singleton.mpr rfl)) ?_ ho
      cases q : HF Y.env.locals with
      | none => exact q
      | some u => have z := sub _ _ q; rw [I.free] at z; cases z
  have hok1 : HOk Y.prog Y.w H s1.heap := fun b o e => by
    cases q : HF b with
    | some u =>
      have z := sub b u q
      rw [e] at z
      cases z
      exact (k.hf b o q).stay (fun _ _ _ y => y) (fun d y => sub d _ y) fun d xs y => sub d _ y
    | none =>
      refine (I.hok b o e).stay (fun d u hd y => k.dm d u (.inl ?_) ?_ y) (fun _ y => y) fun _ _ y => y
      · rcases hd with rfl | hd
        · exact (dm _).mp (by rw [e]; intro z; cases z)
        · exact (dm _).mp (by rw [hd]; intro z; cases z)
      · rcases hd with rfl | hd
        · exact q
        · cases q2 : HF d with
          | none => exact q2
          | some v =>
            have z := sub d v q2
            rw [hd] at z
            cases z
            obtain ⟨o2, q3⟩ := c.own d b q2
            rw [q] at q3; cases q3
  obtain ⟨o', hlk⟩ := lk
  have nOW : ∀ b o, Y.s_0.heap.get? b = some o → b ∉ OW := fun b o h hb => by
    rcases c.ow with ⟨e, _⟩ | ⟨e, _⟩
    · rw [e] at hb; cases hb
    · rw [e] at hb
      have z : b = Y.env.locals := List.mem_singleton.mp hb
      have := Heap.lt_size h
      rw [z] at this
      exact absurd (Nat.lt_of_lt_of_le this c.i0.ok.above) (Nat.lt_irrefl _)
  have nL : ∀ b o, Y.s_0.heap.get? b = some o → b ∉ Y.fs → b ∉ frs Y.stack := fun b o h hb hm => by
    rcases List.mem_cons.mp (I.stkSub b hm) with z | z
    · have := Heap.lt_size h
      rw [z] at this
      exact absurd (Nat.lt_of_lt_of_le this c.i0.ok.above) (Nat.lt_irrefl _)
    · exact hb z
  refine ⟨I.ok, k.os.trans I.os, k.bare, ⟨fun b o h h0 hf hx => ?_, fun b o h h0 hf hx => ?_, I.base.free, fun b o h hx => ?_, I.base.tups, I.base.frzs, I.base.tbls⟩, ?_, fun x d e => (by rw [c.nc x] at e; cases e), I.free, fun x d e => (by rw [c.nc x] at e; cases e), fun p hp => ?_, hok1, I.len⟩
  · have h1 := c.i0.base.keep b o h h0 hf hx
    have h2 := c.i0.base.free b o h h0 hx
    obtain ⟨a1, a2, a3⟩ := c.old b o h hx h2
    exact k.e b o (of_stands h1 h2 (nOW b o h) (nL b o h hf) a1 a2 (a3.imp id fun z => z o h1))
  · obtain ⟨sl, h1⟩ := I.base.slot b o h h0 hf hx
    obtain ⟨sl', h2⟩ := k.slot b _ (hfs b hf) h1
    exact ⟨sl', h2⟩
  · by_cases hm : b ∈ frs Y.stack
    · obtain ⟨u, h1⟩ := I.base.there b o h hx
      obtain ⟨sl, h2⟩ := k.slot b u hm h1
      exact ⟨_, h2⟩
    · cases q : H b with
      | some u => exact obj_has (hok1 b u q)
      | none =>
        have h2 : H0 b = none := by
          cases q2 : H0 b with
          | none => rfl
          | some v => exact absurd q ((dm b).mpr (by rw [q2]; intro z; cases z))
        obtain ⟨u, h1⟩ := c.i0.base.there b o h hx
        obtain ⟨a1, a2, a3⟩ := c.old b o h hx h2
        exact ⟨u, k.e b u (of_stands h1 h2 (nOW b o h) hm a1 a2 (a3.imp id fun z => z u h1))⟩
  · obtain ⟨m, ⟨o, es, ep, ho, hd, r⟩, hl⟩ := I.loc
    refine ⟨m, ⟨_, es, ep, hlk o ho, hd, r⟩, fun i x v h1 h2 h3 => ?_⟩
    obtain ⟨u, r1, l⟩ := hl i x v h1 h2 h3
    refine ⟨u, r1, ?_⟩
    rcases l with l | ⟨_, d, hc, _⟩
    · exact .inl l
    · rw [c.nc x] at hc; cases hc
  · obtain ⟨h1, h2, h3, h4, h5⟩ := c.i0.pin p hp
    obtain ⟨g1, g2, g3, g4, g5⟩ := I.pin p hp
    have lt := c.pin p hp
    have fr : p.1 ∉ frs Y.stack := fun hm => (List.mem_cons.mp (I.stkSub p.1 hm)).elim h3 h4
    have ow : p.1 ∉ OW := fun hb => by
      rcases c.ow with ⟨e, _⟩ | ⟨e, _⟩
      · rw [e] at hb; cases hb
      · rw [e] at hb; exact h3 (List.mem_singleton.mp hb)
    refine ⟨k.e p.1 p.2 (of_stands h1 h2 ow fr (Nat.ne_of_lt lt) (fun x d e z => ?_) (.inl lt)), g2, g3, g4, g5⟩
    have := c.env.cab x d e
    rw [z] at this
    exact absurd (Nat.lt_of_lt_of_le lt this) (Nat.lt_irrefl _)
end
end K9
set_option Elab.async false
set_option linter.all false
set_option maxRecDepth 100000
set_option maxHeartbeats 4000000
/-! G4: the walk's next item. -/
namespace K9
open PySem PySem.Spec PyProof.Rows L2 SX GenW
theorem inv_gens {X : Cx} {pins : List (Addr × Obj)} {σ : L2.St} {H : Hp} {s : Shared} (I : Inv X pins σ H s) {g : Nat} {x : GenState} (hx : x.bare = true) : Inv X pins σ H (s.setGen g x) :=
  ⟨I.ok, I.os, allBare_setGen I.bare hx, I.base, I.loc, I.cell, I.free, I.freeC, I.pin, I.hok, I.len⟩
section
variable {Y : Cx} {pins : List (Addr × Obj)} {σ0 σ : L2.St} {H0 H : Hp} {sF s : Shared} {HF : Hp} {L f : Addr} {cdv : Value} {OW : List Addr} {a : Addr} {g n : Nat} {zs : List (Nat × Int)} {gs : GenState}
/-- tuples of old stay -/
def TupsKept (G : Gn) (h h' : Heap) : Prop := ∀ t q, G.PB t → IsT G.P G.w h t q → IsT G.P G.w h' t q
theorem gen_next {Q : Option Value → Shared → Prop} {E : Value → Shared → Prop} (c : Con Y pins σ0 H0 sF HF L f cdv OW) (hh : Y.A.handled = none) (hroom : Y.A.depth < recursionLimit) (I : Inv Y pins σ H s) (dm : ∀ b, H b ≠ none ↔ H0 b ≠ none) (sub : Ext HF H)
    (ga : s.heap.IsGen a g) (ga' : ∀ s1, (conG Y H0 sF HF L f cdv OW).Kp (s.setGen g .running) s1 → s1.heap.IsGen a g) (hgs : s.gens[g]? = some gs) (hgo : gs.Goes (model Y.prog Y.w) Y.A.in1 (RW (conG Y H0 sF HF L f cdv OW)) (YW (conG Y H0 sF HF L f cdv OW) zs) n (.send .none) (s.setGen g .running))
    (h0 : n = 0 → ∀ s1, Inv Y pins σ H s1 → TupsKept (conG Y H0 sF HF L f cdv OW) s.heap s1.heap → Q none s1)
    (h1 : ∀ m t q gs' s1, n = m + 1 → n ≤ zs.length → zs[zs.length - n]? = some q → Inv Y pins σ H s1 → IsT Y.prog Y.w s1.heap t q → (conG Y H0 sF HF L f cdv OW).PB t → L < t → (conG Y H0 sF HF L f cdv OW).Kp (s.setGen g .running) s1 → s1.gens[g]? = some gs' → TupsKept (conG Y H0 sF HF L f cdv OW) s.heap s1.heap →
      (∀ s2, (conG Y H0 sF HF L f cdv OW).Woke s1 s2 → gs'.Goes (model Y.prog Y.w) Y.A.in1 (RW (conG Y H0 sF HF L f cdv OW)) (YW (conG Y H0 sF HF L f cdv OW) zs) m (.send .none) s2) → Q (some (.ref t)) s1) :
    wpAny (model Y.prog Y.w) Y.A (pyNext (.ref a)) Q E s := by
  have hgl : g < s.gens.size := (Array.getElem?_eq_some_iff.mp hgs).1
  have I' : Inv Y pins σ H (s.setGen g .running) := inv_gens I rfl
  refine wpAny_mono (wpAny_gsz (n := g + 1) (Q := Q) (E := E) hgl (next_genG (Er := fun _ _ => False) (F := fun n s₀ s₁ => n = 0 ∧ (conG Y H0 sF HF L f cdv OW).Kp s₀ s₁) hh I.nolimit hroom ga hgs hgo (fun v s₁ gs' hbare hv => ?_) (fun s₁ hp h' hk => ?_) fun e s₁ he => he.elim)) (fun _ _ z => z) fun _ _ z => z
  · intro hsz
    obtain ⟨t, q, rfl, hle, hq, ht, pb, hlt, kp, hw⟩ := hv
    have hsz1 : g < s₁.gens.size := by
      have q : (s₁.setGen g gs').gens.size = s₁.gens.size := setGen_size _ _ _
      have hsz' : g + 1 ≤ (s₁.setGen g gs').gens.size := hsz
      omega
    have kp' : (conG Y H0 sF HF L f cdv OW).Kp (s.setGen g .running) (s₁.setGen g gs') := ⟨kp.os, allBare_setGen kp.bare hbare, kp.hf, kp.e, kp.dm, kp.slot, kp.tup, kp.lim⟩
    have I1 := c.step I' dm sub kp'
    cases n with
    | zero =>
      have r1 : (conG Y H0 sF HF L f cdv OW).Rest (s₁.setGen g gs') := c.rest I1 dm sub c.hf kp.e
      exact (hw (s₁.setGen g gs') ⟨r1, rfl, fun _ _ _ _ _ e => e⟩).elim
    | succ m => exact h1 m t q gs' _ rfl hle hq I1 ht pb hlt kp' (setGen_at hsz1) (fun t' q' p x => kp.tup t' q' p.dm p.ow p.fr p.l x) fun s2 wk => hw s2 ⟨wk.rest, wk.os, wk.keep⟩
  · obtain ⟨hn, kp⟩ := hp
    intro _
    have I1 := c.step I' dm sub kp
    have I2 : Inv Y pins σ H (s₁.setGen g .finished) := inv_gens I1 rfl
    have I3 := I2.kept (h' := h') (t' := s₁.toks) hk
    exact h0 hn _ I3 fun t' q' p x => (kp.tup t' q' p.dm p.ow p.fr p.l x).stay (fun b u _ y => hk b u y) (fun _ y => y) fun _ _ y => y
end
end K9
set_option Elab.async false
set_option linter.all false
set_option maxRecDepth 100000
set_option maxHeartbeats 4000000
/-! G5: o.walk_trees() as an expression; a comprehension that hands its items on. -/
namespace K9
open PySem PySem.Spec PyProof.Rows L2 SX GenW
/-- a generator of the walk, not begun -/
structure PW (X : Cx) (e : Expr) (t : L2.St → Hp → (Addr → Hp → Prop) → Prop) : Prop where
  run : ∀ (pins : List (Addr × Obj)) (s : Shared) (σ : L2.St) (H : Hp) (C : Addr → Hp → Prop), Inv X pins σ H s → t σ H C → wpAny (model X.prog X.w) X.A (eval e X.env)
    (fun u s' => ∃ s0 H1 fo f cdv a g, u = .ref a ∧ Inv X pins σ H1 s0 ∧ WM X.base X.stack f cdv fo s0 s' a g ∧ C fo H1) X.xe s
section
variable {X : Cx} {pos apos : Pos} {o : Expr} {ta : TE} {cF f : Addr} {fd : FuncData}
theorem pw_meth {pl : Sem Bool} (he : PE X o ta) (c : Cls X.K cF) (hm : Meth X.K cF "walk_trees" f) (F : Fun X.K "walk_trees" "Forest.walk_trees" sWalk f fd) (hb : Binds X.K fd pWalk []) (hr : Room 1 X.A)
    (ht : eval (.Call (.Attribute o "walk_trees" apos) [] [] pos) X.env = (do
      let ov ← eval o X.env
      standAt apos.atName
      let (f, first) ← holding [ov] (getMethod ov "walk_trees" pl)
      callWith pos f first (backTo pos (starEach [] X.env)) (backToKw pos (keywordEach [] X.env))) := by rfl) :
    PW X (.Call (.Attribute o "walk_trees" apos) [] [] pos) (fun σ H C => ta σ H fun x H1 => ∃ a dx fs, x = .ref a ∧ H1 a = some (.ins cF dx fs) ∧ fs.lookup ("walk_trees" : Str) = none ∧ C a H1) := by
  refine ⟨fun pins s σ H C I h => ?_⟩
  refine PySem.W.methodCall_KW (pl := pl) (thn (he.run pins s σ H _ I h) fun u s1 ⟨x, H1, I1, rx, a, dx, fs, ex, ea, l, q⟩ => ?_) ht
  subst ex
  obtain rfl : u = Value.ref a := rx
  refine getmeth_ok I1 ea c hm l ?_
  refine PySem.W.callWith_K0 (first := [.ref a]) I1.kIn hm.kp ?_
  refine wpAny_call (codeAny_mono (walk_call (fo := a) F hr I1.env0 (hb s1 [.ref a] I1.kIn rfl)) fun r s' hq => ?_)
  cases r with
  | error e => exact hq.elim
  | ok fl =>
    cases fl with
    | ret u =>
      obtain ⟨cdv, g1, g, rfl, hw⟩ := hq
      exact ⟨s1, H1, a, f, cdv, g1, g, rfl, I1, hw, q⟩
    | next => exact hq.elim
    | brk => exact hq.elim
    | cont => exact hq.elim
end
/-- the list of a walk's items -/
def ItemsAt (H : Hp) (D : Addr) (zs : List (Nat × Int)) : Prop := ∃ vs, H D = some (.lst vs) ∧ Paired (fun v q => ∃ t, v = V.ref t ∧ H t = some (.tup [.int q.1, .int q.2])) vs zs
end K9
set_option Elab.async false
set_option linter.all false
set_option maxRecDepth 100000
set_option maxHeartbeats 4000000
/-! G7: a forest in the core of the heap. -/
namespace K9
open PySem PySem.Spec PyProof.Rows L2 SX
theorem core_own' {H : Hp} {a dx : Addr} (h : core H dx = some (.own a)) : ∃ C d fs, H a = some (.ins C d fs) := by
  unfold core at h
  cases e : H dx with
  | none => rw [e] at h; cases h
  | some u =>
    rw [e] at h
    cases u with
    | own a' =>
      cases f : H a' with
      | none => simp only [f] at h; cases h
      | some v =>
        cases v with
        | ins C d fs =>
          simp only [f] at h
          cases h
          exact ⟨C, d, fs, f⟩
        | _ => simp only [f] at h; cases h
    | frz ob u => cases u <;> simp only [simpleO, if_true, if_false, Bool.false_eq_true] at h <;> cases h
    | _ => simp only [simpleO, if_true, if_false, Bool.false_eq_true] at h <;> cases h
theorem core_mono {H H' : Hp} (e : Ext H H') : Ext (core H) (core H') := fun b o h => by
  obtain ⟨h1, h2⟩ := core_sub h
  cases o with
  | own a =>
    obtain ⟨C, d, fs, h3⟩ := core_own' h
    unfold core
    rw [e _ _ h1]
    simp only [e _ _ h3]
  | ins C d fs => exact core_at (e _ _ h1) rfl fun a z => by cases z
  | lst xs => exact core_at (e _ _ h1) rfl fun a z => by cases z
  | tup xs => exact core_at (e _ _ h1) rfl fun a z => by cases z
  | dK kvs => exact core_at (e _ _ h1) rfl fun a z => by cases z
  | frz ob u => exact core_at (e _ _ h1) h2 fun a z => by cases z
  | _ => cases h2
theorem core_none {H : Hp} {b : Addr} (h : H b = none) : core H b = none := by
  cases e : core H b with
  | none => rfl
  | some o => rw [(core_sub e).1] at h; cases h
section
variable {K : PySem.W.Frag} {cL cF : Addr} {H : Hp} {fo : Addr} {S : Lts} {Fr : Frst}
theorem fst_core {H0 : Hp} {f dl da db dr : Addr} {kn : List Int} {p : Fn} {bl : Int → Addr} {rv : List (Int × Addr)} (S : FSt cF H0 H f dl da db dr kn p bl rv) : FSt cF (core H0) (core H) f dl da db dr kn p bl rv := by
  obtain ⟨⟨dt, b1⟩, b2, b3, b4, ⟨r, b5⟩, nd, inn, kids, bin, b0, z, sep, old, few⟩ := S
  refine ⟨⟨dt, core_at b1 rfl (fun a z => by cases z)⟩, core_at b2 rfl (fun a z => by cases z), core_at b3 rfl (fun a z => by cases z), core_at b4 rfl (fun a z => by cases z), ⟨r, core_at b5 rfl (fun a z => by cases z)⟩, nd, inn, fun n hn => ?_, bin, fun n hn => core_none (b0 n hn), ⟨core_none z.1, core_none z.2.1, core_none z.2.2.1, core_none z.2.2.2.1, core_none z.2.2.2.2⟩, sep, core_mono old, few⟩
  obtain ⟨cs, h1, h2⟩ := kids n hn
  exact ⟨cs, core_at h1 rfl (fun a z => by cases z), h2⟩
theorem sqt_core {t : Addr} {xs : List V} (h : SqT K H t xs) : SqT K (core H) t xs := by
  rcases h with h | h
  · rcases h with h | ⟨o, h⟩
    · exact .inl (.inl (core_at h rfl (fun a z => by cases z)))
    · exact .inl (.inr ⟨o, core_at h rfl (fun a z => by cases z)⟩)
  · exact .inr h
theorem let_core {p : Addr} {l : LD} (h : LetAt K cL H p l) : LetAt K cL (core H) p l := by
  obtain ⟨dx, ta, ts, tw, sd, tx, h1, h2, h3, h4, h5⟩ := h
  exact ⟨dx, ta, ts, tw, sd, tx, core_at h1 rfl (fun a z => by cases z), sqt_core h2, sqt_core h3, sqt_core h4, h5⟩
theorem fpre_core (F : FPre K cL cF H fo S Fr) : FPre K cL cF (core H) fo S Fr := by
  obtain ⟨⟨H0, D⟩, iF⟩ := F
  obtain ⟨⟨dl, da, db, dr, kn, p, bl, rv, St, h1, h2, h3, R, h4⟩, old, ls, nd, few⟩ := D
  refine ⟨⟨core H0, ⟨⟨dl, da, db, dr, kn, p, bl, rv, fst_core St, core_at h1 rfl fun a z => (by cases z), h2, h3, R.keep (fun a xs h => core_at h rfl fun a z => by cases z), h4⟩, core_mono old, fun q hq => let_core (ls q hq), nd, few⟩⟩, iF⟩
end
end K9
set_option Elab.async false
set_option linter.all false
set_option maxRecDepth 100000
set_option maxHeartbeats 8000000
/-! G6: [x for x in o.walk_trees()]. -/
namespace K9
open PySem PySem.Spec PyProof.Rows L2 SX GenW
/-- an item appended to a tracked list, the rest as it was -/
theorem app_raw {X : Cx} {pins : List (Addr × Obj)} {σ : L2.St} {H : Hp} {s : Shared} {E : Value → Shared → Prop} {D : Addr} {xs : List V} {y : V} {v : Value} {Q : Value → Shared → Prop} (I : Inv X pins σ H s) (hD : H D = some (.lst xs)) (hz : xs.length < sizeLine) (r : RelV y v)
    (h : ∀ h', Inv X pins σ (upd H D (.lst (xs ++ [y]))) { s with heap := h' } → (∀ b o, b ≠ D → s.heap.get? b = some o → h'.get? b = some o) → Q .none { s with heap := h' }) : wpAny (model X.prog X.w) X.A (call (.builtin "list.append") [.ref D, v]) Q E s := by
  obtain ⟨hz', its, n, ri, e⟩ := I.hok D _ hD
  have hl := ri.length
  refine append_at (hsz := by rw [List.size_toArray]; omega) e fun h' sb ho' => ?_
  refine h h' (I.write (t' := s.toks) (by rw [hD]; trivial) (.inl rfl) (fun b u hb q => (sb.2 b hb).trans q) ⟨_, ho'⟩ ⟨by rw [List.length_append]; exact hz, its ++ [v], n + 1, ri.append (.cons r .nil), ?_⟩) fun b o hb q => (sb.2 b hb).trans q
  rw [ho']
  simp
open Classical in
/-- a generator's frame and what cells stand by it -/
noncomputable def besides (h : Heap) (L : Addr) (H : Hp) : List Addr := (List.range h.objs.size).filter fun b => decide (L ≤ b ∧ H b = none ∧ (b = L ∨ ∃ o, h.get? b = some o ∧ isCell o = true))
theorem mem_besides {h : Heap} {L : Addr} {H : Hp} {b : Addr} : b ∈ besides h L H ↔ b < h.objs.size ∧ L ≤ b ∧ H b = none ∧ (b = L ∨ ∃ o, h.get? b = some o ∧ isCell o = true) := by
  unfold besides
  rw [List.mem_filter, List.mem_range]
  simp
/-- tuples tracked at last -/
def trk (H : Hp) (l : Pl) : Hp := fun b => match l.lookup b with
  | some q => some (.tup [.int q.1, .int q.2])
  | none => H b
theorem trk_old {H : Hp} {l : Pl} (hl : ∀ p ∈ l, H p.1 = none) {b : Addr} {o : HO} (h : H b = some o) : trk H l b = some o := by
  unfold trk
  cases e : l.lookup b with
  | none => exact h
  | some q => have := hl _ (lookup_mem' e); rw [h] at this; cases this
theorem trk_at {P : Program} {w : World} {H : Hp} {h : Heap} {l : Pl} (hl : ∀ p ∈ l, IsT P w h p.1 p.2) {p : Addr × (Nat × Int)} (hp : p ∈ l) : trk H l p.1 = some (.tup [.int p.2.1, .int p.2.2]) := by
  unfold trk
  obtain ⟨b', e⟩ := mem_lookup (l := l) (a := p.1) (b := p.2) hp
  rw [e]
  have z : b' = p.2 := (hl _ (lookup_mem' e)).uniq (hl p hp)
  rw [z]
theorem trk_cases {H : Hp} {l : Pl} {b : Addr} {o : HO} (h : trk H l b = some o) : (∃ q, (b, q) ∈ l ∧ o = .tup [.int q.1, .int q.2]) ∨ H b = some o := by
  unfold trk at h
  cases e : l.lookup b with
  | none => rw [e] at h; exact .inr h
  | some q => rw [e] at h; cases h; exact .inl ⟨q, lookup_mem' e, rfl⟩
theorem trk_none {H : Hp} {l : Pl} {b : Addr} (h : H b = none) (n : b ∉ l.map (·.1)) : trk H l b = none := by
  cases e : trk H l b with
  | none => rfl
  | some o =>
    rcases trk_cases e with ⟨q, hq, _⟩ | z
    · exact absurd (List.mem_map.mpr ⟨_, hq, rfl⟩) n
    · rw [h] at z; cases z
theorem inv_track {X : Cx} {pins : List (Addr × Obj)} {σ : L2.St} {H : Hp} {s : Shared} {l : Pl} (I : Inv X pins σ H s) (ht : ∀ p ∈ l, IsT X.prog X.w s.heap p.1 p.2) (hf : ∀ p ∈ l, FpOk X pins H p.1) : Inv X pins σ (trk H l) s := by
  have hn : ∀ p ∈ l, H p.1 = none := fun p hp => (hf p hp).1
  refine I.call' (ch := l.map (·.1)) rfl ⟨fun b o e _ _ _ => e, fun b o e _ _ _ => ⟨o.slots, e⟩, fun b o e n hx => trk_none n hx, fun b o e _ => ⟨o, e⟩, fun b xs e => trk_old hn e, fun b o u e => trk_old hn e, fun b ps e => ⟨#[], by rw [trk_old hn e]; simp⟩⟩ (fun b o e => ?_) I.bare fun b hb => ?_
  · rcases trk_cases e with ⟨q, hq, rfl⟩ | z
    · exact ht _ hq
    · exact (I.hok b o z).stay (fun _ _ _ y => y) (fun _ y => trk_old hn y) fun _ _ y => trk_old hn y
  · obtain ⟨p, hp, rfl⟩ := List.mem_map.mp hb
    obtain ⟨h1, h2, h3, h4, h5, h6⟩ := hf p hp
    exact ⟨h4, h2, h5, h6⟩
theorem zip_snoc {ts : List Addr} {t : Addr} {zs : List (Nat × Int)} {q : Nat × Int} (hq : zs[ts.length]? = some q) {p : Addr × (Nat × Int)} (h : p ∈ (ts ++ [t]).zip zs) : p ∈ ts.zip zs ∨ p = (t, q) := by
  obtain ⟨i, hi⟩ := List.mem_iff_getElem?.mp h
  obtain ⟨h1, h2⟩ := List.getElem?_zip_eq_some.mp hi
  by_cases lt : i < ts.length
  · rw [List.getElem?_append_left lt] at h1
    exact .inl (List.mem_iff_getElem?.mpr ⟨i, List.getElem?_zip_eq_some.mpr ⟨h1, h2⟩⟩)
  · have : i < (ts ++ [t]).length := (List.getElem?_eq_some_iff.mp h1).1
    rw [List.length_append, List.length_singleton] at this
    have e : i = ts.length := by omega
    subst e
    rw [List.getElem?_append_right (Nat.le_refl _), Nat.sub_self] at h1
    rw [hq] at h2
    cases h1; cases h2
    exact .inr rfl
theorem items_of {H : Hp} : ∀ {ts : List Addr} {zs : List (Nat × Int)}, ts.length = zs.length → (∀ p ∈ ts.zip zs, H p.1 = some (.tup [.int p.2.1, .int p.2.2])) → Paired (fun v q => ∃ t, v = V.ref t ∧ H t = some (.tup [.int q.1, .int q.2])) (ts.map V.ref) zs
  | [], [], _, _ => .nil
  | [], _ :: _, h, _ => by simp at h
  | _ :: _, [], h, _ => by simp at h
  | t :: ts, q :: zs, h, f => .cons ⟨t, rfl, f (t, q) List.mem_cons_self⟩ (items_of (by simpa using h) fun p hp => f p (List.mem_cons_of_mem _ hp))
section
variable {X : Cx}
theorem lc_gen {pins : List (Addr × Obj)} {s s0 s1 : Shared} {σ : L2.St} {H1 : Hp} {scope : Scope} {x : Str} {j : Nat} {elt tg iter : Expr} {pos px pe : Pos} {use : Option (Value → Sem Unit)} {Qf : Value → Shared → Prop} {cL cG cT cF f fo : Addr} {cdv : Value} {a g : Nat} {S : Lts} {Fr : Frst} {zs : List (Nat × Int)} {k : Nat}
    (hc : X.calm = true) (hN : X.N.Nodup) (I0 : Inv X pins σ H1 s0) (wm : WM X.base X.stack f cdv fo s0 s1 a g) (ok : BlkOk X.N X.env.scope scope [(x, j)]) (hx : scope.names.lookup x = some .local) (hx1 : (x == ("__debug__" : Str)) = false) (hx2 : (x == ("__classdict__" : Str)) = false) (hnc : ∀ n cl, cellsFrom n scope.names (cloFrom cl scope.names []) = [])
    (T : Mo X.K X.mg cL cG cT cF) (Mr : Md X.prog X.w X.K X.mg X.base cF 1 "roots" pFRts (spFRts X.K cL cF)) (Mc : Md X.prog X.w X.K X.mg X.base cF 1 "children" pFChi (spFChi X.K cL cF)) (hr : Room 3 X.A) (F : FPre X.K cL cF H1 fo S Fr) (iw : IsWalk Fr zs) (hz : zs.length ≤ 20000)
    (hQ : ∀ D C s' m H', Inv X pins σ H' s' → Ext H1 H' → H1 D = none → ItemsAt H' D zs → s'.heap.Ns C m → FpOk X pins H' C → compPost (model X.prog X.w) X.A X.xe use Qf (.ref D) C (.ok .next) s') :
    wpAny (model X.prog X.w) X.A (pyIter (.ref a)) (fun it s₂ => wpAny (model X.prog X.w) X.A (newList []) (fun acc s₃ =>
      wpAny (model X.prog X.w) X.A (newFunctionEnv scope X.env.globals (cloFrom X.env.cells scope.names []) [] X.env.qual none .none (some X.env)) (fun cenv s₄ =>
        codeAny (model X.prog X.w) X.A (.compStart (.ListComp (.Name x pe) [⟨.Name x px, iter, [], 0⟩] scope pos) 0 it acc { cenv with scope := relabel scope X.env }) (compPost (model X.prog X.w) X.A X.xe use Qf acc cenv.locals) s₄) X.xe s₃) X.xe s₂) X.xe s1 := by
  have I1 : Inv X pins σ H1 s1 := I0.call' (ch := []) wm.os (Un.kept wm.keep) (I0.hok.kept wm.keep) wm.bare fun b hb => by simp at hb
  refine wpAny_pyIter_gen wm.gen ?_
  refine wpAny_newObj_type (newEnv_comp ?_) (by show 0 ≤ sizeLine; decide)
  generalize hD : s1.heap.objs.size = D
  have hDn : H1 D = none := I1.hok.fresh (Nat.le_of_eq hD)
  generalize hs3 : ({ s1 with heap := s1.heap.push { cls := .type "list", data := .seq ([] : List Value).toArray } } : Shared) = s3
  have k13 : ∀ b o, s1.heap.get? b = some o → s3.heap.get? b = some o := fun b o e => by rw [← hs3]; exact Heap.get?_push_of_some _ e
  have I3 : Inv X pins σ (upd H1 D (.lst [])) s3 := by
    rw [← hs3]
    refine I1.laid (t' := s1.toks) (fun b o e => Heap.get?_push_of_some _ e) (Nat.le_of_eq hD) ⟨Nat.zero_le _, [], 0, .nil, ?_⟩
    rw [← hD]
    exact Heap.get?_push_size _ rfl
  generalize hH3 : upd H1 D (.lst []) = H3 at I3
  have h3 : s3.heap = s1.heap.push { cls := .type "list", data := .seq ([] : List Value).toArray } := by rw [← hs3]
  have sz0 : s0.heap.objs.size < s1.heap.objs.size := by obtain ⟨m, hn, _⟩ := wm.loc; exact hn.lt
  have sz3 : s3.heap.objs.size = D + 1 := by rw [h3, Heap.size_push, hD]
  have lt13 : s1.heap.objs.size < s3.heap.objs.size := by rw [sz3, hD]; exact Nat.lt_succ_self _
  have lt03 : s0.heap.objs.size < s3.heap.objs.size := Nat.lt_trans sz0 lt13
  generalize hfp : besides s3.heap s0.heap.objs.size H3 = fp
  have f3 : ∀ b ∈ fp, FpOk X pins H3 b ∧ b < s3.heap.objs.size := fun b hb => by
    rw [← hfp] at hb
    obtain ⟨h1, h2, h3, _⟩ := mem_besides.mp hb
    exact ⟨I0.fpOk h2 h3, h1⟩
  have I4 := block_start I3 ok hN f3
  show codeAny _ _ (.compStart (.ListComp (.Name x pe) [⟨.Name x px, iter, [], 0⟩] scope pos) 0 (.ref a) (.ref D) (compEnvC scope (cellsFrom (s3.heap.objs.size + 1) scope.names (cloFrom X.env.cells scope.names [])) s3.heap.objs.size X.env)) (compPost (model X.prog X.w) X.A X.xe use Qf (.ref D) s3.heap.objs.size) { s3 with heap := pushCells (s3.heap.push { cls := .type "dict", data := .dict #[] }) scope.names }
  generalize hce : compEnvC scope (cellsFrom (s3.heap.objs.size + 1) scope.names (cloFrom X.env.cells scope.names [])) s3.heap.objs.size X.env = ce at I4 ⊢
  have cL : ce.locals = s3.heap.objs.size := by subst hce; rfl
  have cc : ∀ y, ce.cells.lookup y = none := fun y => by
    have : ce.cells = [] := by subst hce; exact hnc _ _
    rw [this]; rfl
  have cx : ce.scope.names.lookup x = some .local := by subst hce; exact lookup_relabel_local hx
  generalize hs4 : ({ s3 with heap := pushCells (s3.heap.push { cls := .type "dict", data := .dict #[] }) scope.names } : Shared) = s4 at I4 ⊢
  have k34 : ∀ b o, s3.heap.get? b = some o → s4.heap.get? b = some o := fun b o e => by rw [← hs4]; exact pushCells_keeps _ _ _ _ (Heap.get?_push_of_some _ e)
  have k14 : ∀ b o, s1.heap.get? b = some o → s4.heap.get? b = some o := fun b o e => k34 b o (k13 b o e)
  have cn : ∀ y c, (wEnv s0.heap.objs.size f cdv).cells.lookup y = some c → H3 c = none ∧ c < s1.heap.objs.size ∧ ∃ o, s3.heap.get? c = some o ∧ isCell o = true := fun y c e => by
    obtain ⟨v, o, ho, hd⟩ := wm.cell y c e
    have lt := Heap.lt_size ho
    refine ⟨?_, lt, o, k13 c o ho, by unfold isCell; rw [hd]⟩
    rw [← hH3, upd_ne (by rw [← hD]; exact Nat.ne_of_lt lt)]
    exact I0.hok.fresh (wm.env.cab y c e)
  have lN : H3 s0.heap.objs.size = none := by
    rw [← hH3, upd_ne (by rw [← hD]; exact Nat.ne_of_lt sz0)]
    exact I0.hok.fresh (Nat.le_refl _)
  have e13 : Ext H1 H3 := by rw [← hH3]; exact Ext.upd hDn
  have frlt : ∀ b ∈ frs X.stack, b < s0.heap.objs.size := wm.env.old
  have con : Con (X.blk s3 H3 scope ce fp) [] (wipe σ [j]) H3 s4 (core H1) s0.heap.objs.size f cdv [ce.locals] := {
    i0 := I4
    nc := cc
    env := wm.env
    simple := fun b o h => (core_sub h).2
    own := fun dx a h => core_own h
    sub := fun b o h => e13 b o (core_sub h).1
    hf := (core_ok I1.hok).kept k14
    dl := lN
    dc := fun y c e => (cn y c e).1
    ow := .inr ⟨rfl, fun hm => by
        have := frlt _ hm
        rw [show (X.blk s3 H3 scope ce fp).env.locals = s3.heap.objs.size from cL] at this
        exact absurd (Nat.lt_trans lt03 this) (Nat.lt_irrefl _), by show ce.locals ≠ _; rw [cL]; exact Nat.ne_of_gt lt03, fun y c e => by
        have := (cn y c e).2.1
        show c ≠ ce.locals
        rw [cL]; exact Nat.ne_of_lt (Nat.lt_trans this lt13)⟩
    pin := fun p hp => absurd (show p ∈ ([] : List (Addr × Obj)) ++ [] from hp) (by simp)
    old := fun b o h hx hn => by
      have h : s3.heap.get? b = some o := h
      have hx : b ∉ besides s3.heap s0.heap.objs.size H3 := by rw [hfp]; exact hx
      have lt := Heap.lt_size h
      have n1 : b ≠ s0.heap.objs.size := fun z => hx (mem_besides.mpr ⟨lt, Nat.le_of_eq z.symm, hn, .inl z⟩)
      refine ⟨n1, fun y c e z => hx (mem_besides.mpr ⟨lt, ?_, hn, .inr ?_⟩), ?_⟩
      · rw [← z]; exact wm.env.cab y c e
      · rw [← z]; exact (cn y c e).2.2
      · by_cases hl : b < s0.heap.objs.size
        · exact .inl hl
        · refine .inr fun u hu => ?_
          rw [k34 b o h] at hu
          cases hu
          cases q : isCell o with
          | false => rfl
          | true => exact absurd (mem_besides.mpr ⟨lt, Nat.le_of_not_lt hl, hn, .inr ⟨o, h, q⟩⟩) hx }
  have hH3D : H3 D = some (.lst []) := by rw [← hH3]; exact upd_same
  have dmU : ∀ vs b, (upd H3 D (.lst vs)) b ≠ none ↔ H3 b ≠ none := fun vs b => by
    by_cases z : b = D
    · rw [z, upd_same, hH3D]; exact ⟨fun _ => (by intro h; cases h), fun _ => (by intro h; cases h)⟩
    · rw [upd_ne z]
  have subU : ∀ vs, Ext (core H1) (upd H3 D (.lst vs)) := fun vs b o h => by
    rw [upd_ne (fun z => by have := (core_sub h).1; rw [z, hDn] at this; cases this)]
    exact e13 b o (core_sub h).1
  obtain ⟨go, nm, qn, hgo, hgc, hgd, hgs⟩ := id wm.gen
  have aD : a < D := by rw [← hD]; exact Heap.lt_size hgo
  have a0 : s0.heap.objs.size < a := wm.lt
  have aH3 : H3 a = none := by
    rw [← hH3, upd_ne (Nat.ne_of_lt aD)]
    exact I0.hok.fresh (Nat.le_of_lt a0)
  have aE : (conG (X.blk s3 H3 scope ce fp) H3 s4 (core H1) s0.heap.objs.size f cdv [ce.locals]).E a = some go := by
    refine of_stands (k14 _ _ hgo) aH3 (fun z => ?_) (fun z => absurd (Nat.lt_trans a0 (frlt _ z)) (Nat.lt_irrefl _)) (Nat.ne_of_gt a0) (fun y c e z => ?_) (.inr (by unfold isCell; rw [hgd]))
    · have z := List.mem_singleton.mp z
      rw [cL, sz3] at z
      rw [z] at aD
      exact absurd (Nat.lt_trans aD (Nat.lt_succ_self _)) (Nat.lt_irrefl _)
    · obtain ⟨o, ho, hc'⟩ := (cn y c e).2.2
      rw [z, k13 _ _ hgo] at ho
      cases ho
      unfold isCell at hc'
      rw [hgd] at hc'
      cases hc'
  have ga : ∀ h : Heap, h.get? a = some go → h.IsGen a g := fun h e => ⟨go, nm, qn, e, hgc, hgd, hgs⟩
  have E4 : ∀ b o, stands s4.heap H3 [ce.locals] X.stack (wEnv s0.heap.objs.size f cdv) b = some o → s4.heap.get? b = some o := fun b o h => (stands_of h).1
  have gens4 : s4.gens = s1.gens := by rw [← hs4, ← hs3]
  have hj : X.N[j]? = some x := ok.ix (x, j) List.mem_cons_self
  have loop : codeAny (model X.prog X.w) X.A (.compLoop (.ListComp (.Name x pe) [⟨.Name x px, iter, [], 0⟩] scope pos) 0 (.ref a) (.ref D) ce) (compPost (model X.prog X.w) X.A X.xe use Qf (.ref D) s3.heap.objs.size) s4 := by
    refine compLoop_any (fun n s' => ∃ ts : List Addr, n + ts.length = zs.length ∧ Inv (X.blk s3 H3 scope ce fp) [] (wipe σ [j]) (upd H3 D (.lst (ts.map V.ref))) s' ∧ (∀ b o, stands s4.heap H3 [ce.locals] X.stack (wEnv s0.heap.objs.size f cdv) b = some o → s'.heap.get? b = some o) ∧
      (∀ p ∈ ts.zip zs, (conG (X.blk s3 H3 scope ce fp) H3 s4 (core H1) s0.heap.objs.size f cdv [ce.locals]).PB p.1 ∧ s0.heap.objs.size < p.1 ∧ IsT X.prog X.w s'.heap p.1 p.2) ∧
      ∃ gs, s'.gens[g]? = some gs ∧ gs.Goes (model X.prog X.w) X.A.in1 (RW (conG (X.blk s3 H3 scope ce fp) H3 s4 (core H1) s0.heap.objs.size f cdv [ce.locals])) (YW (conG (X.blk s3 H3 scope ce fp) H3 s4 (core H1) s0.heap.objs.size f cdv [ce.locals]) zs) n (.send .none) (s'.setGen g .running)) ?_ zs.length ?_
    · rintro n s5 ⟨ts, hn, I5, E5, T5, gs, hgs5, hgo5⟩
      refine gen_next (Y := X.blk s3 H3 scope ce fp) con (I0.ok.hd hc) hr.depth I5 (dmU _) (subU _) (ga _ (E5 a go aE)) (fun s1 kp => ga _ (kp.e a go aE)) hgs5 hgo5 (fun h0 s6 I6 tk => ?_) (fun m t q gs' s6 hm hle hq I6 ht pb hlt kp hgs6 tk hw => ?_)
      · have I7 : Inv X pins σ (upd H3 D (.lst (ts.map V.ref))) s6 := I3.call' (ch := fp) I6.os I6.base I6.hok I6.bare fun b hb => ⟨(f3 b hb).1.2.2.2.1, (f3 b hb).1.2.1, (f3 b hb).1.2.2.2.2.1, (f3 b hb).1.2.2.2.2.2⟩
        have T6 : ∀ p ∈ ts.zip zs, IsT X.prog X.w s6.heap p.1 p.2 := fun p hp => tk p.1 p.2 (T5 p hp).1 (T5 p hp).2.2
        have N6 : ∀ p ∈ ts.zip zs, (upd H3 D (.lst (ts.map V.ref))) p.1 = none := fun p hp => by
          cases z : (upd H3 D (.lst (ts.map V.ref))) p.1 with
          | none => rfl
          | some o => exact absurd ((dmU _ _).mp (by rw [z]; intro y; cases y)) (T5 p hp).1.dm
        have I8 := inv_track I7 T6 fun p hp => I0.fpOk (Nat.le_of_lt (T5 p hp).2.1) (N6 p hp)
        have nC : (upd H3 D (.lst (ts.map V.ref))) ce.locals = none := I6.free
        obtain ⟨mm, hmm, _⟩ := I6.loc
        have hmm : s6.heap.Ns ce.locals mm := hmm
        rw [cL] at hmm nC
        have e2 : Ext H1 (upd H3 D (.lst (ts.map V.ref))) := fun b o h => by rw [upd_ne (ne_of_none h hDn)]; exact e13 b o h
        refine hQ D s3.heap.objs.size s6 mm _ I8 (fun b o h => trk_old N6 (e2 b o h)) hDn ⟨_, trk_old N6 upd_same, items_of (by omega) fun p hp => trk_at T6 hp⟩ hmm (I3.fpOk (Nat.le_refl _) (trk_none nC fun hm => ?_))
        obtain ⟨p, hp, e⟩ := List.mem_map.mp hm
        exact (T5 p hp).1.ow (by show p.1 ∈ [ce.locals]; rw [cL, ← e]; exact List.mem_singleton.mpr rfl)
      · show wpAny _ X.A (letOwnedTupleGo (.Name x px) (.ref a) (.ref t)) _ _ s6
        refine go_of (o := go) (kp.e a go aE) hgc hgd (by decide) ?_
        have hnt : ∀ b, H3 b = none → b ≠ D := fun b h z => by rw [z, hH3D] at h; cases h
        have uN : ∀ vs b, H3 b = none → (upd H3 D (.lst vs)) b = none := fun vs b h => by rw [upd_ne (hnt b h)]; exact h
        refine thnF ((pgg_name (X := X.blk s3 H3 scope ce fp) (pos := px) (j := j) hN hj cx).run [] s6 _ _ (.ref t) (.ref t) (fun σ' H' => σ' = (wipe σ [j]).set j (some (.ref t)) ∧ H' = upd H3 D (.lst (ts.map V.ref))) I6 rfl ⟨rfl, rfl⟩) fun _ s7 ⟨σ7, H7, I7, ⟨e7, f7⟩, k7⟩ => ?_
        subst e7 f7
        refine wpAny_tests_nil ?_
        rw [if_pos rfl]
        have hjl : j < (wipe σ [j]).length := by rw [wipe_length]; have := I0.len; rw [this]; exact (List.getElem?_eq_some_iff.mp hj).1
        refine thnF ((pg_var (X := X.blk s3 H3 scope ce fp) (pos := pe) (j := j) hj (.inl cx) hx1 hx2).run [] s7 _ _ (fun v H' => v = .ref t ∧ H' = upd H3 D (.lst (ts.map V.ref))) I7 ⟨_, by rw [List.getElem?_set_self hjl], rfl, rfl⟩) fun u s8 ⟨v, H8, I8, rv, ⟨e8, f8⟩, k8⟩ => ?_
        subst e8 f8
        obtain rfl : u = Value.ref t := rv
        refine app_raw (X := X.blk s3 H3 scope ce fp) (y := .ref t) I8 upd_same (by rw [List.length_map, sizeLine_eq]; omega) rfl fun h' I9 k9 => ?_
        have hlen : m + (ts ++ [t]).length = zs.length := by rw [List.length_append, List.length_singleton]; omega
        have keep : ∀ b o, H3 b = none → b ≠ ce.locals → s6.heap.get? b = some o → h'.get? b = some o := fun b o h1 h2 h3 =>
          k9 b o (hnt b h1) (k8.keep b o h2 (uN _ b h1) (k7.keep b o h2 (uN _ b h1) h3))
        have I10 : Inv (X.blk s3 H3 scope ce fp) [] (wipe σ [j]) (upd H3 D (.lst ((ts ++ [t]).map V.ref))) { s8 with heap := h' } := by
          rw [upd_upd] at I9
          rw [List.map_append]
          refine I9.weak (by rw [List.length_set]) fun i v e => ?_
          by_cases z : i = j
          · subst z
            have y : (wipe σ [i])[i]? = some none := by
              show ((wipe σ []).set i none)[i]? = some none
              rw [List.getElem?_set_self (by rw [wipe_length] at hjl; exact hjl)]
            rw [y] at e; cases e
          · rw [List.getElem?_set_ne (Ne.symm z)]; exact e
        have E10 : ∀ b o, stands s4.heap H3 [ce.locals] X.stack (wEnv s0.heap.objs.size f cdv) b = some o → h'.get? b = some o := fun b o h => by
          obtain ⟨_, y1, y2, _⟩ := stands_of h
          exact keep b o y1 (fun z => y2 (by rw [z]; exact List.mem_singleton.mpr rfl)) (kp.e b o h)
        have dn : ∀ b, ¬ (H3 b ≠ none) → H3 b = none := fun b h => Classical.byContradiction h
        have nz : zs.length - n = ts.length := by omega
        rw [nz] at hq
        refine ⟨m, by omega, ts ++ [t], hlen, I10, E10, fun p hp => ?_, gs', ?_, ?_⟩
        · have new : ∀ p : Addr × (Nat × Int), (conG (X.blk s3 H3 scope ce fp) H3 s4 (core H1) s0.heap.objs.size f cdv [ce.locals]).PB p.1 → IsT X.prog X.w s6.heap p.1 p.2 → IsT X.prog X.w h' p.1 p.2 := fun p pp x => by
            refine x.stay (fun b u hb y => keep b u ?_ ?_ y) (fun _ y => y) fun _ _ y => y
            · rcases hb with rfl | hb
              · exact dn _ pp.dm
              · cases hb
            · rcases hb with rfl | hb
              · exact fun z => pp.ow (by rw [z]; exact List.mem_singleton.mpr rfl)
              · cases hb
          rcases zip_snoc hq hp with z | rfl
          · obtain ⟨y1, y2, y3⟩ := T5 p z
            exact ⟨y1, y2, new p y1 (tk p.1 p.2 y1 y3)⟩
          · exact ⟨pb, hlt, new (t, q) pb ht⟩
        · show s8.gens[g]? = some gs'
          rw [k8.gens, k7.gens]; exact hgs6
        · refine hw _ ⟨con.rest (inv_gens I10 rfl) (dmU _) (subU _) con.hf E10, ?_, fun b o h1 h2 h3 h4 => ?_⟩
          · show s8.os = s6.os
            exact I8.os.trans I6.os.symm
          · exact keep b o (dn b h1) (fun z => h2 (by rw [z]; exact List.mem_singleton.mpr rfl)) h4
    · refine ⟨[], rfl, ?_, E4, fun p hp => (by simp at hp), .fresh (.func bWalk (wEnv s0.heap.objs.size f cdv)), by rw [gens4]; exact wm.fresh, rfl, ?_⟩
      · have z : upd H3 D (.lst (List.map V.ref [])) = H3 := by rw [← hH3, upd_upd]; rfl
        rw [z]; exact I4
      · have I4' := inv_gens I4 (g := g) (x := .running) rfl
        have r4 := con.rest I4' (fun _ => Iff.rfl) con.sub con.hf E4
        obtain ⟨m, ⟨o, es, ep, ho, rr⟩, hl⟩ := wm.loc
        refine walk_wake (A := X.A.in1) T Mr Mc ?_ I0.ok.frames (by rw [sizeLine_eq]; omega) iw con.gok r4 (fpre_core F) ⟨o, es, ep, k14 _ o ho, rr⟩ (fun i y v h1 h2 h3 => ?_) fun y c e => ?_
        · exact ⟨hr.hd, by have := hr.dp; show X.A.depth + 1 + 3 * 1 + 5 < _; omega, by have := hr.un; show X.A.units + 1 + 3 + 16 * 1 + 200 < _; omega⟩
        · obtain ⟨u, r1, l⟩ := hl i y v h1 h2 h3
          refine ⟨u, r1, ?_⟩
          rcases l with l | ⟨hk, c, hc, o, hco, hd⟩
          · exact .inl l
          · exact .inr ⟨hk, c, hc, o, k14 c o hco, hd⟩
        · obtain ⟨u, o, ho, hd⟩ := wm.cell y c e
          exact ⟨u, o, k14 c o ho, hd⟩
  exact codeAny_compStart_list loop (wpAny_pyIter_gen (ga _ (k14 _ _ hgo)) loop)
end
end K9
set_option Elab.async false
set_option linter.all false
set_option maxRecDepth 100000
set_option maxHeartbeats 4000000
/-! G8: [x for x in o.walk_trees()], as an expression and as a statement. -/
namespace K9
open PySem PySem.Spec PyProof.Rows L2 SX GenW
def tWalkL (K : PySem.W.Frag) (cL cF : Addr) (t : L2.St → Hp → (Addr → Hp → Prop) → Prop) : TE := fun σ H Q => t σ H fun fo H1 => ∃ S Fr zs, FPre K cL cF H1 fo S Fr ∧ IsWalk Fr zs ∧ zs.length ≤ 20000 ∧ ∀ D H', Ext H1 H' → H1 D = none → ItemsAt H' D zs → Q (.ref D) H'
section
variable {X : Cx} {scope : Scope} {x : Str} {j : Nat} {iter : Expr} {pos px pe : Pos} {cL cG cT cF : Addr} {t : L2.St → Hp → (Addr → Hp → Prop) → Prop}
theorem lw_core {pins : List (Addr × Obj)} {s : Shared} {σ : L2.St} {H : Hp} {Q : VK} {pos' : Pos} {use : Option (Value → Sem Unit)} {Qf : Value → Shared → Prop}
    (hc : X.calm = true) (hN : X.N.Nodup) (hw : PW X iter t) (ok : BlkOk X.N X.env.scope scope [(x, j)]) (hx : scope.names.lookup x = some .local) (hx1 : (x == ("__debug__" : Str)) = false) (hx2 : (x == ("__classdict__" : Str)) = false) (hnc : ∀ n cl, cellsFrom n scope.names (cloFrom cl scope.names []) = [])
    (T : Mo X.K X.mg cL cG cT cF) (Mr : Md X.prog X.w X.K X.mg X.base cF 1 "roots" pFRts (spFRts X.K cL cF)) (Mc : Md X.prog X.w X.K X.mg X.base cF 1 "children" pFChi (spFChi X.K cL cF)) (hr : Room 3 X.A) (hs : ∀ x, foldedSetIterable iter X.env x = pure x) (I : Inv X pins σ H s)
    (h : tWalkL X.K cL cF t σ H Q)
    (hRR : ∀ D C s' m H', Inv X pins σ H' s' → Q (.ref D) H' → s'.heap.Ns C m → FpOk X pins H' C → compPost (model X.prog X.w) X.A X.xe use Qf (.ref D) C (.ok .next) s') :
    wpAny (model X.prog X.w) X.A (comprehension (.ListComp (.Name x pe) [⟨.Name x px, iter, [], 0⟩] scope pos) scope X.env pos' (newList []) false (eval iter X.env) use) Qf X.xe s := by
  have hfree : ∀ y ∈ scope.names, y.2 = .free → ∃ c, X.env.cells.lookup y.1 = some c := fun y hy e => by
    rcases ok.free y hy e with k | k
    · exact I.ok.has _ (.inl k)
    · exact I.ok.has _ (.inr k)
  refine wpAny_comprehension_free (use := use) rfl hs (closure_ok hfree) ok.kind (fun y hy e => by rw [ok.uniq y hy, e])
    (thn (hw.run pins s σ H _ I h) fun xv s1 ⟨s0, H1, fo, f, cdv, a, g, ea, I0, wm, S, Fr, zs, F, iw, hz, k⟩ => ?_)
  subst ea
  exact lc_gen (elt := .Name x pe) (tg := .Name x px) (s := s) (k := 0) hc hN I0 wm ok hx hx1 hx2 hnc T Mr Mc hr F iw hz fun D C s' m H' I' e hD it hn hf => hRR D C s' m H' I' (k D H' e hD it) hn hf
theorem pe_walkL (hc : X.calm = true) (hN : X.N.Nodup) (hw : PW X iter t) (ok : BlkOk X.N X.env.scope scope [(x, j)]) (hx : scope.names.lookup x = some .local) (T : Mo X.K X.mg cL cG cT cF) (Mr : Md X.prog X.w X.K X.mg X.base cF 1 "roots" pFRts (spFRts X.K cL cF)) (Mc : Md X.prog X.w X.K X.mg X.base cF 1 "children" pFChi (spFChi X.K cL cF)) (hr : Room 3 X.A)
    (hnc : ∀ n cl, cellsFrom n scope.names (cloFrom cl scope.names []) = [] := by intro _ _; rfl) (hx1 : (x == ("__debug__" : Str)) = false := by decide) (hx2 : (x == ("__classdict__" : Str)) = false := by decide) (hs : ∀ x, foldedSetIterable iter X.env x = pure x := by intro _; rfl) :
    PE X (.ListComp (.Name x pe) [⟨.Name x px, iter, [], 0⟩] scope pos) (tWalkL X.K cL cF t) := by
  refine ⟨fun pins s σ H Q I h => ?_⟩
  rw [eval_ListComp]
  refine lw_core hc hN hw ok hx hx1 hx2 hnc T Mr Mc hr hs I h fun D C s' m H' I' q hn f => ⟨m, hn, fun h'' sb => ?_⟩
  obtain ⟨f0, f1, f2, f3, f4, f5⟩ := f
  exact ⟨.ref D, H', I'.turned (t' := s'.toks) (fun b o hb e => (sb.2 b hb).trans e) f0 f1 f3 f4 f5, rfl, q⟩
theorem ps_setWalkL {i : Nat} {y : Str} {py spos : Pos} (hc : X.calm = true) (hN : X.N.Nodup) (hy : X.N[i]? = some y) (hyl : X.env.scope.names.lookup y = some .local)
    (hsw : swapsWith (.ListComp (.Name x pe) [⟨.Name x px, iter, [], 0⟩] scope pos) (some (.Name y py)) spos.line X.env = pure true) (hw : PW X iter t) (ok : BlkOk X.N X.env.scope scope [(x, j)]) (hx : scope.names.lookup x = some .local) (T : Mo X.K X.mg cL cG cT cF) (Mr : Md X.prog X.w X.K X.mg X.base cF 1 "roots" pFRts (spFRts X.K cL cF)) (Mc : Md X.prog X.w X.K X.mg X.base cF 1 "children" pFChi (spFChi X.K cL cF)) (hr : Room 3 X.A)
    (hnc : ∀ n cl, cellsFrom n scope.names (cloFrom cl scope.names []) = [] := by intro _ _; rfl) (hx1 : (x == ("__debug__" : Str)) = false := by decide) (hx2 : (x == ("__classdict__" : Str)) = false := by decide) (hs : ∀ x, foldedSetIterable iter X.env x = pure x := by intro _; rfl) :
    PS X (.Assign [.Name y py] (.ListComp (.Name x pe) [⟨.Name x px, iter, [], 0⟩] scope pos) spos) (tAsg (tWalkL X.K cL cF t) (gName i)) := by
  refine ⟨fun pins s σ H D I h => ?_⟩
  rw [exec_Assign_Name_used _ _ _ _ hsw]
  refine wpAny_bind (wpAny_standAt (wpAny_bind ?_))
  show wpAny _ X.A (do let _ ← comprehension (.ListComp (.Name x pe) [⟨.Name x px, iter, [], 0⟩] scope pos) scope X.env (firstIterPos [⟨.Name x px, iter, [], 0⟩] pos) (newList []) false (eval iter X.env) (some (assign (.Name y py) X.env))) _ _ s
  have h : tWalkL X.K cL cF t σ H (fun x H1 => gName i x σ H1 D.nx) := h
  refine wpAny_bind (thn (lw_core (Qf := fun _ s' => SP X pins D .next s') hc hN hw ok hx hx1 hx2 hnc T Mr Mc hr hs I h fun L C s' m H' I' q hn f => ?_) fun _ s' hq => wpAny_pure (wpAny_pure hq))
  show wpAny _ _ (assign (.Name y py) X.env (.ref L)) _ _ _
  refine wpAny_assign_Name (store_ok2 (v := V.ref L) I' hN hy (.inl hyl) rfl (fun s2 I2 ⟨a, sb, ha⟩ => ?_) (.inr hyl))
  obtain ⟨f0, f1, f2, f3, f4, f5⟩ := f
  have haC : C ≠ a := by
    rcases ha with z | z
    · rw [z]; exact f1
    · exact fun e => f4 y a z e.symm
  refine ⟨m, hn.sameBut sb haC, fun h3 sb3 => ?_⟩
  exact ⟨_, H', I2.turned (t' := s2.toks) (fun b o hb e => (sb3.2 b hb).trans e) f0 f1 f3 f4 f5, q⟩
end
end K9
set_option Elab.async false
set_option linter.all false
set_option maxRecDepth 100000
set_option maxHeartbeats 8000000
/-! G9: for a, b in o.walk_trees(). -/
namespace K9
open PySem PySem.Spec PyProof.Rows L2 SX GenW
/-- the core but one list -/
noncomputable def coreX (H : Hp) (l : Addr) : Hp := fun b => if b = l then none else core H b
theorem coreX_sub {H : Hp} {l b : Addr} {o : HO} (h : coreX H l b = some o) : b ≠ l ∧ core H b = some o := by
  unfold coreX at h
  by_cases e : b = l
  · rw [if_pos e] at h; cases h
  · rw [if_neg e] at h; exact ⟨e, h⟩
theorem coreX_at {H : Hp} {l b : Addr} {o : HO} (e : b ≠ l) (h : core H b = some o) : coreX H l b = some o := by
  unfold coreX; rw [if_neg e]; exact h
theorem coreX_ne {H : Hp} {l b : Addr} {vs : List V} {o : HO} (hl : H l = some (.lst vs)) (h : core H b = some o) (n : ∀ vs, o ≠ .lst vs) : b ≠ l := fun z => by
  have := (core_sub h).1
  rw [z, hl] at this
  exact n vs (Option.some.inj this).symm
theorem coreX_ok {P : Program} {w : World} {H : Hp} {h : Heap} {l : Addr} {vs : List V} (k : HOk P w H h) (hl : H l = some (.lst vs)) : HOk P w (coreX H l) h := fun b o e => by
  obtain ⟨_, e'⟩ := coreX_sub e
  exact (core_ok k b o e').stay (fun _ _ _ y => y) (fun d y => coreX_at (coreX_ne hl y fun vs z => by cases z) y) fun d xs y => coreX_at (coreX_ne hl y fun vs z => by cases z) y
theorem coreX_own {H : Hp} {l : Addr} {vs : List V} (hl : H l = some (.lst vs)) {a dx : Addr} (h : coreX H l dx = some (.own a)) : ∃ o, coreX H l a = some o := by
  obtain ⟨C, d, fs, h1⟩ := core_own' (coreX_sub h).2
  have h2 : core H a = some (.ins C d fs) := core_at h1 rfl (fun a z => by cases z)
  exact ⟨_, coreX_at (coreX_ne hl h2 fun vs z => by cases z) h2⟩
def tForW (K : PySem.W.Frag) (cL cF : Addr) (t : L2.St → Hp → (Addr → Hp → Prop) → Prop) (j k : Nat) (tb : TS) : TS := fun D σ H => t σ H fun fo H1 => ∃ He l vs S Fr zs, Ext He H1 ∧ He l = none ∧ H1 l = some (.lst vs) ∧ FPre K cL cF He fo S Fr ∧ IsWalk Fr zs ∧ zs.length ≤ 20000 ∧
  ∃ W : Nat → L2.St → Hp → Prop, W 0 σ H1 ∧ (∀ i σ' H', W i σ' H' → ExtB l H1 H' ∧ ∀ b, H' b ≠ none ↔ H1 b ≠ none) ∧ (∀ σ' H', W zs.length σ' H' → D.nx σ' H') ∧
    ∀ i q σ' H', zs[i]? = some q → W i σ' H' → tb { D with nx := W (i + 1) } ((σ'.set j (some (.int q.1))).set k (some (.int q.2))) H'
section
variable {X : Cx}
theorem two_raw {pins : List (Addr × Obj)} {σ : L2.St} {H : Hp} {s : Shared} {pos : Pos} {j k : Nat} {x y : Str} {px py : Pos} {kk} {a : Addr} {q : Nat × Int} {Q : Unit → Shared → Prop} (I : Inv X pins σ H s) (ht : IsT X.prog X.w s.heap a q)
    (hc : X.calm = true) (hN : X.N.Nodup) (hi : X.N[j]? = some x) (hj : X.N[k]? = some y) (hx : X.env.scope.names.lookup x = some .local) (hy : X.env.scope.names.lookup y = some .local)
    (hn : (assignEach [.Name x px, .Name y py] X.env).map (·.2) = [assign (.Name x px) X.env, assign (.Name y py) X.env]) (hst : (assignEach [.Name x px, .Name y py] X.env).findIdx? (·.1) = none)
    (h : ∀ s', Inv X pins ((σ.set j (some (.int q.1))).set k (some (.int q.2))) H s' → KG X H H s s' → Q () s') : wpAny (model X.prog X.w) X.A (assign (.Tuple [.Name x px, .Name y py] kk pos) X.env (.ref a)) Q X.xe s := by
  obtain ⟨_, its, rv, ht⟩ := ht
  obtain ⟨u1, u2, rfl, r1, r2⟩ := rv.two
  refine assign_Tuple_tuple (I.ok.hd hc) ht (by
    have := congrArg List.length hn
    simpa using this) hst fun h' hx' => ?_
  have kx : ∀ b o, s.heap.get? b = some o → h'.get? b = some o := fun b o e => hx' b o (Nat.ne_of_lt (Heap.lt_size e)) e
  have I1 : Inv X pins σ H { s with heap := h' } := I.kept (t' := s.toks) kx
  have k0 : KG X H H s { s with heap := h' } := ⟨rfl, fun b o _ _ e => kx b o e, fun _ _ _ e => e, fun b o e => ⟨o, kx b o e⟩⟩
  rw [hn]
  refine assignInOrder_cons (thn ((pgg_name hN hi hx).run pins _ σ H _ u1 (fun σ' H' => σ.set j (some (.int q.1)) = σ' ∧ H = H') I1 r1 ⟨rfl, rfl⟩) fun _ s1 z => ?_)
  obtain ⟨_, _, I2, ⟨rfl, rfl⟩, k1⟩ := z
  refine assignInOrder_cons (thn ((pgg_name hN hj hy).run pins s1 _ _ _ u2 (fun σ' H' => (σ.set j (some (.int q.1))).set k (some (.int q.2)) = σ' ∧ H = H') I2 r2 ⟨rfl, rfl⟩) fun _ s2 z => ?_)
  obtain ⟨_, _, I3, ⟨rfl, rfl⟩, k2⟩ := z
  exact assignInOrder_nil (h _ I3 ((k0.trans k1).trans k2))
theorem ps_forW {iter : Expr} {body : List Stmt} {tb : TS} {pos pt : Pos} {j k : Nat} {x y : Str} {px py : Pos} {kk} {cL cG cT cF : Addr} {t : L2.St → Hp → (Addr → Hp → Prop) → Prop} (hp : PassesOwn (model X.prog X.w) X.A X.env X.xe) (hc : X.calm = true) (hN : X.N.Nodup) (hw : PW X iter t) (hb : PSsg X body tb)
    (hi : X.N[j]? = some x) (hj : X.N[k]? = some y) (hx : X.env.scope.names.lookup x = some .local) (hy : X.env.scope.names.lookup y = some .local) (hnc : ∀ y, X.env.cells.lookup y = none) (hex : X.ex = []) (hstk : X.stack = X.env :: X.outer ∧ X.env.frame = some X.env.locals)
    (T : Mo X.K X.mg cL cG cT cF) (Mr : Md X.prog X.w X.K X.mg X.base cF 1 "roots" pFRts (spFRts X.K cL cF)) (Mc : Md X.prog X.w X.K X.mg X.base cF 1 "children" pFChi (spFChi X.K cL cF)) (hr : Room 3 X.A)
    (hn : (assignEach [.Name x px, .Name y py] X.env).map (·.2) = [assign (.Name x px) X.env, assign (.Name y py) X.env] := by rfl) (hst : (assignEach [.Name x px, .Name y py] X.env).findIdx? (·.1) = none := by rfl)
    (hs : ∀ x, foldedSetIterable iter X.env x = pure x := by intro _; rfl) : PS X (.For (.Tuple [.Name x px, .Name y py] kk pt) iter body [] pos) (tForW X.K cL cF t j k tb) := by
  refine ⟨fun pins s σ H D I h => ?_⟩
  refine wpAny_For (thn (hw.run pins s σ H _ I h) fun v s1 ⟨s0, H1, fo, f, cdv, a, g, ea, I0, wm, He, l, vs, S, Fr, zs, eHe, hel, hl, F, iw, hz, W, w0, wP, wD, wS⟩ => ?_) hs
  subst ea
  refine wpAny_pyIter_gen wm.gen ?_
  have I1 : Inv X pins σ H1 s1 := I0.call' (ch := []) wm.os (Un.kept wm.keep) (I0.hok.kept wm.keep) wm.bare fun b hb => by simp at hb
  have lN : H1 s0.heap.objs.size = none := I0.hok.fresh (Nat.le_refl _)
  have lc : ∀ y c, (wEnv s0.heap.objs.size f cdv).cells.lookup y = some c → H1 c = none := fun y c e => I0.hok.fresh (wm.env.cab y c e)
  have lt0 : X.s_0.heap.objs.size < s0.heap.objs.size := Nat.lt_of_le_of_lt I0.ok.above I0.lt
  have hfr : X.env.locals ∈ frs X.stack := by
    rw [hstk.1]; unfold frs; rw [List.filterMap_cons, hstk.2]; exact List.mem_cons_self
  have con : Con X pins σ H1 s1 (coreX H1 l) s0.heap.objs.size f cdv [] := {
    i0 := I1
    nc := hnc
    env := wm.env
    simple := fun b o h => (core_sub (coreX_sub h).2).2
    own := fun dx a h => coreX_own hl h
    sub := fun b o h => (core_sub (coreX_sub h).2).1
    hf := coreX_ok I1.hok hl
    dl := lN
    dc := lc
    ow := .inl ⟨rfl, hfr⟩
    pin := fun p hp => Heap.lt_size (I0.pin p hp).1
    old := fun b o h _ _ => by
      have lt : b < s0.heap.objs.size := Nat.lt_trans (Heap.lt_size h) lt0
      refine ⟨Nat.ne_of_lt lt, fun y c e z => ?_, .inl lt⟩
      have := wm.env.cab y c e
      rw [z] at this
      exact absurd (Nat.lt_of_lt_of_le lt this) (Nat.lt_irrefl _) }
  have FX : FPre X.K cL cF (coreX H1 l) fo S Fr := by
    obtain ⟨⟨H0, D0⟩, iF⟩ := fpre_core F
    exact ⟨⟨H0, D0.ext fun b o h => coreX_at (fun z => by rw [z, core_none hel] at h; cases h) (core_mono eHe _ _ h)⟩, iF⟩
  have frlt : ∀ b ∈ frs X.stack, b < s0.heap.objs.size := wm.env.old
  obtain ⟨go, nm, qn, hgo, hgc, hgd, hgs⟩ := id wm.gen
  have a0 : s0.heap.objs.size < a := wm.lt
  have aE : (conG X H1 s1 (coreX H1 l) s0.heap.objs.size f cdv []).E a = some go := by
    refine of_stands hgo (I0.hok.fresh (Nat.le_of_lt a0)) (by simp) (fun z => absurd (Nat.lt_trans a0 (frlt _ z)) (Nat.lt_irrefl _)) (Nat.ne_of_gt a0) (fun y c e z => ?_) (.inr (by unfold isCell; rw [hgd]))
    obtain ⟨v, o, ho, hc'⟩ := wm.cell y c e
    rw [z, hgo] at ho
    cases ho
    rw [hgd] at hc'
    cases hc'
  have ga : ∀ h : Heap, h.get? a = some go → h.IsGen a g := fun h e => ⟨go, nm, qn, e, hgc, hgd, hgs⟩
  have E1 : ∀ b o, stands s1.heap H1 [] X.stack (wEnv s0.heap.objs.size f cdv) b = some o → s1.heap.get? b = some o := fun b o h => (stands_of h).1
  have subW : ∀ {H'}, ExtB l H1 H' → Ext (coreX H1 l) H' := fun e b o h => e b o (coreX_sub h).1 (core_sub (coreX_sub h).2).1
  refine codeAny_forLoop_any (fun n s' => ∃ i σ' H', n + i = zs.length ∧ Inv X pins σ' H' s' ∧ W i σ' H' ∧ (∀ b o, stands s1.heap H1 [] X.stack (wEnv s0.heap.objs.size f cdv) b = some o → s'.heap.get? b = some o) ∧
      ∃ gs, s'.gens[g]? = some gs ∧ gs.Goes (model X.prog X.w) X.A.in1 (RW (conG X H1 s1 (coreX H1 l) s0.heap.objs.size f cdv [])) (YW (conG X H1 s1 (coreX H1 l) s0.heap.objs.size f cdv []) zs) n (.send .none) (s'.setGen g .running)) ?_ zs.length ?_
  · rintro n s5 ⟨i, σ5, H5, hni, I5, w5, E5, gs, hgs5, hgo5⟩
    obtain ⟨x5, d5⟩ := wP i σ5 H5 w5
    refine gen_next (Y := X) con (I0.ok.hd hc) hr.depth I5 d5 (subW x5) (ga _ (E5 a go aE)) (fun s1 kp => ga _ (kp.e a go aE)) hgs5 hgo5 (fun h0 s6 I6 tk => ?_) (fun m t q gs' s6 hm hle hq I6 ht pb hlt kp hgs6 tk hw => ?_)
    · have e : i = zs.length := by omega
      subst e
      exact wpAny_execs_nil ⟨σ5, H5, I6, wD _ _ w5⟩
    · have ni : zs.length - n = i := by omega
      rw [ni] at hq
      refine go_of (o := go) (kp.e a go aE) hgc hgd (by decide) ?_
      refine wpAny_passesOwn hp (two_raw I6 ht hc hN hi hj hx hy hn hst fun s7 I7 k7 => ?_)
      refine wpAny_passesOwn hp (thn (hb.run pins s7 _ H5 { D with nx := W (i + 1) } I7 (wS i q σ5 H5 hq w5)) fun fl s8 ⟨ef, σ8, H8, I8, w8, k8⟩ => ?_)
      subst ef
      have w8 : W (i + 1) σ8 H8 := w8
      obtain ⟨x8, d8⟩ := wP _ _ _ w8
      have keep : ∀ b o, H1 b = none → b ≠ X.env.locals → s6.heap.get? b = some o → s8.heap.get? b = some o := fun b o h1 h2 h3 => by
        have h5 : H5 b = none := Classical.byContradiction fun z => ((d5 b).mp z) h1
        exact k8.keep b o h2 h5 (k7.keep b o h2 h5 h3)
      have E8 : ∀ b o, stands s1.heap H1 [] X.stack (wEnv s0.heap.objs.size f cdv) b = some o → s8.heap.get? b = some o := fun b o h => by
        obtain ⟨_, y1, _, y3, _⟩ := stands_of h
        exact keep b o y1 (fun z => y3 (by rw [z]; exact hfr)) (kp.e b o h)
      refine ⟨m, by omega, i + 1, σ8, H8, by omega, I8, w8, E8, gs', ?_, ?_⟩
      · rw [k8.gens, k7.gens]; exact hgs6
      · refine hw _ ⟨con.rest (inv_gens I8 rfl) d8 (subW x8) con.hf E8, ?_, fun b o h1 h2 h3 h4 => ?_⟩
        · show s8.os = s6.os
          exact I8.os.trans I6.os.symm
        · exact keep b o (Classical.byContradiction h1) (fun z => h3 (by rw [z]; exact hfr)) h4
  · refine ⟨0, σ, H1, by omega, I1, w0, E1, .fresh (.func bWalk (wEnv s0.heap.objs.size f cdv)), wm.fresh, rfl, ?_⟩
    obtain ⟨x0, d0⟩ := wP 0 σ H1 w0
    have r4 := con.rest (inv_gens I1 (g := g) (x := .running) rfl) (fun _ => Iff.rfl) con.sub con.hf E1
    obtain ⟨m, hns, hv⟩ := wm.loc
    exact walk_wake (A := X.A.in1) T Mr Mc ⟨hr.hd, by have := hr.dp; show X.A.depth + 1 + 3 * 1 + 5 < _; omega, by have := hr.un; show X.A.units + 1 + 3 + 16 * 1 + 200 < _; omega⟩ I0.ok.frames (by rw [sizeLine_eq]; omega) iw con.gok r4 FX hns hv wm.cell
end
end K9
set_option Elab.async false
set_option linter.all false
set_option maxRecDepth 100000
set_option maxHeartbeats 8000000
/-! WD: the drawn lines. -/
namespace K9
open PySem PySem.Spec PyProof.Rows L2 SX GenW
/-- a line that is drawn of an item -/
def LineOf (l : Str) (q : Nat × Int) : Prop := ∃ y sd : Str, (q.1 < 1000 → y.length = 3) ∧ y.length ≤ 13 ∧ sd.length ≤ 40 ∧ l = (((y ++ (" " : Str)) ++ Str.ofString (toString q.2)) ++ (" " : Str)) ++ sd
def spFDrw (K : PySem.W.Frag) (cL cF : Addr) : Sp := fun vs H Q _ => ∃ (fo : Addr) (S : Lts) (Fr : Frst) (zs : List (Nat × Int)), vs = [.ref fo] ∧ FPre K cL cF H fo S Fr ∧ IsWalk Fr zs ∧ zs.length ≤ 20000 ∧ (∀ q ∈ zs, NumOk q.2) ∧
  ∀ D H' ls, Ext H H' → H' D = some (.lst (ls.map V.str)) → Paired LineOf ls zs → Q (.ref D) H'
section
variable {P : Program} {w : World} {K : PySem.W.Frag} {mg : Str → Option Value} {base : Heap} {cL cG cT cF fw : Addr} {fdw : FuncData}
theorem ok_fdrw {f : Addr} {fd : FuncData} (F : Fun K "drawn" "Forest.drawn" sFDrw f fd) (T : Mo K mg cL cG cT cF) (hnd : base.NoDigits) (Mr : Md P w K mg base cF 1 "roots" pFRts (spFRts K cL cF)) (Mc : Md P w K mg base cF 1 "children" pFChi (spFChi K cL cF))
    (hmw : Meth K cF "walk_trees" fw) (Fw : Fun K "walk_trees" "Forest.walk_trees" sWalk fw fdw) (hbw : Binds K fdw pWalk []) : FnOk P w K mg base CX0 4 f fd pFDrw (spFDrw K cL cF) := by
  refine F.ok scFDrw (fun vs H Q E h => ?_) (fun cdv A outer s H vs Q E hr h => ?_)
  · obtain ⟨_, _, _, _, rfl, _⟩ := h; rfl
  · obtain ⟨fo, S, Fr, zs, rfl, Fp, iw, hz, hnum, kk⟩ := h
    have hu := hu_of hr
    have hr1 : Room 1 (A.deeper (envOfC "Forest.drawn" (defScope sFDrw) s.heap.objs.size f cdv)) := hr.mono (by decide)
    refine ⟨_, pss_cons (ps_set (i := 1) scFDrw.nd rfl (Or.inl rfl) (pe_lst pa_nil)) (pss_cons (ps_forW (j := 2) (k := 3) PassesOwn.never rfl scFDrw.nd (pw_meth (pv 0) T.kF.cl hmw Fw hbw hr1)
      (pssg_cons (psg_set (j := 4) scFDrw.nd rfl rfl (pg_if (ptg_din hu (pg_var (j := 3) rfl (Or.inl rfl)) (pg_fld (pg_var (j := 0) rfl (Or.inl rfl)) rfl)) (pg_fld (pg_dget hu (pg_fld (pg_var (j := 0) rfl (Or.inl rfl)) rfl) (pg_var (j := 3) rfl (Or.inl rfl)) (fun _ _ => rfl)) rfl) pg_str))
        (pssg_cons (psg_expr (pg_append (pg_var (j := 1) rfl (Or.inl rfl)) (pg_joined (.cons (pg_fmt3 hnd (pg_var (j := 2) rfl (Or.inl rfl))) (.cons pg_str (.cons (pg_fmt (pg_var (j := 3) rfl (Or.inl rfl))) (.cons pg_str (.cons (pg_fmt (pg_var (j := 4) rfl (Or.inl rfl))) .nil)))))))) pssg_nil))
      rfl rfl rfl rfl (fun _ => by rfl) rfl ⟨rfl, rfl⟩ T Mr Mc hr) (pss_one (ps_ret (pv 1)))), ?_⟩
    obtain ⟨⟨Hx, D0⟩, iF⟩ := id Fp
    obtain ⟨dl, da, db, dr, kn, bl, rv, St, hdl, hkn, RS, hk9⟩ := D0.par
    obtain ⟨dt, hf⟩ := St.ob
    refine ⟨Nat.zero_le _, fun l hl => ?_⟩
    have e1 : ∀ vs, Ext H (upd H l (.lst vs)) := fun vs => Ext.upd hl
    have ex1 : ∀ vs vs', ExtB l (upd H l (.lst vs)) (upd H l (.lst vs')) := fun vs vs' b o nb h => by rw [upd_ne nb] at h ⊢; exact h
    refine ⟨_, rfl, fo, dt, _, rfl, e1 _ _ _ hf, rfl, H, l, [], S, Fr, zs, e1 _, hl, upd_same, Fp, iw, hz, fun i σ' H' => ∃ ls : List Str, ls.length = i ∧ Paired LineOf ls (zs.take i) ∧ H' = upd H l (.lst (ls.map V.str)) ∧ ∃ u2 u3 u4, σ' = [some (.ref fo), some (.ref l), u2, u3, u4],
      ⟨[], rfl, .nil, rfl, _, _, _, rfl⟩, ?_, ?_, ?_⟩
    · rintro i σ' H' ⟨ls, h1, h2, rfl, u2, u3, u4, rfl⟩
      refine ⟨ex1 _ _, fun b => ?_⟩
      by_cases z : b = l
      · rw [z, upd_same, upd_same]; exact ⟨fun _ => (by intro h; cases h), fun _ => (by intro h; cases h)⟩
      · rw [upd_ne z, upd_ne z]
    · rintro σ' H' ⟨ls, h1, h2, rfl, u2, u3, u4, rfl⟩
      rw [List.take_length] at h2
      exact ⟨_, rfl, kk l _ ls (e1 _) upd_same h2⟩
    · rintro i q σ' H' hq ⟨ls, h1, h2, rfl, u2, u3, u4, rfl⟩
      have nq := hnum q (List.mem_of_getElem? hq)
      have hi : i < zs.length := (List.getElem?_eq_some_iff.mp hq).1
      have hq' : q ∈ zs := List.mem_of_getElem? hq
      have nk : q.2 ∈ Fr.ks := (iw.mem q.2).mp (List.mem_map.mpr ⟨q, hq', rfl⟩)
      have hd : q.1 < 10 ^ 10 := by
        obtain ⟨ps, P1, P2⟩ := iw.deep q hq'
        rw [iF.p] at P1
        have := (St.fq (path_ex (parOf_is _))).short ((hkn q.2).mpr ((iF.ks q.2).mp nk)) P1
        have := St.few.1
        omega
      have fin : ∀ (D : Ends) (sd : Str), sd.length ≤ 40 → (∀ ls' : List Str, ls'.length = i + 1 → Paired LineOf ls' (zs.take (i + 1)) → D.nx [some (.ref fo), some (.ref l), some (.int q.1), some (.int q.2), some (.str sd)] (upd H l (.lst (ls'.map V.str)))) →
          tSeq (tDrop (tAppG K (tVar 1) (fun σ H Q => tJs [tFmt3 (tVar 2), tC (.str " "), tFmt (tVar 3), tC (.str " "), tFmt (tVar 4)] Str.empty σ H fun out H1 => Q (.str out) H1))) tNext
          D [some (.ref fo), some (.ref l), some (.int q.1), some (.int q.2), some (.str sd)] (upd H l (.lst (ls.map V.str))) := fun D sd hsd k2 => by
        have sl := str_int_len nq
        have sp : (" " : Str).length = 1 := by decide
        have e0 : ∀ y : Str, (Str.empty ++ y).length = y.length := fun y => by rw [PySem.Str.length_append]; show 0 + y.length = _; omega
        refine ⟨_, rfl, l, rfl, ⟨_, upd_same⟩, _, rfl, q.1, rfl, hd, fun y y3 y13 => ⟨y, rfl, ?_, _, rfl, ?_, _, rfl, .inr ⟨q.2, rfl, num_log nq, _, rfl, ?_, _, rfl, ?_, _, rfl, .inl ⟨sd, rfl, ?_, _, rfl, ?_, _, upd_same, ?_, ?_⟩⟩⟩⟩
        · rw [e0, sizeLine_eq]; omega
        · rw [PySem.Str.length_append, e0, sp, sizeLine_eq]; omega
        · rw [PySem.Str.length_append, PySem.Str.length_append, e0, sp, sizeLine_eq]; omega
        · rw [PySem.Str.length_append, PySem.Str.length_append, PySem.Str.length_append, e0, sp, sizeLine_eq]; omega
        · rw [sizeLine_eq]; omega
        · rw [PySem.Str.length_append, PySem.Str.length_append, PySem.Str.length_append, PySem.Str.length_append, e0, sp, sizeLine_eq]; omega
        · rw [List.length_map, h1, sizeLine_eq]; omega
        · have z := k2 (ls ++ [Str.empty ++ y ++ (" " : Str) ++ Str.ofString (toString q.2) ++ (" " : Str) ++ sd]) (by rw [List.length_append, h1]; rfl) (by
            rw [List.take_add_one, hq]
            exact h2.snoc ⟨Str.empty ++ y, sd, fun h => by rw [e0]; exact y3 h, by rw [e0]; exact y13, hsd, rfl⟩)
          rw [List.map_append] at z
          rw [upd_upd]
          exact z
      have g := DGet.k (k := Sum.inl q.2) (e1 (ls.map V.str) _ _ hdl)
      refine ⟨_, rfl, _, rfl, fo, cF, dt, _, _, rfl, e1 _ _ _ hf, T.kF.cl, T.nF_letters, rfl, dl, _, rfl, g, _, rfl, ?_⟩
      by_cases c : ∃ b, (q.2, b) ∈ lk S
      · obtain ⟨b, hb⟩ := c
        obtain ⟨Ld, hm, hn⟩ := lk_mem.mp hb
        obtain ⟨dx, ta, ts, tw, sd, tx, hL, _, _, _, h40⟩ := ((D0.ls (b, Ld) hm).ext D0.old).ext (e1 (ls.map V.str))
        rw [rowsD_some (f := V.ref) (by rw [lk_fst]; exact D0.nd) hb] at g ⊢
        refine iteT ⟨_, rfl, fo, cF, dt, _, _, rfl, e1 _ _ _ hf, T.kF.cl, T.nF_letters, rfl, _, rfl, dl, _, rfl, g, b, cL, dx, _, _, rfl, hL, T.kL.cl, T.nL_sender, rfl, ?_⟩
        exact fin _ sd h40 fun ls' z1 z2 => ⟨ls', z1, z2, rfl, _, _, _, rfl⟩
      · rw [rowsD_none (f := V.ref) fun b hb => c ⟨b, hb⟩]
        refine iteF ?_
        exact fin _ "-" (by decide) fun ls' z1 z2 => ⟨ls', z1, z2, rfl, _, _, _, rfl⟩
end
end K9
set_option Elab.async false
set_option linter.all false
set_option maxRecDepth 100000
set_option maxHeartbeats 8000000
/-! LA1: the law's bag. -/
namespace K9
open PySem PySem.Spec PyProof.Rows L2 SX
/-- a bag of numbers; n takes at most so far -/
def BagAt (H : Hp) (b : Addr) (n : Nat) : Prop := ∃ d m c : Int, H b = some (.lst [.int d, .int m, .int c]) ∧ 0 ≤ d ∧ 0 ≤ m ∧ m < 11529215050000000000 ∧ 0 ≤ c ∧ c ≤ n
def spTake : Sp := fun vs H Q _ => ∃ (b : Addr) (many : Int) (n : Nat), vs = [.ref b, .int many] ∧ BagAt H b n ∧ n ≤ 1000000000 ∧ 0 < many ∧ many ≤ 10 ^ 30 ∧ ∀ v H', 0 ≤ v → v < many → ExtB b H H' → BagAt H' b (n + 1) → (∀ a, H a = none → H' a = none) → Q (.int v) H'
section
variable {P : Program} {w : World} {K : PySem.W.Frag} {mg : Str → Option Value} {base : Heap} {cL cG cT cF : Addr}
theorem ok_take {f : Addr} {fd : FuncData} (F : Fun K "_law_take" "_law_take" sTake f fd) (T : Mo K mg cL cG cT cF) : FnOk P w K mg base CX0 1 f fd pTake spTake := by
  refine F.ok scTake (fun vs H Q E h => ?_) (fun cdv A outer s H vs Q E hr h => ?_)
  · obtain ⟨_, _, _, rfl, _⟩ := h; rfl
  · obtain ⟨b, many, n, rfl, ⟨d, m, c, hb, hd, hm, hm2, hc, hcn⟩, hn, h0, h30, k⟩ := h
    refine ⟨_, pss_cons (ps_if (pt_cmpR op_gt (pe_ix ix_seq (pv 0) pe_int (fun _ _ => rfl)) pe_int (nomark _))
        (pss_cons (ps_set (i := 2) scTake.nd rfl (Or.inl rfl) (pe_op op_mod (pe_callTy call_int1 (by rfl) T.b_int boot_int (pa_cons (pe_ix ix_seq (pv 0) pe_int (fun _ _ => rfl)) pa_nil)) (pv 1)))
          (pss_cons (ps_asg (pe_op op_fdivW (pe_ix ix_seq (pv 0) pe_int (fun _ _ => rfl)) (pv 1)) (pg_sub (pv 0) pe_int set_list (fun _ => rfl)))
            (pss_one (ps_ret (pv 2))))) pss_nil)
      (pss_cons (ps_asg (pe_op op_add (pe_ix ix_seq (pv 0) pe_int (fun _ _ => rfl)) pe_int) (pg_sub (pv 0) pe_int set_list (fun _ => rfl)))
        (pss_cons (ps_set (i := 3) scTake.nd rfl (Or.inl rfl) (pe_op op_mod (pe_callTy call_int1 (by rfl) T.b_int boot_int (pa_cons (pe_op op_pow (pe_op op_add (pe_ix ix_seq (pv 0) pe_int (fun _ _ => rfl)) (pe_op op_mul pe_int (pe_ix ix_seq (pv 0) pe_int (fun _ _ => rfl)))) pe_int) pa_nil)) pe_int))
          (pss_cons (ps_set (i := 3) scTake.nd rfl (Or.inl rfl) (pe_op op_mod (pe_callTy call_int1 (by rfl) T.b_int boot_int (pa_cons (pe_op op_pow (pe_op op_add (pv 3) (pe_op op_mul pe_int (pe_ix ix_seq (pv 0) pe_int (fun _ _ => rfl)))) pe_int) pa_nil)) pe_int))
            (pss_one (ps_ret (pe_op op_mod (pe_callTy call_int1 (by rfl) T.b_int boot_int (pa_cons (pe_op op_fdiv (pv 3) pe_int) pa_nil)) (pv 1))))))), ?_⟩
    have ix0 : ∀ {H' : Hp} {d m c : Int} {Q : VK}, H' b = some (.lst [.int d, .int m, .int c]) → Q (.int d) H' → rIx K (.ref b) (.int 0) H' Q := fun h q => .inl ⟨b, _, 0, _, rfl, rfl, .inl (.inl h), rfl, q⟩
    have ix1 : ∀ {H' : Hp} {d m c : Int} {Q : VK}, H' b = some (.lst [.int d, .int m, .int c]) → Q (.int m) H' → rIx K (.ref b) (.int 1) H' Q := fun h q => .inl ⟨b, _, 1, _, rfl, rfl, .inl (.inl h), rfl, q⟩
    have ix2 : ∀ {H' : Hp} {d m c : Int} {Q : VK}, H' b = some (.lst [.int d, .int m, .int c]) → Q (.int c) H' → rIx K (.ref b) (.int 2) H' Q := fun h q => .inl ⟨b, _, 2, _, rfl, rfl, .inl (.inl h), rfl, q⟩
    refine ⟨_, rfl, ix0 hb ⟨_, _, rfl, rfl, _, rfl, ?_⟩⟩
    by_cases p : 0 < d
    · rw [decide_eq_true p]
      refine iteT ?_
      refine ⟨_, rfl, ix0 hb (.inl ⟨_, rfl, _, rfl, _, _, rfl, rfl, h0, ?_⟩)⟩
      refine ⟨_, rfl, ix0 hb ⟨_, rfl, _, _, rfl, rfl, ⟨h0, Nat.lt_trans (num_log ⟨h0, h30⟩) (by decide)⟩, ?_⟩⟩
      refine ⟨_, rfl, b, _, 0, 0, rfl, rfl, hb, rfl, ?_⟩
      refine ⟨_, rfl, k _ _ (Int.emod_nonneg _ (by omega)) (Int.emod_lt_of_pos _ h0) (ExtB.self ExtB.refl) ⟨d / many, m, c, upd_same, Int.ediv_nonneg hd (by omega), hm, hm2, hc, by omega⟩ fun a ha => by rw [upd_ne (fun z => by rw [z, hb] at ha; cases ha)]; exact ha⟩
    · rw [decide_eq_false p]
      refine iteF ?_
      refine ⟨_, rfl, ix2 hb ⟨_, _, rfl, rfl, _, rfl, b, _, 2, 2, rfl, rfl, hb, rfl, ?_⟩⟩
      have h1 : (upd H b (.lst ([V.int d, V.int m, V.int c].set 2 (.int (c + 1))))) b = some (.lst [.int d, .int m, .int (c + 1)]) := upd_same
      refine ⟨_, rfl, ix1 h1 ⟨_, rfl, ix2 h1 ⟨_, _, rfl, rfl, .inl ⟨by decide, by decide⟩, _, _, rfl, rfl, _, _, rfl, rfl, ⟨by decide, by decide, by omega⟩, .inl ⟨_, rfl, _, _, rfl, rfl, (by show (0 : Int) < 2305843009213693921; decide), ?_⟩⟩⟩⟩
      have q0 := Int.emod_nonneg ((m + 1299709 * (c + 1)) ^ Int.toNat 3) (show (2305843009213693921 : Int) ≠ 0 by decide)
      have q1 := Int.emod_lt_of_pos ((m + 1299709 * (c + 1)) ^ Int.toNat 3) (show (0 : Int) < 2305843009213693921 by decide)
      generalize (m + 1299709 * (c + 1)) ^ Int.toNat 3 % 2305843009213693921 = e at q0 q1
      refine ⟨_, rfl, _, rfl, ix2 h1 ⟨_, _, rfl, rfl, .inl ⟨by decide, by decide⟩, _, _, rfl, rfl, _, _, rfl, rfl, ⟨by decide, by decide, by omega⟩, .inl ⟨_, rfl, _, _, rfl, rfl, (by show (0 : Int) < 2305843009213693951; decide), ?_⟩⟩⟩
      generalize (e + 49979687 * (c + 1)) ^ Int.toNat 2 % 2305843009213693951 = e2
      refine ⟨_, rfl, _, _, rfl, rfl, ⟨by decide, by decide⟩, .inl ⟨_, rfl, _, rfl, _, _, rfl, rfl, h0, ?_⟩⟩
      exact k _ _ (Int.emod_nonneg _ (by omega)) (Int.emod_lt_of_pos _ h0) (ExtB.self ExtB.refl) ⟨d, m, c + 1, upd_same, hd, hm, hm2, by omega, by omega⟩ fun a ha => by rw [upd_ne (fun z => by rw [z, hb] at ha; cases ha)]; exact ha
def spBag (K : PySem.W.Frag) : Sp := fun vs H Q _ => ∃ (p : Addr) (xs : List Int) (at_ : Int), vs = [.ref p, .int at_] ∧ SqL K H p (xs.map V.int) ∧ xs.length ≤ sizeLine ∧ 0 ≤ at_ ∧ at_ ≤ 2 ∧ ∀ b H', Ext H H' → H b = none → BagAt H' b 0 → Q (.ref b) H'
theorem ok_bag {f : Addr} {fd : FuncData} (F : Fun K "_law_bag" "_law_bag" sBag f fd) (T : Mo K mg cL cG cT cF) : FnOk P w K mg base CX0 1 f fd pBag (spBag K) := by
  refine F.ok scBag (fun vs H Q E h => ?_) (fun cdv A outer s H vs Q E hr h => ?_)
  · obtain ⟨_, _, _, rfl, _⟩ := h; rfl
  · obtain ⟨p, xs, at_, rfl, hp, hlen, ha0, ha2, k⟩ := h
    refine ⟨_, pss_cons (ps_set (i := 2) scBag.nd rfl (Or.inl rfl) (pe_ifExp (pt_cmpR op_lt (pv 1) (pe_callB call_len_seq (by rfl) T.b_len boot_len (pa_cons (pv 0) pa_nil)) (nomark _)) (pe_ix ix_seq (pv 0) (pv 1) (fun _ _ => rfl)) pe_int))
      (pss_cons (ps_set (i := 3) scBag.nd rfl (Or.inl rfl) (pe_ifExp (pt_cmpR op_ge (pe_callB call_abs (by rfl) T.b_abs boot_abs (pa_cons (pv 2) pa_nil)) (pe_op op_pow pe_int pe_int) (nomark _)) (pe_callB call_abs (by rfl) T.b_abs boot_abs (pa_cons (pv 2) pa_nil)) pe_int))
        (pss_one (ps_ret (pe_lst (pa_cons (pv 3) (pa_cons (pe_op op_add (pe_op op_add (pe_op op_mul (pe_op op_mod (pe_callTy call_int1 (by rfl) T.b_int boot_int (pa_cons (pv 2) pa_nil)) pe_int) pe_int) (pe_op op_mul pe_int (pv 1))) pe_int) (pa_cons pe_int pa_nil))))))), ?_⟩
    refine ⟨_, rfl, _, rfl, p, _, rfl, .inl hp, _, _, rfl, rfl, _, rfl, ?_⟩
    rw [List.length_map]
    have tail : ∀ cell d : Int, 0 ≤ d → ∀ b, H b = none → BagAt (upd H b (.lst [.int d, .int (cell % 2305843009213693951 * 5 + 15485863 * at_ + 7001), .int 0])) b 0 := fun cell d hd b _ => by
      have q0 := Int.emod_nonneg cell (show (2305843009213693951 : Int) ≠ 0 by decide)
      have q1 := Int.emod_lt_of_pos cell (show (0 : Int) < 2305843009213693951 by decide)
      exact ⟨_, _, _, upd_same, hd, by omega, by omega, by decide, by decide⟩
    by_cases c : at_ < (xs.length : Nat)
    · rw [decide_eq_true c]
      obtain ⟨j, rfl⟩ : ∃ j : Nat, at_ = (j : Int) := ⟨at_.toNat, by omega⟩
      have hj : j < xs.length := by omega
      have hx : atI (xs.map V.int) (j : Int) = some (.int xs[j]) := by
        unfold atI ixN
        rw [if_pos ha0, List.length_map, if_pos (by omega)]
        show (xs.map V.int)[(j : Int).toNat]? = _
        rw [Int.toNat_natCast, List.getElem?_map, List.getElem?_eq_getElem hj]; rfl
      refine iteT ⟨_, rfl, _, rfl, .inl ⟨p, _, _, _, rfl, rfl, hp, hx, ?_⟩⟩
      refine ⟨_, rfl, _, rfl, _, _, rfl, rfl, ⟨by decide, by decide, by decide⟩, _, _, rfl, rfl, _, rfl, ?_⟩
      refine ite2 (fun _ => ⟨_, rfl, _, rfl, ?_⟩) fun _ => ?_
      · exact ⟨_, rfl, _, rfl, .inl ⟨_, rfl, _, _, rfl, rfl, (by show (0 : Int) < 2305843009213693951; decide), _, _, rfl, rfl, .inr ⟨by decide, by decide⟩, _, rfl, _, _, rfl, rfl, .inl ⟨by decide, by decide⟩, _, _, rfl, rfl, _, _, rfl, rfl, (by show 3 ≤ sizeLine; decide), fun b hb => k b _ (Ext.upd hb) hb (tail _ _ (by split <;> omega) b hb)⟩⟩
      · exact ⟨_, rfl, _, rfl, .inl ⟨_, rfl, _, _, rfl, rfl, (by show (0 : Int) < 2305843009213693951; decide), _, _, rfl, rfl, .inr ⟨by decide, by decide⟩, _, rfl, _, _, rfl, rfl, .inl ⟨by decide, by decide⟩, _, _, rfl, rfl, _, _, rfl, rfl, (by show 3 ≤ sizeLine; decide), fun b hb => k b _ (Ext.upd hb) hb (tail _ _ (by decide) b hb)⟩⟩
    · rw [decide_eq_false c]
      refine iteF ?_
      refine ⟨_, rfl, _, rfl, _, _, rfl, rfl, ⟨by decide, by decide, by decide⟩, _, _, rfl, rfl, _, rfl, ?_⟩
      refine ite2 (fun _ => ⟨_, rfl, _, rfl, ?_⟩) fun _ => ?_
      · exact ⟨_, rfl, _, rfl, .inl ⟨_, rfl, _, _, rfl, rfl, (by show (0 : Int) < 2305843009213693951; decide), _, _, rfl, rfl, .inr ⟨by decide, by decide⟩, _, rfl, _, _, rfl, rfl, .inl ⟨by decide, by decide⟩, _, _, rfl, rfl, _, _, rfl, rfl, (by show 3 ≤ sizeLine; decide), fun b hb => k b _ (Ext.upd hb) hb (tail _ _ (by split <;> omega) b hb)⟩⟩
      · exact ⟨_, rfl, _, rfl, .inl ⟨_, rfl, _, _, rfl, rfl, (by show (0 : Int) < 2305843009213693951; decide), _, _, rfl, rfl, .inr ⟨by decide, by decide⟩, _, rfl, _, _, rfl, rfl, .inl ⟨by decide, by decide⟩, _, _, rfl, rfl, _, _, rfl, rfl, (by show 3 ≤ sizeLine; decide), fun b hb => k b _ (Ext.upd hb) hb (tail _ _ (by decide) b hb)⟩⟩
end
end K9
set_option Elab.async false
set_option linter.all false
set_option maxRecDepth 100000
set_option maxHeartbeats 8000000
/-! LA2: names and pools. -/
namespace K9
open PySem PySem.Spec PyProof.Rows L2 SX
theorem BagAt.mono {H : Hp} {b : Addr} {n m : Nat} (h : BagAt H b n) (l : n ≤ m) : BagAt H b m := by
  obtain ⟨d, e, c, h1, h2, h3, h4, h5, h6⟩ := h
  exact ⟨d, e, c, h1, h2, h3, h4, h5, by omega⟩
theorem BagAt.keep {H H' : Hp} {b : Addr} {n : Nat} (h : BagAt H b n) (e : Ext H H') : BagAt H' b n := by
  obtain ⟨d, m, c, h1, r⟩ := h
  exact ⟨d, m, c, e _ _ h1, r⟩
theorem abc_at : ∀ j : Nat, j < 26 → ∃ c, atI ("abcdefghijklmnopqrstuvwxyz" : Str).cps.toList (j : Int) = some c ∧ 97 ≤ c ∧ c ≤ 122 := by
  have h : ∀ j : Nat, j < 26 → (match atI ("abcdefghijklmnopqrstuvwxyz" : Str).cps.toList (j : Int) with | some c => decide (97 ≤ c ∧ c ≤ 122) | none => false) = true := by decide +kernel
  intro j hj
  have := h j hj
  cases e : atI ("abcdefghijklmnopqrstuvwxyz" : Str).cps.toList (j : Int) with
  | none => rw [e] at this; cases this
  | some c => rw [e] at this; exact ⟨c, rfl, of_decide_eq_true this⟩
theorem joinL_nil : ∀ ps : List (List Nat), TL.joinL [] ps = ps.flatten
  | [] => rfl
  | [p] => by simp [TL.joinL]
  | p :: q :: r => by
    show p ++ ([] ++ TL.joinL [] (q :: r)) = _
    rw [joinL_nil (q :: r)]; simp
theorem letters_flat : ∀ {zs : List Str}, (∀ z ∈ zs, ∃ c, z = ⟨#[c]⟩ ∧ 97 ≤ c ∧ c ≤ 122) → ((zs.map fun z => z.cps.toList).flatten.length = zs.length ∧ ∀ c ∈ (zs.map fun z => z.cps.toList).flatten, 97 ≤ c ∧ c ≤ 122)
  | [], _ => ⟨rfl, fun c h => by cases h⟩
  | z :: zs, h => by
    obtain ⟨c, rfl, c1, c2⟩ := h z List.mem_cons_self
    obtain ⟨i1, i2⟩ := letters_flat (zs := zs) fun y hy => h y (List.mem_cons_of_mem _ hy)
    refine ⟨by simp only [List.map_cons, List.flatten_cons, List.length_append, List.length_cons, i1]; simp; omega, fun x hx => ?_⟩
    rw [List.map_cons, List.flatten_cons] at hx
    rcases List.mem_append.mp hx with y | y
    · have : x = c := by simpa using y
      subst this
      exact ⟨c1, c2⟩
    · exact i2 x y
def spName : Sp := fun vs H Q _ => ∃ (b : Addr) (n : Nat), vs = [.ref b] ∧ BagAt H b n ∧ n + 10 ≤ 1000000000 ∧ ∀ z H', NameOk z → ExtB b H H' → BagAt H' b (n + 10) → Q (.str z) H'
section
variable {P : Program} {w : World} {K : PySem.W.Frag} {mg : Str → Option Value} {base : Heap} {cL cG cT cF : Addr}
theorem ok_name {f : Addr} {fd : FuncData} (F : Fun K "_law_name" "_law_name" sName f fd) (T : Mo K mg cL cG cT cF) (Gt : Gd P w K mg base 1 "_law_take" pTake spTake) : FnOk P w K mg base CX0 2 f fd pName spName := by
  refine F.ok scName (fun vs H Q E h => ?_) (fun cdv A outer s H vs Q E hr h => ?_)
  · obtain ⟨_, _, rfl, _⟩ := h; rfl
  · obtain ⟨b, n, rfl, hb, hn, k⟩ := h
    refine ⟨_, pss_cons (ps_set (i := 1) scName.nd rfl (Or.inl rfl) (pe_ix ix_seq (pe_lst (pa_cons pe_int (pa_cons pe_int (pa_cons pe_int (pa_cons pe_int pa_nil))))) (pe_g Gt hr (by rfl) (pa_cons (pv 0) (pa_cons pe_int pa_nil))) (fun _ _ => rfl)))
      (pss_one (ps_ret (pe_join pe_str (pe_lc rfl scName.nd (pi_range1 (by rfl) T.b_range (pa_cons (pv 1) pa_nil)) (own := [("_law_turn", 2)]) (blkOk_by (by show blkC nName (defScope sName) _ _ = true; decide +kernel))
        (fun _ _ _ _ _ => pg_name (i := 2) scName.nd rfl (Or.inl rfl)) (fun _ _ _ _ _ => pts_nil) (fun _ _ _ _ _ => pe_ix (ix_seqK K) pe_str (pe_g Gt hr (by rfl) (pa_cons (pv 0) (pa_cons pe_int pa_nil))) (fun _ _ => rfl)))))), ?_⟩
    refine ⟨(by show 4 ≤ sizeLine; decide), fun l hl => ?_⟩
    have bl : l ≠ b := by obtain ⟨d, m, c, h1, _⟩ := hb; exact fun z => by rw [z, h1] at hl; cases hl
    refine ⟨_, rfl, b, 4, n, rfl, hb.keep (Ext.upd hl), by omega, by decide, by decide, fun v H1 v0 v4 e1 hb1 n1 => ?_⟩
    have hl1 := e1 l _ bl upd_same
    obtain ⟨sz, hs, s1, s8⟩ : ∃ sz : Nat, atI [V.int 1, .int 2, .int 3, .int 8] v = some (.int sz) ∧ 1 ≤ sz ∧ sz ≤ 8 := by
      have : v = 0 ∨ v = 1 ∨ v = 2 ∨ v = 3 := by omega
      rcases this with rfl | rfl | rfl | rfl
      · exact ⟨1, rfl, by decide, by decide⟩
      · exact ⟨2, rfl, by decide, by decide⟩
      · exact ⟨3, rfl, by decide, by decide⟩
      · exact ⟨8, rfl, by decide, by decide⟩
    refine .inl ⟨l, _, v, _, rfl, rfl, .inl (.inl hl1), hs, ?_⟩
    refine ⟨⟨_, rfl⟩, _, rfl, sz, rfl, by omega, by omega, fun D hD => ?_⟩
    rw [Int.toNat_natCast]
    refine lc_range (fun i H => ∃ zs : List Str, zs.length = i ∧ (∀ z ∈ zs, ∃ c, z = ⟨#[c]⟩ ∧ 97 ≤ c ∧ c ≤ 122) ∧ H D = some (.lst (zs.map V.str)) ∧ BagAt H b (n + 1 + i) ∧ ExtB b H1 H) ?_ ?_ ?_
    · exact ⟨[], rfl, (fun z hz => by cases hz), upd_same, (hb1.keep (Ext.upd hD)), .of (Ext.upd hD)⟩
    · rintro i H3 hi ⟨zs, hzl, hzs, hD3, hb3, e3⟩
      refine ⟨rfl, _, rfl, b, 26, n + 1 + i, rfl, hb3, by omega, by decide, by decide, fun v H4 v0 v26 e4 hb4 n4 => ?_⟩
      obtain ⟨j, rfl⟩ : ∃ j : Nat, v = (j : Int) := ⟨v.toNat, by omega⟩
      obtain ⟨c, hc, c1, c2⟩ := abc_at j (by omega)
      have nDb : D ≠ b := by obtain ⟨d, m, c, h1, _⟩ := hb1; exact fun z => by rw [z, h1] at hD; cases hD
      refine .inr (.inr ⟨_, _, c, rfl, rfl, (by decide +kernel), hc, ?_⟩)
      have hD4 := e4 D _ nDb hD3
      refine ⟨_, hD4, by rw [List.length_map, hzl, sizeLine_eq]; omega, zs ++ [⟨#[c]⟩], by rw [List.length_append, hzl]; rfl, fun z hz => ?_, by rw [upd_same, List.map_append]; rfl, ?_, ?_⟩
      · rcases List.mem_append.mp hz with y | y
        · exact hzs z y
        · exact ⟨c, List.mem_singleton.mp y, c1, c2⟩
      · obtain ⟨d, m, c, h1, r⟩ := hb4
        exact ⟨d, m, c, by rw [upd_ne nDb.symm]; exact h1, r⟩
      · intro a o na h
        have h3 := e3 a o na h
        rw [upd_ne (ne_of_none h hD)]
        exact e4 a o na h3
    · rintro H3 ⟨zs, hzl, hzs, hD3, hb3, e3⟩
      obtain ⟨l1, l2⟩ := letters_flat hzs
      have hj : (Txt.join ("" : Str) zs).cps.toList = (zs.map fun z => z.cps.toList).flatten := by
        have e : Txt.join ("" : Str) zs = Str.join "" zs := StrLaws.glued_eq_join _ _
        rw [e]
        have z := TL.tl_join "" zs
        rw [show TL.tl ("" : Str) = [] from rfl, joinL_nil] at z
        exact z
      have hlen : (Txt.join ("" : Str) zs).length = sz := by
        have : (Txt.join ("" : Str) zs).length = (Txt.join ("" : Str) zs).cps.toList.length := by rw [Array.length_toList]; rfl
        rw [this, hj, l1, hzl]
      refine ⟨_, D, zs, rfl, rfl, .inl (.inl (.inl hD3)), ?_, k _ _ ⟨by omega, by omega, fun c hc => l2 c (by rw [← hj]; exact hc)⟩ ?_ (hb3.mono (by omega))⟩
      · have : ∀ zs : List Str, (∀ z ∈ zs, ∃ c, z = ⟨#[c]⟩ ∧ 97 ≤ c ∧ c ≤ 122) → (zs.map (·.length)).sum = zs.length := fun zs => by
          induction zs with
          | nil => intro _; rfl
          | cons z zs ih =>
            intro h
            obtain ⟨c, rfl, _⟩ := h z List.mem_cons_self
            rw [List.map_cons, List.sum_cons, ih fun y hy => h y (List.mem_cons_of_mem _ hy)]
            show 1 + _ = _
            rw [List.length_cons]; omega
        rw [this zs hzs, hzl]
        show sz + sz * 0 ≤ _
        omega
      · intro a o na h
        exact e3 a o na (e1 a o na (by rw [upd_ne (ne_of_none h hl)]; exact h))
end
end K9
set_option Elab.async false
set_option linter.all false
set_option maxRecDepth 100000
set_option maxHeartbeats 8000000
/-! LA3: the pool of unlike numbers. -/
namespace K9
open PySem PySem.Spec PyProof.Rows L2 SX
theorem ExtB.put {a : Addr} {H H' : Hp} {p : Addr} {o : HO} (e : ExtB a H H') (h : H p = Option.none) : ExtB a H (upd H' p o) := fun b u n q => by
  rw [upd_ne (fun z => by rw [z, h] at q; cases q)]; exact e b u n q
theorem BagAt.some {H : Hp} {b : Addr} {n : Nat} (h : BagAt H b n) : ∃ o, H b = some o := by obtain ⟨d, m, c, h, _⟩ := h; exact ⟨_, h⟩
theorem BagAt.ne {H : Hp} {b : Addr} {n : Nat} (h : BagAt H b n) {l : Addr} (hl : H l = none) : l ≠ b := by
  obtain ⟨o, e⟩ := h.some
  exact fun z => by rw [z, e] at hl; cases hl
theorem BagAt.put {H : Hp} {b : Addr} {n : Nat} (h : BagAt H b n) {l : Addr} {o : HO} (hl : l ≠ b) : BagAt (upd H l o) b n := by
  obtain ⟨d, m, c, h, r⟩ := h
  exact ⟨d, m, c, by rw [upd_ne hl.symm]; exact h, r⟩
theorem ints_flat (ns : List Int) : (ns.map V.int).all flatV = true := by
  rw [List.all_map]; exact List.all_eq_true.mpr fun x _ => rfl
def spPool : Sp := fun vs H Q _ => ∃ (b : Addr) (many : Nat) (n : Nat), vs = [.ref b, .int many] ∧ BagAt H b n ∧ n + 200 ≤ 1000000000 ∧ 1 ≤ many ∧ many ≤ 40 ∧
  ∀ (l : Addr) (ns : List Int) H', H' l = some (.lst (ns.map V.int)) → H l = none → ns.length = many → ns.Nodup → (∀ x ∈ ns, NumOk x) → ExtB b H H' → BagAt H' b (n + 100) → Q (.ref l) H'
section
variable {P : Program} {w : World} {K : PySem.W.Frag} {mg : Str → Option Value} {base : Heap} {cL cG cT cF : Addr}
theorem ok_pool {f : Addr} {fd : FuncData} (F : Fun K "_law_pool" "_law_pool" sPool f fd) (T : Mo K mg cL cG cT cF) (Gt : Gd P w K mg base 1 "_law_take" pTake spTake) : FnOk P w K mg base CX0 2 f fd pPool spPool := by
  refine F.ok scPool (fun vs H Q E h => ?_) (fun cdv A outer s H vs Q E hr h => ?_)
  · obtain ⟨_, _, _, rfl, _⟩ := h; rfl
  · obtain ⟨b, many, n, rfl, hb, hn, m1, m40, k⟩ := h
    refine ⟨_, pss_cons (ps_set (i := 2) scPool.nd rfl (Or.inl rfl) (pe_lst pa_nil))
      (pss_cons (ps_for PassesOwn.never rfl (pi_range1 (by rfl) T.b_range (pa_cons (pv 1) pa_nil)) (pg_name (i := 3) scPool.nd rfl (Or.inl rfl))
        (pss_cons (ps_set (i := 4) scPool.nd rfl (Or.inl rfl) (pe_g Gt hr (by rfl) (pa_cons (pv 0) (pa_cons pe_int pa_nil))))
        (pss_cons (ps_set (i := 5) scPool.nd rfl (Or.inl rfl) (pe_op op_add pe_int (pe_g Gt hr (by rfl) (pa_cons (pv 0) (pa_cons (pe_ix ix_seq (pe_lst (pa_cons pe_int (pa_cons pe_int (pa_cons (pe_op op_pow pe_int pe_int) (pa_cons (pe_op op_pow pe_int pe_int) pa_nil))))) (pv 4) (fun _ _ => rfl)) pa_nil)))))
        (pss_cons (ps_for PassesOwn.never rfl (pi_range1 (by rfl) T.b_range (pa_cons (pv 1) pa_nil)) (pg_name (i := 6) scPool.nd rfl (Or.inl rfl))
          (pss_one (ps_if (pt_cmpR op_in_seq (pv 5) (pv 2) rfl) (pss_one (ps_set (i := 5) scPool.nd rfl (Or.inl rfl) (pe_op op_add (pe_op op_mod (pe_callTy call_int1 (by rfl) T.b_int boot_int (pa_cons (pv 5) pa_nil)) (pe_op op_pow pe_int pe_int)) pe_int))) pss_nil)))
        (pss_one (ps_expr (pe_bm PySem.F.plainAttrs_list PySem.F.slot_list_append PySem.F.type_list_append mt_append (pv 2) (pa_cons (pv 5) pa_nil))))))))
      (pss_one (ps_ret (pv 2)))), ?_⟩
    refine ⟨(by decide), fun l hl => ?_⟩
    have lb : l ≠ b := hb.ne hl
    refine ⟨_, rfl, many, rfl, by omega, by omega, ?_⟩
    rw [Int.toNat_natCast]
    refine for_range (fun i σ Hi => ∃ (ns : List Int) (v3 v4 v5 v6 : Option V), σ = [some (.ref b), some (.int many), some (.ref l), v3, v4, v5, v6] ∧ Hi l = some (.lst (ns.map V.int)) ∧ ns.length = i ∧ ns.Nodup ∧ (∀ x ∈ ns, NumOk x) ∧ ExtB b H Hi ∧ BagAt Hi b (n + 2 * i))
      ⟨[], none, none, none, none, rfl, upd_same, rfl, List.nodup_nil, (fun x h => by cases h), .of (Ext.upd hl), hb.put lb⟩ ?_ ?_
    · rintro i σ Hi hi ⟨ns, v3, v4, v5, v6, rfl, hl1, hlen, nd, hok, e1, b1⟩
      refine ⟨_, rfl, b, 4, n + 2 * i, rfl, b1, by omega, by decide, by decide, fun v H2 v0 v4 e2 b2 n2 => ?_⟩
      have hl2 := e2 l _ lb hl1
      refine ⟨_, rfl, _, _, rfl, rfl, ⟨by decide, by decide, by decide⟩, _, _, rfl, rfl, ⟨by decide, by decide, by decide⟩, (by show 4 ≤ sizeLine; decide), fun l4 hl4 => ?_⟩
      obtain ⟨r, hr4, r0, r30⟩ : ∃ r : Int, atI [V.int 9, .int 40, .int (10 ^ Int.toNat 6), .int (10 ^ Int.toNat 30)] v = some (.int r) ∧ 0 < r ∧ r ≤ 10 ^ 30 := by
        have : v = 0 ∨ v = 1 ∨ v = 2 ∨ v = 3 := by omega
        rcases this with rfl | rfl | rfl | rfl
        · exact ⟨9, rfl, by decide, by decide⟩
        · exact ⟨40, rfl, by decide, by decide⟩
        · exact ⟨10 ^ Int.toNat 6, rfl, by decide, by decide⟩
        · exact ⟨10 ^ Int.toNat 30, rfl, by decide, by decide⟩
      refine ⟨_, rfl, .inl ⟨l4, _, v, _, rfl, rfl, .inl (.inl upd_same), hr4, ?_⟩⟩
      have b3 := b2.keep (Ext.upd (o := .lst [V.int 9, .int 40, .int (10 ^ Int.toNat 6), .int (10 ^ Int.toNat 30)]) hl4)
      have e3 := (e1.trans e2).new (o := .lst [V.int 9, .int 40, .int (10 ^ Int.toNat 6), .int (10 ^ Int.toNat 30)]) hl4
      have hl3 := Ext.upd (o := .lst [V.int 9, .int 40, .int (10 ^ Int.toNat 6), .int (10 ^ Int.toNat 30)]) hl4 _ _ hl2
      refine ⟨b, r, _, rfl, b3, by omega, r0, r30, fun v' H5 v0' v4' e5 b5 n5 => ?_⟩
      have hl5 := e5 l _ lb hl3
      have e05 := e3.trans e5
      refine ⟨_, _, rfl, rfl, ?_⟩
      have ok1 : 1 ≤ 1 + v' ∧ 1 + v' ≤ 10 ^ 30 := by omega
      -- the steps
      refine ⟨_, rfl, many, rfl, by omega, by omega, ?_⟩
      rw [Int.toNat_natCast]
      refine for_range (fun j σ Hj => Hj = H5 ∧ ∃ (v6 : Option V), σ = [some (.ref b), some (.int many), some (.ref l), some (.int (0 + i)), some (.int v), some (.int (stepsN ns j (1 + v'))), v6]) ⟨rfl, _, rfl⟩ ?_ ?_
      · rintro j σ Hj hj ⟨rfl, v6, rfl⟩
        have okj := stepsN_ok (ns := ns) ok1 j
        refine ⟨_, rfl, _, rfl, l, _, rfl, .inl (.inl (.inl hl5)), rfl, ints_flat ns, _, rfl, ?_⟩
        show if inV (.int (stepsN ns j (1 + v'))) (ns.map V.int) = true then _ else _
        rw [inV_int]
        by_cases c : stepsN ns j (1 + v') ∈ ns
        · rw [decide_eq_true c]
          refine iteT ⟨_, rfl, .inl ⟨_, rfl, _, _, rfl, rfl, ⟨by decide, by decide, by decide⟩, _, _, rfl, rfl, (by show (0 : Int) < 10 ^ Int.toNat 30; decide), _, _, rfl, rfl, rfl, some (.int (0 + j)), ?_⟩⟩
          show _ = [some (V.ref b), some (.int many), some (.ref l), some (.int (0 + i)), some (.int v), some (.int (stepN ns (stepsN ns j (1 + v')))), _]
          unfold stepN
          rw [if_pos c]; rfl
        · rw [decide_eq_false c]
          refine iteF ⟨rfl, some (.int (0 + j)), ?_⟩
          show _ = [some (V.ref b), some (.int many), some (.ref l), some (.int (0 + i)), some (.int v), some (.int (stepN ns (stepsN ns j (1 + v')))), _]
          unfold stepN
          rw [if_neg c]; rfl
      · rintro σ Hj ⟨rfl, v6, rfl⟩
        have okN := stepsN_ok (ns := ns) ok1 many
        have new := stepsN_new (ns := ns) ok1 (k := many) (by omega) (by omega)
        refine ⟨_, rfl, .inl ⟨rfl, _, .inl (.inl hl5)⟩, _, rfl, l, _, _, rfl, rfl, hl5, by rw [List.length_map, hlen, sizeLine_eq]; omega, ns ++ [stepsN ns many (1 + v')], _, _, _, _, rfl, by rw [List.map_append]; exact upd_same, by rw [List.length_append, hlen]; rfl, ?_, ?_, ?_, ?_⟩
        · exact List.nodup_append.mpr ⟨nd, by simp, fun x hx y hy e => new (by rw [← List.mem_singleton.mp hy, ← e]; exact hx)⟩
        · intro x hx
          rcases List.mem_append.mp hx with h | h
          · exact hok x h
          · rw [List.mem_singleton.mp h]; exact okN
        · exact e05.put hl
        · exact (b5.put lb).mono (by omega)
    · rintro σ Hi ⟨ns, v3, v4, v5, v6, rfl, hl1, hlen, nd, hok, e1, b1⟩
      exact ⟨_, rfl, k l ns Hi hl1 hl hlen nd hok e1 (b1.mono (by omega))⟩
end
end K9
set_option Elab.async false
set_option linter.all false
set_option maxRecDepth 100000
set_option maxHeartbeats 8000000
/-! LA4: rows. -/
namespace K9
open PySem PySem.Spec PyProof.Rows L2 SX
/-- a filter over numbers -/
theorem lc_nums {J : It} {G : Hp → Prop} {ns : List Int} (w : L2.Walk J (ns.map V.int).length G (YAt (ns.map V.int))) {g : TG} {tt : TT} {te : TE} {vs : List Nat} {σ : L2.St} {H1 : Hp} {D : Addr} {Qd : Hp → Prop}
    (p : Int → Bool) (hD : H1 D = none) (hn : ns.length ≤ 20000) (hG : ∀ H, Ext H1 H → G H)
    (hs : ∀ x, x ∈ ns → ∀ H, Ext H1 H → ∀ (A : V → Hp → Prop) (N : Hp → Prop), (p x = true → ∀ H2, Ext H H2 → A (.int x) H2) → (p x = false → ∀ H2, Ext H H2 → N H2) →
      g (.int x) (wipe σ vs) H fun σ2 H2 => wipe σ2 vs = wipe σ vs ∧ tt σ2 H2 fun b H3 => if b = true then te σ2 H3 A else N H3)
    (hd : ∀ H, Ext H1 H → H D = some (.lst ((ns.filter p).map V.int)) → Qd H) :
    ∃ W : Nat → Nat → Hp → Prop, (∃ m, W 0 m (upd H1 D (.lst []))) ∧ ∀ i m H, W i m H →
      (J.stop i H ∧ Qd H) ∨ (J.go i H ∧ ∃ Nx : Hp → Prop, (∀ H', Nx H' → ∃ m', m' < m ∧ W (i + 1) m' H') ∧ ∀ x H', J.yld i H x H' → g x (wipe σ vs) H' fun σ2 H2 => wipe σ2 vs = wipe σ vs ∧ tt σ2 H2 fun b H3 =>
        if b = true then te σ2 H3 fun y H4 => ∃ acc, H4 D = some (.lst acc) ∧ acc.length < sizeLine ∧ Nx (upd H4 D (.lst (acc ++ [y]))) else Nx H3) := by
  refine lc_flat w (fun x => match x with | .int i => p i | _ => false) (fun x => x) hD (by rw [List.length_map, sizeLine_eq]; omega) hG (fun x hx H e A N hA hN => ?_) fun H e hy => hd H e ?_
  · obtain ⟨i, hi, rfl⟩ := List.mem_map.mp hx
    exact hs i hi H e A N hA hN
  · have em : (ns.map V.int).filter (fun x => match x with | .int i => p i | _ => false) = (ns.filter p).map V.int := by
      rw [List.filter_map] <;> rfl
    rw [em, List.map_map] at hy
    exact hy
theorem ne_test {i j : Int} {A B : Prop} (h1 : (!decide (i = j)) = true → A) (h2 : (!decide (i = j)) = false → B) : if (!decide (V.int i = V.int j)) = true then A else B := by
  by_cases c : i = j
  · rw [if_neg (by simp [c])]; exact h2 (by simp [c])
  · rw [if_pos (by simp [c])]; exact h1 (by simp [c])
theorem atI_nat {α : Type} {xs : List α} {i : Nat} {y : α} (h : xs[i]? = some y) : atI xs (i : Int) = some y := by
  have hl : i < xs.length := (List.getElem?_eq_some_iff.mp h).1
  unfold atI ixN
  rw [if_pos (by omega), if_pos (by omega), Int.toNat_natCast]
  exact h
theorem atI_int {ns : List Int} {i : Nat} {y : Int} (h : ns[i]? = some y) : atI (ns.map V.int) (i : Int) = some (.int y) := atI_nat (by rw [List.getElem?_map, h]; rfl)
/-- a row of the law -/
def RowAt (H : Hp) (a : Addr) (L : LD) : Prop := ∃ t, H a = some (.tup [.int L.num, .str L.person, .str L.house, .ref t]) ∧ H t = some (.tup (L.ans.map V.int))
theorem RowAt.keep {H H' : Hp} {a : Addr} {L : LD} (h : RowAt H a L) (k : TupK H H') : RowAt H' a L := by
  obtain ⟨t, h1, h2⟩ := h
  exact ⟨t, k _ _ h1, k _ _ h2⟩
theorem BagAt.tups {H H' : Hp} {b : Addr} {n : Nat} (h : BagAt H b n) (e : ExtB b H H') : TupK H H' := fun c xs hc => by
  obtain ⟨d, m, e', h1, _⟩ := h
  exact e c _ (ne_of hc h1 (by intro z; cases z)) hc
def RowOk (L : LD) : Prop := L.Ok ∧ L.subj = []
/-- a list of rows -/
structure RowsAt (H : Hp) (p : Addr) (X : Lts) : Prop where
  ls : H p = some (.lst (X.map fun q => V.ref q.1))
  row : ∀ q ∈ X, RowAt H q.1 q.2
  ok : ∀ q ∈ X, RowOk q.2
theorem RowsAt.keep {H H' : Hp} {p : Addr} {X : Lts} (h : RowsAt H p X) (k : TupK H H') (hp : H' p = H p) : RowsAt H' p X := ⟨hp.trans h.ls, fun q hq => (h.row q hq).keep k, h.ok⟩
theorem RowsAt.ext {H H' : Hp} {p : Addr} {X : Lts} (h : RowsAt H p X) (k : Ext H H') : RowsAt H' p X := h.keep (.of k) ((k _ _ h.ls).trans h.ls.symm)
theorem RowsAt.bag {H H' : Hp} {p b : Addr} {X : Lts} {n : Nat} (h : RowsAt H p X) (hb : BagAt H b n) (k : ExtB b H H') (ne : p ≠ b) : RowsAt H' p X := h.keep (hb.tups k) ((k _ _ ne h.ls).trans h.ls.symm)
def nums (X : Lts) : List Int := X.map fun q => q.2.num
theorem seqIx {n j : Nat} (h : j < n) : seqIndex? (j : Int) n = some j := by
  unfold seqIndex?
  have h0 : ¬ (j : Int) < 0 := by omega
  simp [h0, h]
theorem map_erase {α β : Type} (f : α → β) : ∀ (xs : List α) (k : Nat), (xs.map f).eraseIdx k = (xs.eraseIdx k).map f
  | [], _ => by simp
  | x :: xs, 0 => rfl
  | x :: xs, k + 1 => by simp [map_erase f xs k]
def spRows : Sp := fun vs H Q _ => ∃ (b : Addr) (most : Int) (n : Nat), vs = [.ref b, .int most] ∧ BagAt H b n ∧ n + 2000 ≤ 1000000000 ∧ 1 ≤ most ∧ most ≤ 16 ∧
  ∀ (p : Addr) (X : Lts) H', RowsAt H' p X → H p = none → 1 ≤ X.length → X.length ≤ 16 → (nums X).Nodup → ExtB b H H' → BagAt H' b (n + 1000) → Q (.ref p) H'
section
variable {P : Program} {w : World} {K : PySem.W.Frag} {mg : Str → Option Value} {base : Heap} {cL cG cT cF : Addr}
theorem ok_rows {f : Addr} {fd : FuncData} (F : Fun K "_law_rows" "_law_rows" sRows f fd) (T : Mo K mg cL cG cT cF) (Gt : Gd P w K mg base 1 "_law_take" pTake spTake) (Gp : Gd P w K mg base 2 "_law_pool" pPool spPool) (Gn : Gd P w K mg base 2 "_law_name" pName spName) : FnOk P w K mg base CX0 3 f fd pRows spRows := by
  refine F.ok scRows (fun vs H Q E h => ?_) (fun cdv A outer s H vs Q E hr h => ?_)
  · obtain ⟨_, _, _, rfl, _⟩ := h; rfl
  · obtain ⟨b, most, n, rfl, hb, hn, m1, m16, k⟩ := h
    have hu := hr.units
    have hr1 := hr.mono (show 1 ≤ 2 by decide)
    refine ⟨_, pss_cons (ps_set (i := 2) scRows.nd rfl (Or.inl rfl) (pe_g Gp hr (by rfl) (pa_cons (pv 0) (pa_cons (pe_op op_add (pe_op op_add pe_int (pv 1)) (pe_g Gt hr1 (by rfl) (pa_cons (pv 0) (pa_cons pe_int pa_nil)))) pa_nil))))
      (pss_cons (ps_set (i := 3) scRows.nd rfl (Or.inl rfl) (pe_lst pa_nil))
      (pss_cons (ps_for PassesOwn.never rfl (pi_range1 (by rfl) T.b_range (pa_cons (pe_op op_add pe_int (pe_g Gt hr1 (by rfl) (pa_cons (pv 0) (pa_cons (pv 1) pa_nil)))) pa_nil)) (pg_name (i := 4) scRows.nd rfl (Or.inl rfl))
        (pss_cons (ps_set (i := 5) scRows.nd rfl (Or.inr rfl) (pe_ix ix_seq (pv 2) (pv 4) (fun _ _ => rfl)))
        (pss_cons (ps_setLc (i := 6) rfl scRows.nd rfl rfl (by rfl) (pi_list (pv 2)) (own := [("_law_other", 9)]) (blkOk_by (by show blkC nRows (defScope sRows) _ _ = true; decide +kernel)) (fun _ _ _ _ _ => pg_name (i := 9) scRows.nd rfl (Or.inl rfl)) (fun _ _ _ _ _ => pts_one (pt_cmpR op_ne (pv 9) (pv 5) (nomark _))) (fun _ _ _ _ _ => pv 9))
        (pss_cons (ps_set (i := 7) scRows.nd rfl (Or.inl rfl) (pe_lst pa_nil))
        (pss_cons (ps_for PassesOwn.never rfl (pi_range1 (by rfl) T.b_range (pa_cons (pe_ix ix_seq (pe_lst (pa_cons pe_int (pa_cons pe_int (pa_cons pe_int (pa_cons pe_int (pa_cons pe_int (pa_cons pe_int pa_nil))))))) (pe_g Gt hr1 (by rfl) (pa_cons (pv 0) (pa_cons pe_int pa_nil))) (fun _ _ => rfl)) pa_nil)) (pg_name (i := 8) scRows.nd rfl (Or.inl rfl))
          (pss_one (ps_if (pt_cmpR (op_neM K (List Int) hu) (pv 6) (pe_lst pa_nil) (nomark _)) (pss_one (ps_expr (pe_bm PySem.F.plainAttrs_list PySem.F.slot_list_append PySem.F.type_list_append mt_append (pv 7) (pa_cons (pe_bm PySem.F.plainAttrs_list PySem.F.slot_list_pop PySem.F.type_list_pop mt_popAt (pv 6) (pa_cons (pe_g Gt hr1 (by rfl) (pa_cons (pv 0) (pa_cons (pe_callB call_len_seq (by rfl) T.b_len boot_len (pa_cons (pv 6) pa_nil)) pa_nil))) pa_nil)) pa_nil)))) pss_nil)))
        (pss_one (ps_expr (pe_bm PySem.F.plainAttrs_list PySem.F.slot_list_append PySem.F.type_list_append mt_append (pv 3) (pa_cons (pe_tup (pa_cons (pv 5) (pa_cons (pe_g Gn hr (by rfl) (pa_cons (pv 0) pa_nil)) (pa_cons (pe_g Gn hr (by rfl) (pa_cons (pv 0) pa_nil)) (pa_cons (pe_callTy call_tuple_of (by rfl) T.b_tuple boot_tuple (pa_cons (pv 7) pa_nil)) pa_nil))))) pa_nil)))))))))
      (pss_one (ps_ret (pv 3))))), ?_⟩
    refine ⟨_, rfl, _, rfl, _, _, rfl, rfl, _, rfl, b, 3, n, rfl, hb, by omega, by decide, by decide, fun v H1 v0 v3 e1 b1 n1 => ?_⟩
    obtain ⟨m, hm⟩ : ∃ m : Nat, (m : Int) = 1 + most + v := ⟨(1 + most + v).toNat, by omega⟩
    refine ⟨_, _, rfl, rfl, b, m, n + 1, by rw [hm]; rfl, b1, by omega, by omega, by omega, fun lp ns H2 hp0 hpn hlen nd hok e2 b2 => ?_⟩
    have b02 := b2
    have hp0b : lp ≠ b := b1.ne hpn
    refine ⟨(by decide), fun lr hlr => ?_⟩
    have e02 : ExtB b H H2 := e1.trans e2
    have lrb : lr ≠ b := b2.ne hlr
    have hlr0 : H lr = none := by
      cases q : H lr with
      | none => rfl
      | some o => rw [e02 lr o lrb q] at hlr; cases hlr
    have f3 : Ext H2 (upd H2 lr (.lst [])) := Ext.upd hlr
    refine ⟨_, rfl, _, rfl, b, most, n + 101, rfl, b2.keep f3, by omega, by omega, Int.le_trans m16 (by decide), fun u H4 u0 u1 e4 b4 n4 => ?_⟩
    obtain ⟨cnt, hcnt⟩ : ∃ cnt : Nat, 1 + u = (cnt : Int) := ⟨(1 + u).toNat, by omega⟩
    refine ⟨_, _, rfl, rfl, _, rfl, by omega, by omega, ?_⟩
    rw [hcnt, Int.toNat_natCast]
    have hlp4 : H4 lp = some (.lst (ns.map V.int)) := e4 _ _ hp0b (f3 _ _ hp0)
    have hlr4 : H4 lr = some (.lst []) := e4 _ _ lrb upd_same
    have lrp : lr ≠ lp := fun z => by rw [z, hp0] at hlr; cases hlr
    refine for_range (fun i σ Hi => ∃ (Y : Lts) (v4 v5 v6 v7 v8 v9 : Option V), σ = [some (.ref b), some (.int most), some (.ref lp), some (.ref lr), v4, v5, v6, v7, v8, v9] ∧ RowsAt Hi lr Y ∧ nums Y = ns.take i ∧ Hi lp = some (.lst (ns.map V.int)) ∧ ExtB b H Hi ∧ BagAt Hi b (n + 102 + 40 * i))
      ⟨[], none, none, none, none, none, none, rfl, ⟨hlr4, (fun q h => by cases h), (fun q h => by cases h)⟩, by unfold nums; rfl, hlp4, (e02.trans (.of f3)).trans e4, b4⟩ ?_ ?_
    · rintro i σ Hi hi ⟨Y, v4, v5, v6, v7, v8, v9, rfl, hY, hnY, hlp, ei, bi⟩
      have il : i < ns.length := by omega
      have hnum : ns[i]? = some ns[i] := List.getElem?_eq_getElem il
      generalize hnm : ns[i] = num at hnum
      have hmem : num ∈ ns := List.mem_of_getElem? hnum
      have nY : Y.length = i := by
        have := congrArg List.length hnY
        unfold nums at this
        rw [List.length_map, List.length_take] at this
        omega
      have tk : ns.take (i + 1) = ns.take i ++ [num] := by rw [List.take_succ, hnum]; rfl
      refine ⟨_, rfl, _, rfl, .inl ⟨lp, _, _, _, rfl, rfl, .inl (.inl hlp), by rw [Int.zero_add]; exact atI_int hnum, ?_⟩⟩
      -- left
      refine ⟨_, rfl, lp, rfl, ⟨_, .inl (.inl hlp)⟩, fun ll hll => ?_⟩
      refine lc_nums walk_list (fun x => !decide (x = num)) hll (by omega) (fun H' e => .inl (.inl (e _ _ hlp))) (fun x hx Ha ea A N hA hN => ⟨rfl, _, rfl, _, rfl, rfl, _, rfl, ne_test (fun c => ⟨_, rfl, hA c _ Ext.rfl'⟩) fun c => hN c _ Ext.rfl'⟩) (fun H5 e5 hll5 => ?_)
      -- answers
      refine ⟨(by decide), fun la hla => ?_⟩
      have f6 : Ext H5 (upd H5 la (.lst [])) := Ext.upd hla
      have b5 := bi.keep e5
      have lab : la ≠ b := b5.ne hla
      have llb : ll ≠ b := bi.ne hll
      have lla : ll ≠ la := fun z => by rw [← z, hll5] at hla; cases hla
      have hla0 : Hi la = none := Ext.none e5 hla
      refine ⟨(by show 6 ≤ sizeLine; decide), fun l6 hl6 => ?_⟩
      have f7 := Ext.upd (o := .lst [V.int 0, .int 1, .int 1, .int 2, .int 3, .int 8]) hl6
      have l6b : l6 ≠ b := (b5.keep f6).ne hl6
      refine ⟨_, rfl, b, 6, n + 102 + 40 * i, rfl, (b5.keep f6).keep f7, by omega, by decide, by decide, fun w H8 w0 w1 e8 b8 n8 => ?_⟩
      obtain ⟨c, hc, c8⟩ : ∃ c : Nat, atI [V.int 0, .int 1, .int 1, .int 2, .int 3, .int 8] w = some (.int c) ∧ c ≤ 8 := by
        have : w = 0 ∨ w = 1 ∨ w = 2 ∨ w = 3 ∨ w = 4 ∨ w = 5 := by omega
        rcases this with rfl | rfl | rfl | rfl | rfl | rfl
        · exact ⟨0, rfl, by decide⟩
        · exact ⟨1, rfl, by decide⟩
        · exact ⟨1, rfl, by decide⟩
        · exact ⟨2, rfl, by decide⟩
        · exact ⟨3, rfl, by decide⟩
        · exact ⟨8, rfl, by decide⟩
      refine .inl ⟨l6, _, w, _, rfl, rfl, .inl (.inl (e8 _ _ l6b upd_same)), hc, _, rfl, by omega, by omega, ?_⟩
      rw [Int.toNat_natCast]
      have e58 : ExtB b Hi H8 := (ExtB.of ((e5.trans f6).trans f7)).trans e8
      have hll8 : H8 ll = some (.lst ((ns.filter fun x => !decide (x = num)).map V.int)) := e8 _ _ llb (f7 _ _ (f6 _ _ hll5))
      have hla8 : H8 la = some (.lst []) := e8 _ _ lab (f7 _ _ upd_same)
      have flt : ∀ x, x ∈ ns.filter (fun x => !decide (x = num)) → x ∈ ns ∧ x ≠ num := fun x hx => by
        obtain ⟨h1, h2⟩ := List.mem_filter.mp hx
        exact ⟨h1, by simpa using h2⟩
      refine for_range (fun j σ Hj => ∃ (as ls : List Int) (v8 : Option V), σ = [some (.ref b), some (.int most), some (.ref lp), some (.ref lr), some (.int (0 + i)), some (.int num), some (.ref ll), some (.ref la), v8, v9] ∧ Hj la = some (.lst (as.map V.int)) ∧ Hj ll = some (.lst (ls.map V.int)) ∧
          as.Nodup ∧ ls.Nodup ∧ (∀ x ∈ as, x ∈ ns ∧ x ≠ num ∧ x ∉ ls) ∧ (∀ x ∈ ls, x ∈ ns ∧ x ≠ num) ∧ as.length ≤ j ∧ ls.length ≤ ns.length ∧ ExtB b Hi Hj ∧ BagAt Hj b (n + 103 + 40 * i + j))
        ⟨[], _, v8, rfl, hla8, hll8, List.nodup_nil, nd.filter _, (fun x h => by cases h), flt, Nat.le_refl _, List.length_filter_le _ _, e58, b8.mono (by omega)⟩ ?_ ?_
      · rintro j σ Hj hj ⟨as, ls, v8', rfl, ha, hl, nda, ndl, pa, pl, lena, lenl, ej, bj⟩
        refine ⟨_, rfl, (by decide), fun le hle => ⟨ls, [], hd_ints (.inl (.inl (Ext.upd hle _ _ hl))), hd_ints (ns := []) (.inl (.inl upd_same)), _, rfl, ?_⟩⟩
        have g1 : Ext Hj (upd Hj le (.lst [])) := Ext.upd hle
        refine ite2 (fun ne => ?_) (fun ne => ?_)
        · have lpos : 0 < ls.length := by
            cases ls with
            | nil => simp at ne
            | cons x r => simp
          refine ⟨_, rfl, .inl ⟨rfl, _, .inl (.inl (g1 _ _ ha))⟩, _, rfl, .inl ⟨rfl, _, .inl (.inl (g1 _ _ hl))⟩, _, rfl, _, rfl, ll, _, rfl, .inl (.inl (.inl (g1 _ _ hl))), b, (ls.length : Nat), n + 103 + 40 * i + j, by rw [List.length_map]; rfl, bj.keep g1, by omega, by omega, Int.le_trans (show ((ls.length : Nat) : Int) ≤ 40 by omega) (by decide), fun u H9 u0 u1 e9 b9 n9 => ?_⟩
          obtain ⟨q, rfl⟩ : ∃ q : Nat, u = (q : Int) := ⟨u.toNat, by omega⟩
          have ql : q < ls.length := by omega
          have hy : ls[q]? = some ls[q] := List.getElem?_eq_getElem ql
          generalize ls[q] = y at hy
          have hl9 := e9 _ _ llb (g1 _ _ hl)
          have ha9 := e9 _ _ lab (g1 _ _ ha)
          refine ⟨ll, _, _, q, .int y, rfl, rfl, hl9, by omega, by omega, by rw [List.length_map]; exact seqIx ql, by rw [List.getElem?_map, hy]; rfl, ?_⟩
          obtain ⟨nd', mem'⟩ := eraseIdx_mem ndl hy
          have ym := List.mem_of_getElem? hy
          have pe : (ls.eraseIdx q).length ≤ ls.length := (List.eraseIdx_sublist _ _).length_le
          refine ⟨la, _, _, rfl, rfl, (upd_ne lla.symm).trans ha9, by rw [List.length_map, sizeLine_eq]; omega, as ++ [y], ls.eraseIdx q, _, rfl, by rw [List.map_append]; exact upd_same, by rw [upd_ne lla, upd_same, map_erase], ?_, nd', ?_, fun x hx => pl x ((mem' x).mp hx).1, by rw [List.length_append]; exact Nat.succ_le_succ lena, by omega, ?_, ?_⟩
          · exact List.nodup_append.mpr ⟨nda, by simp, fun x hx z hz e => (pa x hx).2.2 (by rw [e, List.mem_singleton.mp hz]; exact ym)⟩
          · intro x hx
            rcases List.mem_append.mp hx with h | h
            · exact ⟨(pa x h).1, (pa x h).2.1, fun z => (pa x h).2.2 ((mem' x).mp z).1⟩
            · rw [List.mem_singleton.mp h]
              exact ⟨(pl y ym).1, (pl y ym).2, fun z => ((mem' y).mp z).2 rfl⟩
          · exact (((ej.trans (.of g1)).trans e9).put hll).put hla0
          · exact ((b9.put llb).put lab).mono (by omega)
        · refine ⟨as, ls, _, rfl, g1 _ _ ha, g1 _ _ hl, nda, ndl, pa, pl, by omega, lenl, ej.trans (.of g1), (bj.keep g1).mono (by omega)⟩
      · rintro σ Hj ⟨as, ls, v8', rfl, ha, hl, nda, ndl, pa, pl, lena, lenl, ej, bj⟩
        have kj := bi.tups ej
        have lrl : Hj lr = some (.lst (Y.map fun q => V.ref q.1)) := ej _ _ lrb hY.ls
        refine ⟨_, rfl, .inl ⟨rfl, _, .inl (.inl lrl)⟩, _, rfl, _, rfl, b, n + 103 + 40 * i + c, rfl, bj, by omega, fun z1 Ha ok1 ea ba => ?_⟩
        refine ⟨_, rfl, b, _, rfl, ba, by omega, fun z2 Hb ok2 eb bb => ?_⟩
        have hab := eb _ _ lab (ea _ _ lab ha)
        refine ⟨_, rfl, la, _, rfl, .inl ⟨.inl (.inl hab), fun ta hta => ?_⟩⟩
        have g1 := Ext.upd (o := .tup (as.map V.int)) hta
        refine ⟨(show 4 ≤ sizeLine by decide), fun tr htr => ?_⟩
        have g2 := Ext.upd (o := .tup [.int num, .str z1, .str z2, .ref ta]) htr
        have lrb' := eb _ _ lrb (ea _ _ lrb lrl)
        have lr2 := g2 _ _ (g1 _ _ lrb')
        have trl : tr ≠ lr := fun z => by rw [z, g1 _ _ lrb'] at htr; cases htr
        have tal : ta ≠ lr := fun z => by rw [z, lrb'] at hta; cases hta
        have kk : TupK Hi _ := (kj.trans ((bj.tups ea).trans ((ba.tups eb).trans ((TupK.of g1).trans (.of g2))))).trans (.upd (o := .lst ((Y.map fun q => V.ref q.1) ++ [V.ref tr])) lr2 fun _ z => by cases z)
        refine ⟨lr, _, _, rfl, rfl, lr2, by rw [List.length_map, nY, sizeLine_eq]; omega, Y ++ [(tr, ⟨num, z1, z2, as, []⟩)], _, _, _, _, _, _, rfl, ⟨by rw [List.map_append]; exact upd_same, fun q hq => ?_, fun q hq => ?_⟩, ?_, ?_, ?_, ?_⟩
        · rcases List.mem_append.mp hq with h | h
          · exact (hY.row q h).keep kk
          · rw [List.mem_singleton.mp h]
            exact ⟨ta, (upd_ne trl).trans upd_same, (upd_ne tal).trans (g2 _ _ upd_same)⟩
        · rcases List.mem_append.mp hq with h | h
          · exact hY.ok q h
          · rw [List.mem_singleton.mp h]
            exact ⟨⟨hok _ hmem, ok1, ok2, ⟨Nat.le_trans lena c8, fun x hx => hok x (pa x hx).1, fun z => (pa _ z).2.1 rfl, nda⟩, Nat.zero_le _, fun z hz => by cases hz⟩, rfl⟩
        · unfold nums at hnY ⊢
          rw [List.map_append, hnY, tk]; rfl
        · exact (upd_ne lrp.symm).trans (g2 _ _ (g1 _ _ (eb _ _ hp0b (ea _ _ hp0b (ej _ _ hp0b hlp)))))
        · exact ((((ei.trans ej).trans ea).trans eb).trans ((ExtB.of g1).trans (.of g2))).put hlr0
        · exact ((((bb.keep g1).keep g2).put lrb).mono (by omega))
    · rintro σ Hi ⟨Y, v4, v5, v6, v7, v8, v9, rfl, hY, hnY, hlp, ei, bi⟩
      have lY : Y.length = cnt := by
        have := congrArg List.length hnY
        unfold nums at this
        rw [List.length_map, List.length_take] at this
        omega
      exact ⟨_, rfl, k lr Y Hi hY hlr0 (by omega) (by omega) (by rw [hnY]; exact (List.take_sublist _ _).nodup nd) ei (bi.mono (by omega))⟩
end
end K9
set_option Elab.async false
set_option linter.all false
set_option maxRecDepth 100000
set_option maxHeartbeats 8000000
/-! LA5: a letter of a row; rows with other first answers; rows mixed. -/
namespace K9
open PySem PySem.Spec PyProof.Rows L2 SX
/-- Letter(.., answers = ..), Letter(.., answers = .., subject = ..) -/
structure LK (P : Program) (w : World) (K : PySem.W.Frag) (mg : Str → Option Value) (base : Heap) (cL : Addr) : Prop where
  one : ∃ f fd ps g, ∃ e2 e3 : Addr, FnOk P w K mg base CX0 3 f fd ps (spLInit K cL) ∧ Mk K cL f ∧ KBn K fd ps 4 ["answers"] g (fun vs zs => vs ++ zs ++ [.ref e2, .ref e3]) ∧ EmpT K e2 ∧ EmpT K e3
  two : ∃ f fd ps g, ∃ e3 : Addr, FnOk P w K mg base CX0 3 f fd ps (spLInit K cL) ∧ Mk K cL f ∧ KBn K fd ps 4 ["answers", "subject"] g (fun vs zs => vs ++ zs ++ [.ref e3]) ∧ EmpT K e3
theorem lk_of {P : Program} {w : World} {K : PySem.W.Frag} {mg : Str → Option Value} {base : Heap} {cL f e1 e2 e3 : Addr} {fd : FuncData}
    (F : FunD K "__init__" "Letter.__init__" (defArgs sLInit) (defBody sLInit) (defScope sLInit) [] [("answers", V.ref e1), ("subject", V.ref e2), ("words", V.ref e3)] f fd)
    (ok : FnOk P w K mg base CX0 3 f fd pLInit (spLInit K cL)) (M : Mk K cL f) (h2 : EmpT K e2) (h3 : EmpT K e3) : LK P w K mg base cL := by
  constructor
  · obtain ⟨mv, hb⟩ := F.kbinds0 (ps := pLInit) 4 ["answers"] [("subject", V.ref e2), ("words", V.ref e3)] (fun us mv ws => us ++ ws ++ mv) (by simp) (by simp) (fun r1 r2 r3 => (r1.append r3).append r2)
      (fun D doc pm an cdv ct us mv ws l1 l2 l3 => match us, mv, ws, l1, l2, l3 with
        | [_, _, _, _], [_, _], [_], _, _, _ => ⟨_, _, _, _, _, _, rfl, rfl, ⟨_, _, _, _, _, _, rfl, rfl, rfl⟩⟩)
    exact ⟨f, fd, pLInit, _, e2, e3, ok, M, hb, h2, h3⟩
  · obtain ⟨mv, hb⟩ := F.kbinds0 (ps := pLInit) 4 ["answers", "subject"] [("words", V.ref e3)] (fun us mv ws => us ++ ws ++ mv) (by simp) (by simp) (fun r1 r2 r3 => (r1.append r3).append r2)
      (fun D doc pm an cdv ct us mv ws l1 l2 l3 => match us, mv, ws, l1, l2, l3 with
        | [_, _, _, _], [_], [_, _], _, _, _ => ⟨_, _, _, _, _, _, rfl, rfl, rfl⟩)
    exact ⟨f, fd, pLInit, _, e3, ok, M, hb, h3⟩
theorem ext_made {H H1 H' : Hp} {x dx : Addr} {o1 o2 : HO} (hx : H1 x = none) (hdx : H1 dx = none) (e : Ext H H1) (k : ExtB x (upd (upd H1 dx o1) x o2) H') : Ext H H' := fun a o h => by
  have h1 := e a o h
  have ax : a ≠ x := fun z => by rw [z, hx] at h1; cases h1
  have adx : a ≠ dx := fun z => by rw [z, hdx] at h1; cases h1
  exact k a o ax (by rw [upd_ne ax, upd_ne adx]; exact h1)
/-- a row as a tuple that stands -/
theorem row_sq {K : PySem.W.Frag} {H : Hp} {a t : Addr} {L : LD} (h : H a = some (.tup [.int L.num, .str L.person, .str L.house, .ref t])) : SqT K H a [.int L.num, .str L.person, .str L.house, .ref t] := .inl (.inl h)
def spLet (K : PySem.W.Frag) (cL : Addr) : Sp := fun vs H Q _ => ∃ (r : Addr) (L : LD), vs = [.ref r] ∧ RowAt H r L ∧ RowOk L ∧ ∀ p H', Ext H H' → H p = none → LetAt K cL H' p L → Q (.ref p) H'
section
variable {P : Program} {w : World} {K : PySem.W.Frag} {mg : Str → Option Value} {base : Heap} {cL cG cT cF : Addr}
theorem ok_letter {f : Addr} {fd : FuncData} (F : Fun K "_law_letter" "_law_letter" sLet f fd) (T : Mo K mg cL cG cT cF) (G : LK P w K mg base cL) : FnOk P w K mg base CX0 5 f fd pLet (spLet K cL) := by
  refine F.ok scLet (fun vs H Q E h => ?_) (fun cdv A outer s H vs Q E hr h => ?_)
  · obtain ⟨_, _, rfl, _⟩ := h; rfl
  · obtain ⟨r, L, rfl, ⟨t, h1, h2⟩, ⟨ok, hsub⟩, k⟩ := h
    obtain ⟨fi, fdi, ps, g, e2, e3, Fi, M, hb, m2, m3⟩ := G.one
    refine ⟨_, pss_one (ps_ret (pe_makeK M Fi hr (by rfl) T.mL hb pass0 (pa_cons (pe_ix ix_seq (pv 0) pe_int (fun _ _ => rfl)) (pa_cons (pe_ix ix_seq (pv 0) pe_int (fun _ _ => rfl)) (pa_cons (pe_ix ix_seq (pv 0) pe_int (fun _ _ => rfl)) pa_nil)))
      (pk_cons (pe_callTy call_list_of (by rfl) T.b_list boot_list (pa_cons (pe_ix ix_seq (pv 0) pe_int (fun _ _ => rfl)) pa_nil)) pk_nil))), ?_⟩
    have sq := row_sq (K := K) h1
    refine ⟨_, rfl, .inr <| .inl ⟨r, _, 0, _, rfl, rfl, sq, rfl, _, rfl, .inr <| .inl ⟨r, _, 1, _, rfl, rfl, sq, rfl, _, rfl, .inr <| .inl ⟨r, _, 2, _, rfl, rfl, sq, rfl, ?_⟩⟩⟩⟩
    refine ⟨_, rfl, .inr <| .inl ⟨r, _, 3, _, rfl, rfl, sq, rfl, t, _, rfl, .inr (.inl (.inl h2)), fun l hl => ?_⟩⟩
    refine ⟨rfl, rfl, fun x dx hx hdx ne => ?_⟩
    have e1 : Ext H (upd H l (.lst (L.ans.map V.int))) := Ext.upd hl
    have lx : l ≠ x := fun z => by rw [z, upd_same] at hx; cases hx
    have ldx : l ≠ dx := fun z => by rw [z, upd_same] at hdx; cases hdx
    refine ⟨x, dx, l, e2, e3, L, rfl, upd_same, by rw [upd_ne lx, upd_ne ldx]; exact upd_same, .inr ⟨m2, by rw [hsub]; rfl⟩, m3, ok, fun H' hL eL => ⟨rfl, k x H' (ext_made hx hdx e1 eL) (Ext.none e1 hx) hL⟩⟩
end
end K9
set_option Elab.async false
set_option linter.all false
set_option maxRecDepth 100000
set_option maxHeartbeats 8000000
/-! LA6: rows with other first answers. -/
namespace K9
open PySem PySem.Spec PyProof.Rows L2 SX
theorem RowsAt.neB {H : Hp} {p b : Addr} {X : Lts} {n : Nat} (h : RowsAt H p X) (hb : BagAt H b n) : p ≠ b := by
  obtain ⟨d, m, c, h1, _⟩ := hb
  intro e
  have h2 := h.ls
  rw [e, h1] at h2
  cases X with
  | nil => cases h2
  | cons q X => cases h2
/-- a new first answer -/
def turnL (L : LD) (a : Int) : LD := { L with ans := (a :: L.ans.filter fun x => !decide (x = a)).take 8 }
theorem turnL_ok {L : LD} {a : Int} (h : RowOk L) (ha : NumOk a) (ne : L.num ≠ a) : RowOk (turnL L a) := by
  obtain ⟨o, hs⟩ := h
  obtain ⟨a1, a2, a3, a4⟩ := o.ans
  have sub : ∀ x, x ∈ (a :: L.ans.filter fun x => !decide (x = a)).take 8 → x = a ∨ x ∈ L.ans := fun x hx => by
    rcases List.mem_cons.mp (List.mem_of_mem_take hx) with e | e
    · exact .inl e
    · exact .inr (List.mem_filter.mp e).1
  refine ⟨⟨o.num, o.person, o.house, ⟨by show (List.take 8 _).length ≤ 8; rw [List.length_take]; omega, fun x hx => ?_, fun hx => ?_, ?_⟩, o.few, o.subj⟩, hs⟩
  · rcases sub x hx with e | e
    · rw [e]; exact ha
    · exact a2 x e
  · rcases sub _ hx with e | e
    · exact ne e
    · exact a3 e
  · refine (List.take_sublist _ _).nodup (List.nodup_cons.mpr ⟨fun z => ?_, a4.filter _⟩)
    have := (List.mem_filter.mp z).2
    simp at this
theorem cut8 (xs : List V) : cutV xs none (some 8) = xs.take 8 := by
  by_cases h : 8 ≤ xs.length
  · exact cutV_to xs (j := 8) h
  · have e : HT.sIx xs.length xs.length (some ((8 : Nat) : Int)) = xs.length := by rw [HT.sIx_nat]; omega
    have e' : HT.sIx xs.length xs.length (some (8 : Int)) = xs.length := e
    unfold cutV
    rw [e', HT.sIx_none, Nat.sub_zero, List.drop_zero, List.take_of_length_le (Nat.le_refl _), List.take_of_length_le (by omega)]
theorem outs_get {xs : List V} {H : Hp} {ys : List V} (o : Outs (fun i y _ => xs[i]? = some y) H (List.range xs.length) ys) : ys = xs := by
  have e := o.map (f := fun i => xs.getD i .non) fun i y h => by rw [List.getD_eq_getElem?_getD, h] <;> rfl
  rw [e]
  refine List.ext_getElem (by simp) fun i h1 h2 => ?_
  simp [List.getD_eq_getElem?_getD, h2]
theorem ref_at {X : Lts} {i : Nat} {x : V} (h : (X.map fun q => V.ref q.1)[i]? = some x) : ∃ q, X[i]? = some q ∧ x = V.ref q.1 := by
  rw [List.getElem?_map] at h
  cases e : X[i]? with
  | none => rw [e] at h; cases h
  | some z => rw [e] at h; exact ⟨z, rfl, (Option.some.inj h).symm⟩
theorem nums_at {X : Lts} {i : Nat} {q : Addr × LD} (h : X[i]? = some q) : ((nums X).map V.int)[i]? = some (.int q.2.num) := by
  unfold nums
  rw [List.getElem?_map, List.getElem?_map, h]; rfl
def spTurned : Sp := fun vs H Q _ => ∃ (b p : Addr) (X : Lts) (n : Nat), vs = [.ref b, .ref p] ∧ BagAt H b n ∧ RowsAt H p X ∧ X.length ≤ 16 ∧ n + 200 ≤ 1000000000 ∧
  ∀ (q : Addr) (Y : Lts) H', RowsAt H' q Y → H q = none → nums Y = nums X → ExtB b H H' → BagAt H' b (n + 100) → Q (.ref q) H'
section
variable {P : Program} {w : World} {K : PySem.W.Frag} {mg : Str → Option Value} {base : Heap} {cL cG cT cF : Addr}
theorem ok_turned {f : Addr} {fd : FuncData} (F : Fun K "_law_turned" "_law_turned" sTurn f fd) (T : Mo K mg cL cG cT cF) (Gt : Gd P w K mg base 1 "_law_take" pTake spTake) : FnOk P w K mg base CX0 2 f fd pTurn spTurned := by
  refine F.ok scTurn (fun vs H Q E h => ?_) (fun cdv A outer s H vs Q E hr h => ?_)
  · obtain ⟨_, _, _, _, rfl, _⟩ := h; rfl
  · obtain ⟨b, p, X, n, rfl, hb, hX, hlen, hn, k⟩ := h
    have hu := hr.units
    refine ⟨_, pss_cons (ps_par (i := 3) (j := 4) rfl scTurn.nd rfl rfl (by decide) rfl rfl (pa_cons (pe_lst pa_nil) (pa_cons (pe_lc rfl scTurn.nd (pi_list (pv 1)) (own := [("_law_row", 2)]) (blkOk_by (by show blkC nTurn (defScope sTurn) _ _ = true; decide +kernel)) (fun _ _ _ _ _ => pg_name (i := 2) scTurn.nd rfl (Or.inl rfl)) (fun _ _ _ _ _ => pts_nil) (fun _ _ _ _ _ => pe_ix (ix_seqK K) (pv 2) pe_int (fun _ _ => rfl))) pa_nil)) (by rfl))
      (pss_cons (ps_for PassesOwn.never rfl (pi_list (pv 1)) (pg_name (i := 2) scTurn.nd rfl (Or.inr rfl))
        (pss_cons (ps_setLc (i := 5) rfl scTurn.nd rfl rfl (by rfl) (pi_list (pv 4)) (own := [("_law_number", 8)]) (blkOk_by (by show blkC nTurn (defScope sTurn) _ _ = true; decide +kernel)) (fun _ _ _ _ _ => pg_name (i := 8) scTurn.nd rfl (Or.inl rfl)) (fun _ _ _ _ _ => pts_one (pt_cmpR op_ne (pv 8) (pe_ix (ix_seqK K) (pv 2) pe_int (fun _ _ => rfl)) (nomark _))) (fun _ _ _ _ _ => pv 8))
        (pss_one (ps_if (pw_and (pt_cmpR (op_neM K (List Int) hu) (pv 5) (pe_lst pa_nil) (nomark _)) (pw_and1 (pt_cmpR op_gt (pe_g Gt hr (by rfl) (pa_cons (pv 0) (pa_cons pe_int pa_nil))) pe_int (nomark _)))).pt
          (pss_cons (ps_set (i := 6) scTurn.nd rfl (Or.inr rfl) (pe_ix ix_seq (pv 5) (pe_g Gt hr (by rfl) (pa_cons (pv 0) (pa_cons (pe_callB call_len_seq (by rfl) T.b_len boot_len (pa_cons (pv 5) pa_nil)) pa_nil))) (fun _ _ => rfl)))
          (pss_cons (ps_setLc (i := 7) rfl scTurn.nd rfl rfl (by rfl) (pi_tup (pe_ix ix_seq (pv 2) pe_int (fun _ _ => rfl))) (own := [("_law_number", 8)]) (blkOk_by (by show blkC nTurn (defScope sTurn) _ _ = true; decide +kernel)) (fun _ _ _ _ _ => pg_name (i := 8) scTurn.nd rfl (Or.inl rfl)) (fun _ _ _ _ _ => pts_one (pt_cmpR op_ne (pv 8) (pv 6) (nomark _))) (fun _ _ _ _ _ => pv 8))
          (pss_one (ps_expr (pe_bm PySem.F.plainAttrs_list PySem.F.slot_list_append PySem.F.type_list_append mt_append (pv 3) (pa_cons (pe_tup (pa_cons (pe_ix ix_seq (pv 2) pe_int (fun _ _ => rfl)) (pa_cons (pe_ix ix_seq (pv 2) pe_int (fun _ _ => rfl)) (pa_cons (pe_ix ix_seq (pv 2) pe_int (fun _ _ => rfl)) (pa_cons (pe_callTy call_tuple_of (by rfl) T.b_tuple boot_tuple (pa_cons (pe_slice sl_list (pe_op op_cat (pe_lst (pa_cons (pv 6) pa_nil)) (pv 7)) po_none (po_some pe_int)) pa_nil)) pa_nil))))) pa_nil))))))
          (pss_one (ps_expr (pe_bm PySem.F.plainAttrs_list PySem.F.slot_list_append PySem.F.type_list_append mt_append (pv 3) (pa_cons (pv 2) pa_nil))))))))
      (pss_one (ps_ret (pv 3)))), ?_⟩
    have pb := hX.neB hb
    refine ⟨(by decide), fun lf hlf => ?_⟩
    have f1 : Ext H (upd H lf (.lst [])) := Ext.upd hlf
    have X1 := hX.ext f1
    -- the numbers
    refine ⟨_, rfl, p, rfl, ⟨_, .inl (.inl X1.ls)⟩, fun lc hlc => ?_⟩
    refine lc_each walk_list (fun i y _ => ((nums X).map V.int)[i]? = some y) hlc (by rw [List.length_map, sizeLine_eq]; omega) (fun H' e => .inl (.inl (e _ _ X1.ls))) (fun _ _ _ _ _ _ e => e) (fun i x Ha Hb hi e y A hA => ?_) (fun H2 ys e2 hy o => ?_)
    · obtain ⟨rfl, hx⟩ := y
      obtain ⟨q, hq, rfl⟩ := ref_at hx
      obtain ⟨t, h1, h2⟩ := X1.row q (List.mem_of_getElem? hq)
      exact ⟨rfl, _, rfl, .inr <| .inl ⟨q.1, _, 0, _, rfl, rfl, (row_sq (e _ _ h1)), rfl, hA _ _ Ext.rfl' (nums_at hq)⟩⟩
    have el : (X.map fun q => V.ref q.1).length = ((nums X).map V.int).length := by unfold nums; simp
    rw [el] at o
    obtain rfl := outs_get o
    refine ⟨_, _, rfl, ?_⟩
    have X2 := X1.ext e2
    have b2 := hb.keep (f1.trans e2)
    have e02 := f1.trans e2
    have hf2 : H2 lf = some (.lst []) := e2 _ _ upd_same
    have lfc : lf ≠ lc := fun z => by rw [← z, upd_same] at hlc; cases hlc
    have lfb : lf ≠ b := hb.ne hlf
    have lcb : lc ≠ b := (hb.keep f1).ne hlc
    have hlc0 := Ext.none f1 hlc
    have pf : p ≠ lf := fun z => by rw [← z, hX.ls] at hlf; cases hlf
    refine ⟨_, rfl, p, rfl, ⟨_, .inl (.inl X2.ls)⟩, ?_⟩
    refine for_list (xs := X.map fun q => V.ref q.1) (fun i σ Hi => ∃ (Y : Lts) (v2 v5 v6 v7 v8 : Option V), σ = [some (.ref b), some (.ref p), v2, some (.ref lf), some (.ref lc), v5, v6, v7, v8] ∧ RowsAt Hi lf Y ∧ nums Y = (nums X).take i ∧ Hi lc = some (.lst ((nums X).map V.int)) ∧ RowsAt Hi p X ∧ ExtB b H Hi ∧ BagAt Hi b (n + 2 * i))
      ⟨[], none, none, none, none, none, rfl, ⟨hf2, (fun q h => by cases h), (fun q h => by cases h)⟩, by unfold nums; rfl, hy, X2, .of e02, b2⟩ (fun i σ Hi _ ⟨_, _, _, _, _, _, _, _, _, _, D, _⟩ => .inl (.inl D.ls)) ?_ ?_
    · rintro i x σ Hi hx ⟨Y, v2, v5, v6, v7, v8, rfl, hY, hnY, hci, hXi, ei, bi⟩
      obtain ⟨q, hq, rfl⟩ := ref_at hx
      have il : i < X.length := (List.getElem?_eq_some_iff.mp hq).1
      obtain ⟨t, h1, h2⟩ := hXi.row q (List.mem_of_getElem? hq)
      have okq := hXi.ok q (List.mem_of_getElem? hq)
      have nY : Y.length = i := by
        have := congrArg List.length hnY
        unfold nums at this
        rw [List.length_map, List.length_take, List.length_map] at this
        omega
      have tk : (nums X).take (i + 1) = (nums X).take i ++ [q.2.num] := by
        unfold nums
        rw [List.take_succ, List.getElem?_map, hq]; rfl
      -- the others
      refine ⟨_, rfl, lc, rfl, ⟨_, .inl (.inl hci)⟩, fun lo hlo => ?_⟩
      refine lc_nums walk_list (fun x => !decide (x = q.2.num)) hlo (by unfold nums; rw [List.length_map]; omega) (fun H' e => .inl (.inl (e _ _ hci))) (fun x hx Ha ea A N hA hN => ?_) (fun H3 e3 hlo3 => ?_)
      · refine ⟨rfl, _, rfl, _, rfl, .inr <| .inl ⟨q.1, _, 0, _, rfl, rfl, (row_sq (ea _ _ h1)), rfl, rfl, _, rfl, ?_⟩⟩
        exact ne_test (fun c => ⟨_, rfl, hA c _ Ext.rfl'⟩) fun c => hN c _ Ext.rfl'
      have fin : ∀ (Hk : Hp) (a : Addr) (L : LD) (v2 v5 v6 v7 v8 : Option V), ExtB b Hi Hk → BagAt Hk b (n + 2 * i + 2) → RowAt Hk a L → RowOk L → L.num = q.2.num →
          ∃ (Y2 : Lts) (w2 w5 w6 w7 w8 : Option V), [some (V.ref b), some (.ref p), v2, some (.ref lf), some (.ref lc), v5, v6, v7, v8] = [some (V.ref b), some (.ref p), w2, some (.ref lf), some (.ref lc), w5, w6, w7, w8] ∧ RowsAt (upd Hk lf (.lst ((Y.map fun q => V.ref q.1) ++ [V.ref a]))) lf Y2 ∧ nums Y2 = (nums X).take (i + 1) ∧
            upd Hk lf (.lst ((Y.map fun q => V.ref q.1) ++ [V.ref a])) lc = some (.lst ((nums X).map V.int)) ∧ RowsAt (upd Hk lf (.lst ((Y.map fun q => V.ref q.1) ++ [V.ref a]))) p X ∧ ExtB b H (upd Hk lf (.lst ((Y.map fun q => V.ref q.1) ++ [V.ref a]))) ∧ BagAt (upd Hk lf (.lst ((Y.map fun q => V.ref q.1) ++ [V.ref a]))) b (n + 2 * (i + 1)) := fun Hk a L v2 v5 v6 v7 v8 ek bk hR hOk hnum => by
        have hk := ek _ _ lfb hY.ls
        have ku : TupK Hk (upd Hk lf (.lst ((Y.map fun q => V.ref q.1) ++ [V.ref a]))) := .upd hk fun _ z => by cases z
        have kk := (bi.tups ek).trans ku
        refine ⟨Y ++ [(a, L)], _, _, _, _, _, rfl, ⟨by rw [List.map_append]; exact upd_same, fun r hr => ?_, fun r hr => ?_⟩, ?_, ?_, ?_, ?_, ?_⟩
        · rcases List.mem_append.mp hr with h | h
          · exact (hY.row r h).keep kk
          · rw [List.mem_singleton.mp h]; exact hR.keep ku
        · rcases List.mem_append.mp hr with h | h
          · exact hY.ok r h
          · rw [List.mem_singleton.mp h]; exact hOk
        · rw [tk, ← hnY]
          unfold nums
          rw [List.map_append]
          show _ ++ [L.num] = _
          rw [hnum]
        · exact (upd_ne lfc.symm).trans (ek _ _ lcb hci)
        · exact (hXi.bag bi ek pb).keep ku (upd_ne pf)
        · exact (ei.trans ek).put hlf
        · exact (bk.put lfb).mono (by omega)
      have lenf : (Y.map fun q => V.ref q.1).length < sizeLine := by rw [List.length_map, nY, sizeLine_eq]; omega
      -- whether another first answer comes
      refine ⟨_, rfl, (by decide), fun le hle => ⟨_, [], hd_ints (.inl (.inl (Ext.upd hle _ _ hlo3))), hd_ints (ns := []) (.inl (.inl upd_same)), _, rfl, ?_⟩⟩
      have g4 : Ext H3 (upd H3 le (.lst [])) := Ext.upd hle
      have e4 : Ext Hi (upd H3 le (.lst [])) := e3.trans g4
      have own : ∀ Hk, ExtB b Hi Hk → BagAt Hk b (n + 2 * i + 2) → Hk lf = some (.lst (Y.map fun q => V.ref q.1)) ∧ RowAt Hk q.1 q.2 := fun Hk ek bk => ⟨ek _ _ lfb hY.ls, ((hXi.row q (List.mem_of_getElem? hq))).keep (bi.tups ek)⟩
      refine ite2 (fun ne => ?_) (fun ne => ?_)
      · refine ⟨_, rfl, b, 3, n + 2 * i, rfl, bi.keep e4, by omega, by decide, by decide, fun u H5 u0 u3 e5 b5 n5 => ⟨_, _, rfl, rfl, _, rfl, ?_⟩⟩
        have ei5 : ExtB b Hi H5 := (ExtB.of e4).trans e5
        refine ite2 (fun up => ?_) (fun up => ?_)
        · have hlo5 := e5 lo _ (bi.ne hlo) (g4 _ _ hlo3)
          generalize hot : (nums X).filter (fun x => !decide (x = q.2.num)) = ot at ne hlo5
          have lpos : 0 < ot.length := by
            cases ot with
            | nil => simp at ne
            | cons x r => simp
          have llen : ot.length ≤ 16 := by
            rw [← hot]
            have := List.length_filter_le (fun x => !decide (x = q.2.num)) (nums X)
            have e : (nums X).length = X.length := by unfold nums; simp
            omega
          refine ⟨_, rfl, _, rfl, _, rfl, lo, _, rfl, .inl (.inl (.inl hlo5)), b, (ot.length : Nat), n + 2 * i + 1, by rw [List.length_map]; rfl, b5, by omega, by omega, Int.le_trans (show ((ot.length : Nat) : Int) ≤ 40 by omega) (by decide), fun u H6 w0 w1 e6 b6 n6 => ?_⟩
          obtain ⟨c, rfl⟩ : ∃ c : Nat, u = (c : Int) := ⟨u.toNat, by omega⟩
          have cl : c < ot.length := by omega
          have hc : ot[c]? = some ot[c] := List.getElem?_eq_getElem cl
          generalize ot[c] = fst at hc
          have hfst : fst ∈ ot := List.mem_of_getElem? hc
          rw [← hot] at hfst
          obtain ⟨fm, fne⟩ := List.mem_filter.mp hfst
          have fok : NumOk fst := by
            unfold nums at fm
            obtain ⟨r, hr, rfl⟩ := List.mem_map.mp fm
            exact (hXi.ok r hr).1.num
          have fne : q.2.num ≠ fst := fun z => by rw [z] at fne; simp at fne
          have ei6 := ei5.trans e6
          have hlo6 := e6 lo _ (bi.ne hlo) hlo5
          refine .inl ⟨lo, _, _, _, rfl, rfl, .inl (.inl hlo6), atI_int hc, ?_⟩
          have h1' := bi.tups ei6 _ _ h1
          have h2' := bi.tups ei6 _ _ h2
          -- the rest
          refine ⟨_, rfl, .inr <| .inl ⟨q.1, _, 3, _, rfl, rfl, row_sq h1', rfl, t, rfl, ⟨_, .inl (.inl h2')⟩, fun lr hlr => ?_⟩⟩
          refine lc_nums walk_tup (fun x => !decide (x = fst)) hlr (by have := okq.1.ans.1; omega) (fun H' e => .inl (.inl (e _ _ h2'))) (fun x hx Ha ea A N hA hN => ⟨rfl, _, rfl, _, rfl, rfl, _, rfl, ne_test (fun c => ⟨_, rfl, hA c _ Ext.rfl'⟩) fun c => hN c _ Ext.rfl'⟩) (fun H7 e7 hlr7 => ?_)
          have h17 := row_sq (K := K) (e7 _ _ h1')
          have ei7 : ExtB b Hi H7 := ei6.trans (.of e7)
          have b7 := b6.keep e7
          have lf7 := ei7 _ _ lfb hY.ls
          refine ⟨_, rfl, .inl ⟨rfl, _, .inl (.inl lf7)⟩, _, rfl, .inr <| .inl ⟨q.1, _, 0, _, rfl, rfl, h17, rfl, _, rfl, .inr <| .inl ⟨q.1, _, 1, _, rfl, rfl, h17, rfl, _, rfl, .inr <| .inl ⟨q.1, _, 2, _, rfl, rfl, h17, rfl, ?_⟩⟩⟩⟩
          refine ⟨_, rfl, (by show 1 ≤ sizeLine; decide), fun l1 hl1 => ?_⟩
          have x1 := Ext.upd (o := .lst [V.int fst]) hl1
          have lt8 := okq.1.ans.1
          have fl8 := List.length_filter_le (fun x => !decide (x = fst)) q.2.ans
          refine ⟨_, rfl, l1, lr, _, _, rfl, rfl, upd_same, x1 _ _ hlr7, by rw [List.length_map, sizeLine_eq]; simp only [List.length_cons, List.length_nil]; omega, fun l2 hl2 => ?_⟩
          have x2 := Ext.upd (o := .lst ([V.int fst] ++ (q.2.ans.filter fun x => !decide (x = fst)).map V.int)) hl2
          refine ⟨_, rfl, l2, _, rfl, .inl (.inl upd_same), fun l3 hl3 => ?_⟩
          rw [cut8] at *
          have x3 := Ext.upd (o := .lst (([V.int fst] ++ (q.2.ans.filter fun x => !decide (x = fst)).map V.int).take 8)) hl3
          have eT : ([V.int fst] ++ (q.2.ans.filter fun x => !decide (x = fst)).map V.int).take 8 = (turnL q.2 fst).ans.map V.int := by
            unfold turnL
            rw [List.map_take]; rfl
          refine ⟨l3, _, rfl, .inl ⟨.inl (.inl upd_same), fun ta hta => ?_⟩⟩
          have x4 := Ext.upd (o := .tup (([V.int fst] ++ (q.2.ans.filter fun x => !decide (x = fst)).map V.int).take 8)) hta
          refine ⟨(show 4 ≤ sizeLine by decide), fun tr htr => ?_⟩
          have x5 := Ext.upd (o := .tup [V.int q.2.num, .str q.2.person, .str q.2.house, .ref ta]) htr
          have xx := (((x1.trans x2).trans x3).trans x4).trans x5
          refine ⟨lf, _, _, rfl, rfl, xx _ _ lf7, lenf, fin _ tr (turnL q.2 fst) _ _ _ _ _ (ei7.trans (.of xx)) ((b7.keep xx).mono (by omega)) ⟨ta, upd_same, x5 _ _ (upd_same.trans (by rw [eT]))⟩ (turnL_ok okq fok fne) rfl⟩
        · obtain ⟨k1, k2⟩ := own H5 ei5 (b5.mono (by omega))
          exact ⟨_, rfl, .inl ⟨rfl, _, .inl (.inl k1)⟩, _, rfl, lf, _, _, rfl, rfl, k1, lenf, fin H5 q.1 q.2 _ _ _ _ _ ei5 (b5.mono (by omega)) k2 okq rfl⟩
      · have ei5 : ExtB b Hi (upd H3 le (.lst [])) := .of e4
        have b5 : BagAt (upd H3 le (.lst [])) b (n + 2 * i + 2) := (bi.keep e4).mono (by omega)
        obtain ⟨k1, k2⟩ := own _ ei5 b5
        exact iteF ⟨_, rfl, .inl ⟨rfl, _, .inl (.inl k1)⟩, _, rfl, lf, _, _, rfl, rfl, k1, lenf, fin _ q.1 q.2 _ _ _ _ _ ei5 b5 k2 okq rfl⟩
    · rintro σ Hi ⟨Y, v2, v5, v6, v7, v8, rfl, hY, hnY, hci, hXi, ei, bi⟩
      rw [List.length_map] at hnY bi
      exact ⟨_, rfl, k lf Y Hi hY hlf (by rw [hnY]; exact List.take_of_length_le (by unfold nums; rw [List.length_map]; exact Nat.le_refl _)) ei (bi.mono (by omega))⟩
end
end K9
set_option Elab.async false
set_option linter.all false
set_option maxRecDepth 100000
set_option maxHeartbeats 8000000
/-! LA7: rows mixed. -/
namespace K9
open PySem PySem.Spec PyProof.Rows L2 SX
structure RowD where
  num : Int
  person : Str
  house : Str
  ans : List Int
  deriving DecidableEq
instance rowDatum : PySem.W.Datum RowD where
  toD r := .tuple [PySem.W.Datum.toD r.num, PySem.W.Datum.toD r.person, PySem.W.Datum.toD r.house, PySem.W.Datum.toD (PySem.W.Tup.mk r.ans)]
  plain r := by simp only [PyData.plain, PyData.plainAll, PySem.W.Datum.plain, Bool.and_self]
  eqv p q := by
    simp only [PyData.eqv, PyData.eqvAll]
    rw [PySem.W.Datum.eqv, PySem.W.Datum.eqv, PySem.W.Datum.eqv, PySem.W.Datum.eqv, Bool.and_true, ← Bool.decide_and, ← Bool.decide_and, ← Bool.decide_and]
    refine decide_eq_decide.mpr ⟨fun e => ?_, fun e => by subst e; exact ⟨rfl, rfl, rfl, rfl⟩⟩
    obtain ⟨a, b, c, d⟩ := e
    cases p; cases q
    simp only [PySem.W.Tup.mk.injEq] at a b c d
    subst a b c d
    rfl
  depth := 2
  depth_le p := by
    have h1 := PySem.W.Datum.depth_le p.num
    have h2 := PySem.W.Datum.depth_le p.person
    have h3 := PySem.W.Datum.depth_le p.house
    have h4 := PySem.W.Datum.depth_le (PySem.W.Tup.mk p.ans)
    simp only [PyData.depth, PyData.depthAll]
    refine Nat.succ_le_succ (Nat.max_le.mpr ⟨Nat.le_trans h1 (Nat.zero_le _), Nat.max_le.mpr ⟨Nat.le_trans h2 (Nat.zero_le _), Nat.max_le.mpr ⟨Nat.le_trans h3 (Nat.zero_le _), Nat.max_le.mpr ⟨h4, Nat.zero_le _⟩⟩⟩⟩)
def rowOf (L : LD) : RowD := ⟨L.num, L.person, L.house, L.ans⟩
theorem hd_row {K : PySem.W.Frag} {H : Hp} {a : Addr} {L : LD} (h : RowAt H a L) : HD K H (.ref a) (rowOf L) := by
  obtain ⟨t, h1, h2⟩ := h
  exact .tup (row_sq h1) (.cons (.int _) (.cons (.str _) (.cons (.str _) (.cons (hd_tints (.inl (.inl h2))) .nil))))
theorem hds_rows {K : PySem.W.Frag} {H : Hp} : ∀ {X : Lts}, (∀ q ∈ X, RowAt H q.1 q.2) → HDs K H (X.map fun q => V.ref q.1) (X.map fun q => rowOf q.2)
  | [], _ => .nil
  | q :: X, h => .cons (hd_row (h q List.mem_cons_self)) (hds_rows fun r hr => h r (List.mem_cons_of_mem _ hr))
theorem hd_rows {K : PySem.W.Frag} {H : Hp} {p : Addr} {X : Lts} (h : RowsAt H p X) : HD K H (.ref p) (X.map fun q => rowOf q.2) := .lst (.inl (.inl h.ls)) (hds_rows h.row)
theorem erase_split {α : Type} : ∀ {l : List α} {j : Nat} {g : α}, l[j]? = some g → ∃ us vs, l = us ++ g :: vs ∧ l.eraseIdx j = us ++ vs
  | [], _, _, h => by simp at h
  | x :: l, 0, g, h => ⟨[], l, by have := Option.some.inj h; rw [this]; rfl, rfl⟩
  | x :: l, j + 1, g, h => by
    obtain ⟨us, vs, h1, h2⟩ := erase_split (l := l) (j := j) (by simpa using h)
    exact ⟨x :: us, vs, by rw [h1]; rfl, by simp [h2]⟩
def spMixed : Sp := fun vs H Q _ => ∃ (b p : Addr) (X : Lts) (n : Nat), vs = [.ref b, .ref p] ∧ BagAt H b n ∧ RowsAt H p X ∧ X.length ≤ 16 ∧ 1 ≤ X.length ∧ n + 200 ≤ 1000000000 ∧
  ∀ (q : Addr) (Y : Lts) H', RowsAt H' q Y → H q = none → (∀ r, r ∈ Y ↔ r ∈ X) → Y.length ≤ 18 → ExtB b H H' → BagAt H' b (n + 100) → Q (.ref q) H'
section
variable {P : Program} {w : World} {K : PySem.W.Frag} {mg : Str → Option Value} {base : Heap} {cL cG cT cF : Addr}
theorem ok_mixed {f : Addr} {fd : FuncData} (F : Fun K "_law_mixed" "_law_mixed" sMix f fd) (T : Mo K mg cL cG cT cF) (Gt : Gd P w K mg base 1 "_law_take" pTake spTake) : FnOk P w K mg base CX0 2 f fd pMix spMixed := by
  refine F.ok scMix (fun vs H Q E h => ?_) (fun cdv A outer s H vs Q E hr h => ?_)
  · obtain ⟨_, _, _, _, rfl, _⟩ := h; rfl
  · obtain ⟨b, p, X, n, rfl, hb, hX, hlen, hpos, hn, k⟩ := h
    have hu := hr.units
    refine ⟨_, pss_cons (ps_par (i := 2) (j := 3) rfl scMix.nd rfl rfl (by decide) rfl rfl (pa_cons (pe_callTy call_list_of (by rfl) T.b_list boot_list (pa_cons (pv 1) pa_nil)) (pa_cons (pe_lst pa_nil) pa_nil)) (by rfl))
      (pss_cons (ps_while PassesOwn.never (pt_cmpR (op_neM K (List RowD) hu) (pv 2) (pe_lst pa_nil) (nomark _))
        (pss_one (ps_expr (pe_bm PySem.F.plainAttrs_list PySem.F.slot_list_append PySem.F.type_list_append mt_append (pv 3) (pa_cons (pe_bm PySem.F.plainAttrs_list PySem.F.slot_list_pop PySem.F.type_list_pop mt_popAt (pv 2) (pa_cons (pe_g Gt hr (by rfl) (pa_cons (pv 0) (pa_cons (pe_callB call_len_seq (by rfl) T.b_len boot_len (pa_cons (pv 2) pa_nil)) pa_nil))) pa_nil)) pa_nil)))))
      (pss_cons (ps_for PassesOwn.never rfl (pi_range1 (by rfl) T.b_range (pa_cons (pe_g Gt hr (by rfl) (pa_cons (pv 0) (pa_cons pe_int pa_nil))) pa_nil)) (pg_name (i := 4) scMix.nd rfl (Or.inl rfl))
        (pss_one (ps_expr (pe_bm PySem.F.plainAttrs_list PySem.F.slot_list_insert PySem.F.type_list_insert mt_insert (pv 3) (pa_cons (pe_g Gt hr (by rfl) (pa_cons (pv 0) (pa_cons (pe_op op_add (pe_callB call_len_seq (by rfl) T.b_len boot_len (pa_cons (pv 3) pa_nil)) pe_int) pa_nil)))
          (pa_cons (pe_ix ix_seq (pv 3) (pe_g Gt hr (by rfl) (pa_cons (pv 0) (pa_cons (pe_callB call_len_seq (by rfl) T.b_len boot_len (pa_cons (pv 3) pa_nil)) pa_nil))) (fun _ _ => rfl)) pa_nil))))))
      (pss_one (ps_ret (pv 3))))), ?_⟩
    have pb := hX.neB hb
    refine ⟨_, rfl, p, _, rfl, .inl (.inl (.inl hX.ls)), fun ll hll => ?_⟩
    have f1 := Ext.upd (o := .lst (X.map fun q => V.ref q.1)) hll
    refine ⟨(by decide), fun lf hlf => ?_⟩
    have f2 := Ext.upd (o := .lst []) hlf
    have e2 := f1.trans f2
    have llb : ll ≠ b := hb.ne hll
    have lfb : lf ≠ b := (hb.keep f1).ne hlf
    have lfl : lf ≠ ll := fun z => by rw [z, upd_same] at hlf; cases hlf
    have hlf0 : H lf = none := Ext.none f1 hlf
    have b2 := (hb.keep f1).keep f2
    refine ⟨_, _, rfl, ?_⟩
    refine ⟨fun m σ Hi => ∃ (Z Y : Lts), m = Z.length ∧ σ = [some (.ref b), some (.ref p), some (.ref ll), some (.ref lf), none] ∧ RowsAt Hi ll Z ∧ RowsAt Hi lf Y ∧ (∀ r, r ∈ X ↔ r ∈ Z ∨ r ∈ Y) ∧ Y.length + Z.length = X.length ∧ ExtB b H Hi ∧ BagAt Hi b (n + Y.length),
      ⟨_, X, [], rfl, rfl, ⟨f2 _ _ upd_same, fun q hq => (hX.row q hq).keep (.of e2), hX.ok⟩, ⟨upd_same, (fun q h => by cases h), (fun q h => by cases h)⟩, fun r => ⟨.inl, fun h => h.elim id fun h => by cases h⟩, Nat.zero_add _, .of e2, b2⟩, ?_⟩
    rintro m σ Hi ⟨Z, Y, rfl, rfl, hZ, hY, hm, hl, ei, bi⟩
    refine ⟨_, rfl, (by decide), fun le hle => ⟨Z.map fun q => rowOf q.2, [], hd_rows (hZ.ext (Ext.upd hle)), .lst (.inl (.inl upd_same)) .nil, _, rfl, ?_⟩⟩
    have g1 := Ext.upd (o := .lst []) hle
    refine ite2 (fun ne => ?_) (fun ne => ?_)
    · have lpos : 0 < Z.length := by
        cases Z with
        | nil => simp at ne
        | cons x r => simp
      have hlZ := g1 _ _ hZ.ls
      have hlY := g1 _ _ hY.ls
      refine ⟨fun σ' H' => ∃ m', m' < Z.length ∧ ∃ (Z' Y' : Lts), m' = Z'.length ∧ σ' = [some (.ref b), some (.ref p), some (.ref ll), some (.ref lf), none] ∧ RowsAt H' ll Z' ∧ RowsAt H' lf Y' ∧ (∀ r, r ∈ X ↔ r ∈ Z' ∨ r ∈ Y') ∧ Y'.length + Z'.length = X.length ∧ ExtB b H H' ∧ BagAt H' b (n + Y'.length), fun _ _ h => h, ?_⟩
      refine ⟨_, rfl, .inl ⟨rfl, _, .inl (.inl hlY)⟩, _, rfl, .inl ⟨rfl, _, .inl (.inl hlZ)⟩, _, rfl, _, rfl, ll, _, rfl, .inl (.inl (.inl hlZ)), b, (Z.length : Nat), n + Y.length, by rw [List.length_map]; rfl, bi.keep g1, by omega, by omega, Int.le_trans (show ((Z.length : Nat) : Int) ≤ 40 by omega) (by decide), fun u H5 u0 u1 e5 b5 n5 => ?_⟩
      obtain ⟨q, rfl⟩ : ∃ q : Nat, u = (q : Int) := ⟨u.toNat, by omega⟩
      have ql : q < Z.length := by omega
      have hy : Z[q]? = some Z[q] := List.getElem?_eq_getElem ql
      generalize Z[q] = y at hy
      have kk := (bi.tups ((ExtB.of g1).trans e5))
      have hlZ5 := e5 _ _ llb hlZ
      have hlY5 := e5 _ _ lfb hlY
      refine ⟨ll, _, _, q, .ref y.1, rfl, rfl, hlZ5, by omega, by omega, by rw [List.length_map]; exact seqIx ql, by rw [List.getElem?_map, hy]; rfl, ?_⟩
      have k6 : TupK H5 (upd H5 ll (.lst ((Z.map fun q => V.ref q.1).eraseIdx q))) := .upd hlZ5 fun _ z => by cases z
      have hlY6 : upd H5 ll (.lst ((Z.map fun q => V.ref q.1).eraseIdx q)) lf = some (.lst (Y.map fun q => V.ref q.1)) := (upd_ne lfl).trans hlY5
      refine ⟨lf, _, _, rfl, rfl, hlY6, by rw [List.length_map, sizeLine_eq]; omega, ?_⟩
      have k7 : TupK (upd H5 ll (.lst ((Z.map fun q => V.ref q.1).eraseIdx q))) (upd (upd H5 ll (.lst ((Z.map fun q => V.ref q.1).eraseIdx q))) lf (.lst ((Y.map fun q => V.ref q.1) ++ [V.ref y.1]))) := .upd hlY6 fun _ z => by cases z
      have kT := (kk.trans k6).trans k7
      obtain ⟨us, vs, h1, h2⟩ := erase_split hy
      have ym := List.mem_of_getElem? hy
      have hlen' : (Z.eraseIdx q).length + 1 = Z.length := by rw [h2, h1]; simp; omega
      have sub : ∀ r, r ∈ Z.eraseIdx q → r ∈ Z := fun r hr => (List.eraseIdx_sublist _ _).subset hr
      refine ⟨_, by omega, Z.eraseIdx q, Y ++ [y], rfl, rfl, ⟨by rw [upd_ne lfl.symm, upd_same, map_erase], fun r hr => (hZ.row r (sub r hr)).keep kT, fun r hr => hZ.ok r (sub r hr)⟩, ⟨by rw [List.map_append]; exact upd_same, fun r hr => ?_, fun r hr => ?_⟩, fun r => ?_, by rw [List.length_append, List.length_singleton]; omega, ?_, ?_⟩
      · rcases List.mem_append.mp hr with h | h
        · exact (hY.row r h).keep kT
        · rw [List.mem_singleton.mp h]; exact (hZ.row y ym).keep kT
      · rcases List.mem_append.mp hr with h | h
        · exact hY.ok r h
        · rw [List.mem_singleton.mp h]; exact hZ.ok y ym
      · rw [hm r, h2, h1]
        simp only [List.mem_append, List.mem_cons, List.not_mem_nil, or_false]
        constructor
        · rintro ((h | h | h) | h)
          · exact .inl (.inl h)
          · exact .inr (.inr h)
          · exact .inl (.inr h)
          · exact .inr (.inl h)
        · rintro ((h | h) | (h | h))
          · exact .inl (.inl h)
          · exact .inl (.inr (.inr h))
          · exact .inr h
          · exact .inl (.inr (.inl h))
      · exact (((ei.trans (.of g1)).trans e5).put hll).put hlf0
      · exact (((b5.put llb).put lfb)).mono (by rw [List.length_append, List.length_singleton]; omega)
    · -- some of them twice
      have z0 : Z = [] := by
        cases Z with
        | nil => rfl
        | cons x r => simp at ne
      subst z0
      have b3 := bi.keep g1
      have mem : ∀ r, r ∈ Y ↔ r ∈ X := fun r => ((hm r).trans ⟨fun h => h.elim (fun h => by cases h) id, .inr⟩).symm
      rw [List.length_nil, Nat.add_zero] at hl
      refine ⟨_, rfl, b, 3, n + Y.length, rfl, b3, by omega, by decide, by decide, fun u H5 u0 u3 e5 b5 n5 => ?_⟩
      obtain ⟨c, rfl⟩ : ∃ c : Nat, u = (c : Int) := ⟨u.toNat, by omega⟩
      refine ⟨_, rfl, by omega, by omega, ?_⟩
      rw [Int.toNat_natCast]
      refine for_range (fun i σ Hi => ∃ (Y : Lts) (v4 : Option V), σ = [some (.ref b), some (.ref p), some (.ref ll), some (.ref lf), v4] ∧ RowsAt Hi lf Y ∧ (∀ r, r ∈ Y ↔ r ∈ X) ∧ Y.length = X.length + i ∧ ExtB b H Hi ∧ BagAt Hi b (n + 20 + 2 * i)) ⟨Y, none, rfl, (hY.ext g1).bag b3 e5 lfb, mem, hl, (ei.trans (.of g1)).trans e5, b5.mono (by omega)⟩ ?_ ?_
      · rintro i σ Hj hi ⟨W, v4, rfl, hW, mW, lW, ej, bj⟩
        refine ⟨_, rfl, .inl ⟨rfl, _, .inl (.inl hW.ls)⟩, _, rfl, _, rfl, lf, _, rfl, .inl (.inl (.inl hW.ls)), _, _, rfl, rfl, b, ((W.length + 1 : Nat) : Int), n + 20 + 2 * i, by rw [List.length_map]; rfl, bj, by omega, by omega, Int.le_trans (show ((W.length + 1 : Nat) : Int) ≤ 40 by omega) (by decide), fun u H6 u0 u1 e6 b6 n6 => ?_⟩
        obtain ⟨a, rfl⟩ : ∃ a : Nat, u = (a : Int) := ⟨u.toNat, by omega⟩
        have hW6 := hW.bag bj e6 lfb
        refine ⟨_, rfl, _, rfl, _, rfl, lf, _, rfl, .inl (.inl (.inl hW6.ls)), b, (W.length : Nat), n + 20 + 2 * i + 1, by rw [List.length_map]; rfl, b6, by omega, by omega, Int.le_trans (show ((W.length : Nat) : Int) ≤ 40 by omega) (by decide), fun u H7 u0' u1' e7 b7 n7 => ?_⟩
        obtain ⟨q, rfl⟩ : ∃ q : Nat, u = (q : Int) := ⟨u.toNat, by omega⟩
        have hW7 := hW6.bag b6 e7 lfb
        have ql : q < W.length := by omega
        have hy : W[q]? = some W[q] := List.getElem?_eq_getElem ql
        generalize W[q] = y at hy
        have ym := List.mem_of_getElem? hy
        refine .inl ⟨lf, _, _, .ref y.1, rfl, rfl, .inl (.inl hW7.ls), atI_nat (by rw [List.getElem?_map, hy]; rfl), ?_⟩
        refine ⟨lf, _, _, _, rfl, rfl, hW7.ls, by rw [List.length_map, sizeLine_eq]; omega, by omega, by omega, ?_⟩
        have kT : TupK H7 (upd H7 lf (.lst ((W.map fun q => V.ref q.1).take ((a : Nat) : Int).toNat ++ [V.ref y.1] ++ (W.map fun q => V.ref q.1).drop ((a : Nat) : Int).toNat))) := .upd hW7.ls fun _ z => by cases z
        have mm : ∀ r, r ∈ W.take a ++ [y] ++ W.drop a ↔ r ∈ W := fun r => by
          conv => rhs; rw [← List.take_append_drop a W]
          simp only [List.mem_append, List.mem_singleton]
          constructor
          · rintro ((h | h) | h)
            · exact .inl h
            · rw [h, ← List.mem_append, List.take_append_drop]; exact ym
            · exact .inr h
          · rintro (h | h)
            · exact .inl (.inl h)
            · exact .inr h
        refine ⟨W.take a ++ [y] ++ W.drop a, _, rfl, ⟨?_, fun r hr => (hW7.row r ((mm r).mp hr)).keep kT, fun r hr => hW7.ok r ((mm r).mp hr)⟩, fun r => (mm r).trans (mW r), ?_, ?_, ?_⟩
        · rw [List.map_append, List.map_append, List.map_take, List.map_drop]; exact upd_same
        · rw [List.length_append, List.length_append, List.length_take, List.length_drop, List.length_singleton]; omega
        · exact ((ej.trans e6).trans e7).put hlf0
        · exact (b7.put lfb).mono (by omega)
      · rintro σ Hj ⟨W, v4, rfl, hW, mW, lW, ej, bj⟩
        exact ⟨_, rfl, k lf W Hj hW hlf0 mW (by omega) ej (bj.mono (by omega))⟩
end
end K9
set_option Elab.async false
set_option linter.all false
set_option maxRecDepth 100000
set_option maxHeartbeats 8000000
/-! LA8: whether links lead from the first of some numbers to all of them. -/
namespace K9
open PySem PySem.Spec PyProof.Rows L2 SX
theorem rows_ls {H : Hp} {p : Addr} {X : Lts} (h : RowsAt H p X) (nd : (nums X).Nodup) : LsOK (lets X) := by
  refine ⟨by rw [come_lets]; exact nd, fun l hl => ?_⟩
  obtain ⟨q, hq, rfl⟩ := List.mem_map.mp hl
  obtain ⟨_, _, a3, a4⟩ := (h.ok q hq).1.ans
  exact ⟨a4, a3⟩
theorem lets_at {X : Lts} {i : Nat} {q : Addr × LD} (h : X[i]? = some q) : (lets X)[i]? = some (q.2.num, q.2.ans) := by
  unfold lets
  rw [List.getElem?_map, h]; rfl
theorem fold_take {α β : Type} {g : β → α → β} {l : List α} {i : Nat} {a : α} {f : β} (h : l[i]? = some a) : (l.take (i + 1)).foldl g f = g ((l.take i).foldl g f) a := by
  rw [List.take_succ, h, List.foldl_append]; rfl
theorem in_test {x : Int} {ns : List Int} {A B : Prop} (h1 : decide (x ∈ ns) = true → A) (h2 : decide (x ∈ ns) = false → B) : if inV (V.int x) (ns.map V.int) = true then A else B := by
  rw [inV_int]
  cases c : decide (x ∈ ns) with
  | true => exact iteT (h1 c)
  | false => exact iteF (h2 c)
theorem nin_test {x : Int} {ns : List Int} {A B : Prop} (h1 : (!decide (x ∈ ns)) = true → A) (h2 : (!decide (x ∈ ns)) = false → B) : if (!inV (V.int x) (ns.map V.int)) = true then A else B := by
  rw [inV_int]
  cases c : decide (x ∈ ns) with
  | true => rw [c] at h2; exact iteF (h2 rfl)
  | false => rw [c] at h1; exact iteT (h1 rfl)
def spHang : Sp := fun vs H Q _ => ∃ (p q : Addr) (X : Lts) (cl r : List Int) (n : Int), vs = [.ref p, .ref q] ∧ RowsAt H p X ∧ LsOK (lets X) ∧ H q = some (.lst (cl.map V.int)) ∧ cl = n :: r ∧ n ∈ known (lets X) ∧
  (∀ x, x ∈ cl ↔ Conn (lets X) n x ∧ x ∈ known (lets X)) ∧ cl.Pairwise (· ≤ ·) ∧ cl.Nodup ∧ cl.length ≤ 200 ∧ X.length ≤ 16 ∧ ∀ H', Ext H H' → Q (.bl true) H'
section
variable {P : Program} {w : World} {K : PySem.W.Frag} {mg : Str → Option Value} {base : Heap} {cL cG cT cF : Addr}
theorem ok_hangs {f : Addr} {fd : FuncData} (F : Fun K "_law_hangs" "_law_hangs" sHang f fd) (T : Mo K mg cL cG cT cF) : FnOk P w K mg base CX0 1 f fd pHang spHang := by
  refine F.ok scHang (fun vs H Q E h => ?_) (fun cdv A outer s H vs Q E hr h => ?_)
  · obtain ⟨_, _, _, _, _, _, rfl, _⟩ := h; rfl
  · obtain ⟨p, q, X, cl, r, n, rfl, hX, ok, hq, ecl, hn, hcl, srt, ndc, lcl, lX, k⟩ := h
    have hu := hr.units
    refine ⟨_, pss_cons (ps_set (i := 2) scHang.nd rfl (Or.inr rfl) (pe_lst (pa_cons (pe_ix ix_seq (pv 1) pe_int (fun _ _ => rfl)) pa_nil)))
      (pss_cons (ps_for PassesOwn.never rfl (pi_range1 (by rfl) T.b_range (pa_cons (pe_callB call_len_seq (by rfl) T.b_len boot_len (pa_cons (pv 1) pa_nil)) pa_nil)) (pg_name (i := 3) scHang.nd rfl (Or.inl rfl))
        (pss_one (ps_for PassesOwn.never rfl (pi_list (pv 0)) (pg_name (i := 4) scHang.nd rfl (Or.inl rfl))
          (pss_cons (ps_set (i := 5) scHang.nd rfl (Or.inl rfl) (pe_op op_cat (pe_lst (pa_cons (pe_ix ix_seq (pv 4) pe_int (fun _ _ => rfl)) pa_nil)) (pe_callTy call_list_of (by rfl) T.b_list boot_list (pa_cons (pe_ix ix_seq (pv 4) pe_int (fun _ _ => rfl)) pa_nil))))
          (pss_one (ps_if (pt_cmpR (op_neM K (List Int) hu) (pe_lc rfl scHang.nd (pi_list (pv 5)) (own := [("_law_number", 6)]) (blkOk_by (by show blkC nHang (defScope sHang) _ _ = true; decide +kernel)) (fun _ _ _ _ _ => pg_name (i := 6) scHang.nd rfl (Or.inl rfl)) (fun _ _ _ _ _ => pts_one (pt_cmpR (op_inK K) (pv 6) (pv 2) rfl)) (fun _ _ _ _ _ => pv 6)) (pe_lst pa_nil) (nomark _))
            (pss_one (ps_set (i := 2) scHang.nd rfl (Or.inr rfl) (pe_op op_cat (pv 2) (pe_lc rfl scHang.nd (pi_list (pv 5)) (own := [("_law_number", 6)]) (blkOk_by (by show blkC nHang (defScope sHang) _ _ = true; decide +kernel)) (fun _ _ _ _ _ => pg_name (i := 6) scHang.nd rfl (Or.inl rfl)) (fun _ _ _ _ _ => pts_one (pt_cmpR (op_notInK K) (pv 6) (pv 2) rfl)) (fun _ _ _ _ _ => pv 6))))) pss_nil))))))
      (pss_one (ps_ret (pe_cmpR (op_eqM K (List Int) hu) (pe_callB cr_sortedI (by rfl) T.b_sorted boot_sorted (pa_cons (pv 2) pa_nil)) (pv 1) (nomark _))))), ?_⟩
    have c0 : cl[0]? = some n := by rw [ecl]; rfl
    refine ⟨_, rfl, .inl ⟨q, _, 0, _, rfl, rfl, .inl (.inl hq), atI_int (i := 0) c0, (by show 1 ≤ sizeLine; decide), fun lf hlf => ?_⟩⟩
    have g1 := Ext.upd (o := .lst [V.int n]) hlf
    refine ⟨_, rfl, q, _, rfl, .inl (.inl (.inl (g1 _ _ hq))), _, rfl, by omega, by rw [List.length_map]; omega, ?_⟩
    rw [Int.toNat_natCast, List.length_map]
    have inn : ∀ i, (hgIter (lets X) i [n]).Nodup ∧ ∀ x ∈ hgIter (lets X) i [n], Conn (lets X) n x ∧ x ∈ known (lets X) := fun i => by
      induction i with
      | zero => exact ⟨by simp [hgIter], fun x hx => by rw [List.mem_singleton.mp hx]; exact ⟨.refl _, hn⟩⟩
      | succ i ih => exact hgFold_in (lets X) _ (fun l hl => ⟨hl, ok.touch hl⟩) ih
    refine for_range (fun i σ Hi => ∃ (a : Addr) (v3 v4 v5 v6 : Option V), σ = [some (.ref p), some (.ref q), some (.ref a), v3, v4, v5, v6] ∧ Hi a = some (.lst ((hgIter (lets X) i [n]).map V.int)) ∧ Ext H Hi) ⟨lf, none, none, none, none, rfl, upd_same, g1⟩ ?_ ?_
    · rintro i σ Hi hi ⟨a, v3, v4, v5, v6, rfl, ha, ei⟩
      have hXi := hX.ext ei
      refine ⟨_, rfl, p, rfl, ⟨_, .inl (.inl hXi.ls)⟩, ?_⟩
      refine for_list (xs := X.map fun q => V.ref q.1) (fun j σ Hj => ∃ (a : Addr) (v4 v5 v6 : Option V), σ = [some (.ref p), some (.ref q), some (.ref a), some (.int (0 + i)), v4, v5, v6] ∧ Hj a = some (.lst ((((lets X).take j).foldl hgStep (hgIter (lets X) i [n])).map V.int)) ∧ Ext H Hj)
        ⟨a, v4, v5, v6, rfl, ha, ei⟩ (fun j σ Hj _ ⟨_, _, _, _, _, _, e⟩ => .inl (.inl (e _ _ hX.ls))) ?_ ?_
      · rintro j x σ Hj hx ⟨a, v4, v5, v6, rfl, ha, ej⟩
        obtain ⟨z, hz, rfl⟩ := ref_at hx
        obtain ⟨t, h1, h2⟩ := (hX.ext ej).row z (List.mem_of_getElem? hz)
        have hl := lets_at hz
        have hlm : (z.2.num, z.2.ans) ∈ lets X := List.mem_of_getElem? hl
        have a8 := (hX.ok z (List.mem_of_getElem? hz)).1.ans.1
        have jl : j < X.length := (List.getElem?_eq_some_iff.mp hz).1
        have stp := fold_take (g := hgStep) (f := hgIter (lets X) i [n]) hl
        obtain ⟨nf, inf⟩ := hgFold_in (ls := lets X) (n := n) ((lets X).take j) (hgIter (lets X) i [n]) (fun l hl => ⟨List.mem_of_mem_take hl, ok.touch (List.mem_of_mem_take hl)⟩) (inn i)
        rw [stp]
        generalize ((lets X).take j).foldl hgStep (hgIter (lets X) i [n]) = fd at ha nf inf
        have lfd : fd.length ≤ 200 := by
          have := nodup_le nf fun x hx => (hcl x).mpr (inf x hx)
          omega
        refine ⟨_, rfl, .inr <| .inl ⟨z.1, _, 0, _, rfl, rfl, row_sq h1, rfl, (by show 1 ≤ sizeLine; decide), fun l1 hl1 => ?_⟩⟩
        have x1 := Ext.upd (o := .lst [V.int z.2.num]) hl1
        refine ⟨_, rfl, .inr <| .inl ⟨z.1, _, 3, _, rfl, rfl, row_sq (x1 _ _ h1), rfl, t, _, rfl, .inr (.inl (.inl (x1 _ _ h2))), fun l2 hl2 => ?_⟩⟩
        have x2 := Ext.upd (o := .lst (z.2.ans.map V.int)) hl2
        refine ⟨l1, l2, _, _, rfl, rfl, x2 _ _ upd_same, upd_same, by rw [List.length_map, sizeLine_eq]; simp only [List.length_cons, List.length_nil]; omega, fun l3 hl3 => ?_⟩
        have x3 := Ext.upd (o := .lst ([V.int z.2.num] ++ z.2.ans.map V.int)) hl3
        have xx := (x1.trans x2).trans x3
        generalize hHt : upd _ l3 _ = Ht at xx
        have ht : Ht l3 = some (.lst ((touch (z.2.num, z.2.ans)).map V.int)) := by rw [← hHt]; exact upd_same
        have aT := xx _ _ ha
        have lto : (touch (z.2.num, z.2.ans)).length ≤ 9 := Nat.succ_le_succ a8
        -- whether one is found
        refine ⟨_, rfl, l3, rfl, ⟨_, .inl (.inl ht)⟩, fun D hD => ?_⟩
        refine lc_nums walk_list (fun x => decide (x ∈ fd)) hD (by omega) (fun H' e => .inl (.inl (e _ _ ht))) (fun x hx Ha ea A N hA hN => ⟨rfl, _, rfl, _, rfl, a, _, rfl, .inl (.inl (.inl (ea _ _ aT))), rfl, ints_flat fd, _, rfl, in_test (fun c => ⟨_, rfl, hA c _ Ext.rfl'⟩) fun c => hN c _ Ext.rfl'⟩) (fun H4 e4 hD4 => ?_)
        refine ⟨(by decide), fun le hle => ⟨_, [], hd_ints (.inl (.inl (Ext.upd hle _ _ hD4))), hd_ints (ns := []) (.inl (.inl upd_same)), _, rfl, ?_⟩⟩
        have g4 := Ext.upd (o := .lst []) hle
        have e5 := e4.trans g4
        refine ite2 (fun ne => ?_) (fun ne => ?_)
        · have ne' := of_decide_eq_true ne
          have a5 := e5 _ _ aT
          have t5 := e5 _ _ ht
          refine ⟨_, rfl, _, rfl, l3, rfl, ⟨_, .inl (.inl t5)⟩, fun D2 hD2 => ?_⟩
          refine lc_nums walk_list (fun x => !decide (x ∈ fd)) hD2 (by omega) (fun H' e => .inl (.inl (e _ _ t5))) (fun x hx Ha ea A N hA hN => ⟨rfl, _, rfl, _, rfl, a, _, rfl, .inl (.inl (.inl (ea _ _ a5))), rfl, ints_flat fd, _, rfl, nin_test (fun c => ⟨_, rfl, hA c _ Ext.rfl'⟩) fun c => hN c _ Ext.rfl'⟩) (fun H6 e6 hD6 => ?_)
          have ll := List.length_filter_le (fun x => !decide (x ∈ fd)) (touch (z.2.num, z.2.ans))
          refine ⟨a, D2, _, _, rfl, rfl, e6 _ _ a5, hD6, by rw [List.length_map, List.length_map, sizeLine_eq]; omega, fun l7 hl7 => ?_⟩
          refine ⟨l7, _, _, _, rfl, ?_, (((ej.trans xx).trans e5).trans e6).trans (Ext.upd hl7)⟩
          rw [← List.map_append]
          have : hgStep fd (z.2.num, z.2.ans) = fd ++ (touch (z.2.num, z.2.ans)).filter fun x => !decide (x ∈ fd) := by
            unfold hgStep
            rw [if_pos ne']; rfl
          rw [this]
          exact upd_same
        · have ne' : ¬ (touch (z.2.num, z.2.ans)).filter (fun x => decide (x ∈ fd)) ≠ [] := fun h => ne (decide_eq_true h)
          refine ⟨a, _, _, _, rfl, ?_, (ej.trans xx).trans e5⟩
          have : hgStep fd (z.2.num, z.2.ans) = fd := by
            unfold hgStep
            rw [if_neg ne']
          rw [this]
          exact e5 _ _ aT
      · rintro σ Hj ⟨a, v4, v5, v6, rfl, ha, ej⟩
        refine ⟨a, _, _, _, _, rfl, ?_, ej⟩
        rw [List.length_map] at ha
        have e : (lets X).take X.length = lets X := List.take_of_length_le (by unfold lets; rw [List.length_map]; exact Nat.le_refl _)
        rw [e] at ha
        exact ha
    · rintro σ Hi ⟨a, v3, v4, v5, v6, rfl, ha, ei⟩
      refine ⟨_, rfl, a, _, rfl, .inl (.inl ha), fun ns' b hp hs hb => ?_⟩
      have x1 := Ext.upd (o := .lst (ns'.map V.int)) hb
      refine ⟨_, rfl, ns', cl, hd_ints (.inl (.inl upd_same)), hd_ints (.inl (.inl (x1 _ _ (ei _ _ hq)))), ?_⟩
      obtain ⟨n1, m1⟩ := hg_all ok hn hcl
      have e : ns' = cl := sorted_perm hs srt (hp.trans (perm_of n1 ndc m1))
      rw [decide_eq_true e]
      exact k _ (ei.trans x1)
end
end K9
set_option Elab.async false
set_option linter.all false
set_option maxRecDepth 100000
set_option maxHeartbeats 8000000
/-! LA9: whether the threads part the known numbers. -/
namespace K9
open PySem PySem.Spec PyProof.Rows L2 SX
theorem known_len : ∀ {X : Lts}, (∀ q ∈ X, q.2.ans.length ≤ 8) → (known (lets X)).length ≤ 9 * X.length
  | [], _ => Nat.zero_le _
  | q :: X, h => by
    have ih := known_len (X := X) fun r hr => h r (List.mem_cons_of_mem _ hr)
    have h0 := h q List.mem_cons_self
    have e : known (lets (q :: X)) = (q.2.num :: q.2.ans) ++ known (lets X) := rfl
    rw [e, List.length_append, List.length_cons, List.length_cons]
    omega
theorem rows_known {H : Hp} {p : Addr} {X : Lts} (h : RowsAt H p X) (l : X.length ≤ 16) : (known (lets X)).length ≤ 144 := by
  have := known_len fun q hq => (h.ok q hq).1.ans.1
  omega
theorem nums_come (X : Lts) : come (lets X) = nums X := come_lets X
def spTFit (K : PySem.W.Frag) (cL cG cT : Addr) : Sp := fun vs H Q _ => ∃ (t p : Addr) (X S : Lts) (H0 : Hp), vs = [.ref t, .ref p] ∧ ThrAt K cL cG cT H0 H t S ∧ lets S = lets X ∧ RowsAt H p X ∧ (nums X).Nodup ∧ X.length ≤ 16 ∧ ∀ H', Ext H H' → Q (.bl true) H'
section
variable {P : Program} {w : World} {K : PySem.W.Frag} {mg : Str → Option Value} {base : Heap} {cL cG cT cF : Addr}
theorem ok_tfit {f : Addr} {fd : FuncData} (F : Fun K "_law_threads_fit" "_law_threads_fit" sTFit f fd) (T : Mo K mg cL cG cT cF) (Ms : Md P w K mg base cT 2 "summary" pTSum (spTSum K cL cG cT)) (Gh : Gd P w K mg base 1 "_law_hangs" pHang spHang) : FnOk P w K mg base CX0 3 f fd pTFit (spTFit K cL cG cT) := by
  refine F.ok scTFit (fun vs H Q E h => ?_) (fun cdv A outer s H vs Q E hr h => ?_)
  · obtain ⟨_, _, _, _, _, rfl, _⟩ := h; rfl
  · obtain ⟨t, p, X, S, H0, rfl, D, hS, hX, nd, lX, k⟩ := h
    have hu := hr.units
    have hr1 := hr.mono (show 1 ≤ 2 by decide)
    refine ⟨_, pss_cons (ps_set (i := 2) scTFit.nd rfl (Or.inr rfl) (pe_lst pa_nil))
      (pss_cons (ps_for PassesOwn.never rfl (pi_list (pv 1)) (pg_name (i := 3) scTFit.nd rfl (Or.inl rfl))
        (pss_one (ps_set (i := 2) scTFit.nd rfl (Or.inr rfl) (pe_op op_cat (pv 2) (pe_lc rfl scTFit.nd (pi_list (pe_op op_cat (pe_lst (pa_cons (pe_ix ix_seq (pv 3) pe_int (fun _ _ => rfl)) pa_nil)) (pe_callTy call_list_of (by rfl) T.b_list boot_list (pa_cons (pe_ix ix_seq (pv 3) pe_int (fun _ _ => rfl)) pa_nil)))) (own := [("_law_number", 10)])
          (blkOk_by (by show blkC nTFit (defScope sTFit) _ _ = true; decide +kernel)) (fun _ _ _ _ _ => pg_name (i := 10) scTFit.nd rfl (Or.inl rfl)) (fun _ _ _ _ _ => pts_one (pt_cmpR (op_notInK K) (pv 10) (pv 2) rfl)) (fun _ _ _ _ _ => pv 10))))))
      (pss_cons (ps_asg (pe_tup (pa_cons (pe_lc rfl scTFit.nd (pi_list (pv 1)) (own := [("_law_row", 3)]) (blkOk_by (by show blkC nTFit (defScope sTFit) _ _ = true; decide +kernel)) (fun _ _ _ _ _ => pg_name (i := 3) scTFit.nd rfl (Or.inl rfl)) (fun _ _ _ _ _ => pts_nil) (fun _ _ _ _ _ => pe_ix (ix_seqK K) (pv 3) pe_int (fun _ _ => rfl))) (pa_cons (pe_lst pa_nil) pa_nil)))
          (pg_tupK K 2 rfl (pgs_cons (pg_name (i := 4) scTFit.nd rfl (Or.inr rfl)) (pgs_cons (pg_name (i := 5) scTFit.nd rfl (Or.inl rfl)) pgs_nil))))
      (pss_cons (ps_for PassesOwn.never rfl (pi_list (pe_m0 (pv 0) T.kT.cl Ms hr)) (pg_tupK K 3 rfl (pgs_cons (pg_name (i := 6) scTFit.nd rfl (Or.inl rfl)) (pgs_cons (pg_name (i := 7) scTFit.nd rfl (Or.inl rfl)) (pgs_cons (pg_name (i := 8) scTFit.nd rfl (Or.inl rfl)) pgs_nil))))
        (pss_cons (ps_set (i := 9) scTFit.nd rfl (Or.inl rfl) (pe_callB cr_sortedI (by rfl) T.b_sorted boot_sorted (pa_cons (pe_op op_cat (pe_callTy call_list_of (by rfl) T.b_list boot_list (pa_cons (pv 7) pa_nil)) (pe_callTy call_list_of (by rfl) T.b_list boot_list (pa_cons (pv 8) pa_nil))) pa_nil)))
        (pss_cons (ps_if (pw_or (pt_cmpR op_ne (pv 6) (pe_ix ix_seq (pv 9) pe_int (fun _ _ => rfl)) (nomark _)) (pw_or1 (pt_cmpR (op_neM K (List Int) hu) (pe_lc rfl scTFit.nd (pi_tup (pv 7)) (own := [("_law_number", 10)]) (blkOk_by (by show blkC nTFit (defScope sTFit) _ _ = true; decide +kernel)) (fun _ _ _ _ _ => pg_name (i := 10) scTFit.nd rfl (Or.inl rfl)) (fun _ _ _ _ _ => pts_one (pt_cmpR (op_notInK K) (pv 10) (pv 4) rfl)) (fun _ _ _ _ _ => pv 10)) (pe_lst pa_nil) (nomark _)))).pt
          (pss_one (ps_ret pe_bl)) pss_nil)
        (pss_cons (ps_if (pt_cmpR (op_neM K (List Int) hu) (pe_lc rfl scTFit.nd (pi_tup (pv 8)) (own := [("_law_number", 10)]) (blkOk_by (by show blkC nTFit (defScope sTFit) _ _ = true; decide +kernel)) (fun _ _ _ _ _ => pg_name (i := 10) scTFit.nd rfl (Or.inl rfl)) (fun _ _ _ _ _ => pts_one (pt_cmpR (op_inK K) (pv 10) (pv 4) rfl)) (fun _ _ _ _ _ => pv 10)) (pe_lst pa_nil) (nomark _))
          (pss_one (ps_ret pe_bl)) pss_nil)
        (pss_cons (ps_set (i := 5) scTFit.nd rfl (Or.inl rfl) (pe_op op_cat (pv 5) (pv 9)))
        (pss_one (ps_if (pt_not (pt_val (pe_g Gh hr1 (by rfl) (pa_cons (pv 1) (pa_cons (pv 9) pa_nil))))) (pss_one (ps_ret pe_bl)) pss_nil)))))))
      (pss_one (ps_ret (pe_cmpR (op_eqM K (List Int) hu) (pe_callB cr_sortedI (by rfl) T.b_sorted boot_sorted (pa_cons (pv 5) pa_nil)) (pe_callB cr_sortedI (by rfl) T.b_sorted boot_sorted (pa_cons (pv 2) pa_nil)) (nomark _))))))), ?_⟩
    have ok := rows_ls hX nd
    have kl := rows_known hX lX
    refine ⟨(by decide), fun l0 hl0 => ?_⟩
    have g0 := Ext.upd (o := .lst []) hl0
    refine ⟨_, rfl, p, rfl, ⟨_, .inl (.inl (g0 _ _ hX.ls))⟩, ?_⟩
    refine for_list (xs := X.map fun q => V.ref q.1) (fun j σ Hj => ∃ (a : Addr) (v3 v6 v7 v8 v9 v10 : Option V), σ = [some (.ref t), some (.ref p), some (.ref a), v3, none, none, v6, v7, v8, v9, v10] ∧ Hj a = some (.lst ((((lets X).take j).foldl knStep []).map V.int)) ∧ Ext H Hj)
      ⟨l0, none, none, none, none, none, none, rfl, upd_same, g0⟩ (fun j σ Hj _ ⟨_, _, _, _, _, _, _, _, _, e⟩ => .inl (.inl (e _ _ hX.ls))) ?_ ?_
    · rintro j x σ Hj hx ⟨a, v3, v6, v7, v8, v9, v10, rfl, ha, ej⟩
      obtain ⟨z, hz, rfl⟩ := ref_at hx
      obtain ⟨tt, h1, h2⟩ := (hX.ext ej).row z (List.mem_of_getElem? hz)
      have hl := lets_at hz
      have a8 := (hX.ok z (List.mem_of_getElem? hz)).1.ans.1
      have stp := fold_take (g := knStep) (f := []) hl
      obtain ⟨nf, inf⟩ := kn_fold ((lets X).take j) [] List.nodup_nil fun l hl => ok.touch (List.mem_of_mem_take hl)
      rw [stp]
      generalize ((lets X).take j).foldl knStep [] = fd at ha nf inf
      have lfd : fd.length ≤ 144 := by
        have := nodup_le (m := known (lets X)) nf fun x hx => by
          rcases (inf x).mp hx with h | h
          · cases h
          · obtain ⟨l, hl, e⟩ := mem_known.mp h
            exact mem_known.mpr ⟨l, List.mem_of_mem_take hl, e⟩
        omega
      refine ⟨_, rfl, _, rfl, .inr <| .inl ⟨z.1, _, 0, _, rfl, rfl, row_sq h1, rfl, (by show 1 ≤ sizeLine; decide), fun l1 hl1 => ?_⟩⟩
      have x1 := Ext.upd (o := .lst [V.int z.2.num]) hl1
      refine ⟨_, rfl, .inr <| .inl ⟨z.1, _, 3, _, rfl, rfl, row_sq (x1 _ _ h1), rfl, tt, _, rfl, .inr (.inl (.inl (x1 _ _ h2))), fun l2 hl2 => ?_⟩⟩
      have x2 := Ext.upd (o := .lst (z.2.ans.map V.int)) hl2
      refine ⟨l1, l2, _, _, rfl, rfl, x2 _ _ upd_same, upd_same, by rw [List.length_map, sizeLine_eq]; simp only [List.length_cons, List.length_nil]; omega, fun l3 hl3 => ?_⟩
      have x3 := Ext.upd (o := .lst ([V.int z.2.num] ++ z.2.ans.map V.int)) hl3
      have xx := (x1.trans x2).trans x3
      generalize hHt : upd _ l3 _ = Ht at xx
      have ht : Ht l3 = some (.lst ((touch (z.2.num, z.2.ans)).map V.int)) := by rw [← hHt]; exact upd_same
      have aT := xx _ _ ha
      have lto : (touch (z.2.num, z.2.ans)).length ≤ 9 := Nat.succ_le_succ a8
      refine ⟨l3, rfl, ⟨_, .inl (.inl ht)⟩, fun D2 hD2 => ?_⟩
      refine lc_nums walk_list (fun x => !decide (x ∈ fd)) hD2 (by omega) (fun H' e => .inl (.inl (e _ _ ht))) (fun x hx Ha ea A N hA hN => ⟨rfl, _, rfl, _, rfl, a, _, rfl, .inl (.inl (.inl (ea _ _ aT))), rfl, ints_flat fd, _, rfl, nin_test (fun c => ⟨_, rfl, hA c _ Ext.rfl'⟩) fun c => hN c _ Ext.rfl'⟩) (fun H6 e6 hD6 => ?_)
      have ll := List.length_filter_le (fun x => !decide (x ∈ fd)) (touch (z.2.num, z.2.ans))
      refine ⟨a, D2, _, _, rfl, rfl, e6 _ _ aT, hD6, by rw [List.length_map, List.length_map, sizeLine_eq]; omega, fun l7 hl7 => ?_⟩
      refine ⟨l7, _, _, _, _, _, _, rfl, ?_, ((ej.trans xx).trans e6).trans (Ext.upd hl7)⟩
      rw [← List.map_append]
      exact upd_same
    · rintro σ H1 ⟨lk, v3, v6, v7, v8, v9, v10, rfl, hk, e1⟩
      have ek : (lets X).take (X.map fun q => V.ref q.1).length = lets X := List.take_of_length_le (by unfold lets; rw [List.length_map, List.length_map]; exact Nat.le_refl _)
      rw [ek] at hk
      have hk : H1 lk = some (.lst ((knAll (lets X)).map V.int)) := hk
      have X1 := hX.ext e1
      -- the numbers
      refine ⟨_, rfl, p, rfl, ⟨_, .inl (.inl X1.ls)⟩, fun lc hlc => ?_⟩
      refine lc_each walk_list (fun i y _ => ((nums X).map V.int)[i]? = some y) hlc (by rw [List.length_map, sizeLine_eq]; omega) (fun H' e => .inl (.inl (e _ _ X1.ls))) (fun _ _ _ _ _ _ e => e) (fun i x Ha Hb hi e y A hA => ?_) (fun H2 ys e2 hy o => ?_)
      · obtain ⟨rfl, hx⟩ := y
        obtain ⟨q, hq, rfl⟩ := ref_at hx
        obtain ⟨tt, h1, h2⟩ := X1.row q (List.mem_of_getElem? hq)
        exact ⟨rfl, _, rfl, .inr <| .inl ⟨q.1, _, 0, _, rfl, rfl, row_sq (e _ _ h1), rfl, hA _ _ Ext.rfl' (nums_at hq)⟩⟩
      have el : (X.map fun q => V.ref q.1).length = ((nums X).map V.int).length := by unfold nums; simp
      rw [el] at o
      obtain rfl := outs_get o
      refine ⟨(by decide), fun l5 hl5 => ⟨(by show 2 ≤ sizeLine; decide), fun tp htp => ?_⟩⟩
      have x5 := Ext.upd (o := .lst []) hl5
      have x6 := Ext.upd (o := .tup [V.ref lc, .ref l5]) htp
      refine ⟨tp, _, rfl, .inl (.inl upd_same), rfl, _, _, rfl, _, _, rfl, rfl, ?_⟩
      have e06 := ((e1.trans e2).trans x5).trans x6
      have hc6 := (x5.trans x6) _ _ hy
      have hl6 := x6 _ _ (show upd H2 l5 (.lst []) l5 = _ from upd_same)
      have hk6 := ((e2.trans x5).trans x6) _ _ hk
      generalize hH6 : upd (upd H2 l5 _) tp _ = H6 at e06 hc6 hl6 hk6
      -- the summary
      have D6 := D.ext e06
      have D6' := D6
      obtain ⟨⟨dl', ol', dg', _, _, _, ⟨⟨dti, hti⟩, _⟩, _⟩, _⟩ := D6'
      refine ⟨_, rfl, t, dti, _, rfl, hti, rfl, t, S, H0, rfl, D6, by rw [hS]; omega, fun ps H7 L e7 hsum sok => ?_⟩
      rw [hS] at sok
      obtain ⟨vs, hps, pair⟩ := hsum
      have lv := Paired.length pair
      have eL : ∀ e ∈ L, SumE (lets X) e ∧ e.1 ∈ known (lets X) ∧ Least (lets X) e.1 := fun e he => by
        have := (sok.names e.1).mp (List.mem_map.mpr ⟨e, he, rfl⟩)
        exact ⟨sok.each e he, this.1, this⟩
      have lL : L.length ≤ 144 := by
        have := nodup_le (m := known (lets X)) sok.up.nodup fun x hx => ((sok.names x).mp hx).1
        rw [List.length_map] at this
        omega
      have e07 := e06.trans e7
      refine ⟨ps, rfl, ⟨_, .inl (.inl hps)⟩, ?_⟩
      refine for_list (xs := vs) (fun i σ Hi => ∃ (a : Addr) (B : List (List Int)) (v6 v7 v8 v9 v10 : Option V), σ = [some (.ref t), some (.ref p), some (.ref lk), v3, some (.ref lc), some (.ref a), v6, v7, v8, v9, v10] ∧ Hi a = some (.lst (B.flatten.map V.int)) ∧ B.length = i ∧ B.flatten.length ≤ 144 * i ∧
          (∀ (j : Nat) e b, L[j]? = some e → B[j]? = some b → b.Perm (e.2.1 ++ e.2.2)) ∧ Ext H7 Hi)
        ⟨l5, [], _, _, _, _, _, rfl, e7 _ _ hl6, rfl, Nat.zero_le _, (fun j e b h1 h2 => by simp at h2), Ext.rfl'⟩ (fun j σ Hj _ ⟨_, _, _, _, _, _, _, _, _, _, _, _, e⟩ => .inl (.inl (e _ _ hps))) ?_ ?_
      · rintro i x σ Hi hx ⟨a, B, v6, v7, v8, v9, v10, rfl, ha, lB, fB, pB, ei⟩
        obtain ⟨e, he, q, m, b, rfl, hq, hm, hb⟩ := paired_get pair hx
        obtain ⟨se, ke, le⟩ := eL e (List.mem_of_getElem? he)
        have il : i < L.length := (List.getElem?_eq_some_iff.mp he).1
        have m1 : e.2.1.length ≤ 144 := by
          have := nodup_le (m := known (lets X)) se.me.nodup fun x hx => come_known ((se.hm x).mp hx).2
          omega
        have b1 : e.2.2.length ≤ 144 := by
          have := nodup_le (m := known (lets X)) se.ab.nodup fun x hx => ((se.ha x).mp hx).2.1
          omega
        have mb1 : (e.2.1 ++ e.2.2).length ≤ 144 := by
          have := nodup_le (m := known (lets X)) (both_nd se) fun x hx => ((both_mem se ke x).mp hx).2
          omega
        have hqi := ei _ _ hq
        have hmi := ei _ _ hm
        have hbi := ei _ _ hb
        refine ⟨q, _, rfl, .inl (.inl hqi), rfl, _, _, rfl, _, _, rfl, _, _, rfl, rfl, ?_⟩
        -- both
        refine ⟨_, rfl, m, _, rfl, .inr (.inl (.inl hmi)), fun l1 hl1 => ?_⟩
        have y1 := Ext.upd (o := .lst (e.2.1.map V.int)) hl1
        refine ⟨_, rfl, b, _, rfl, .inr (.inl (.inl (y1 _ _ hbi))), fun l2 hl2 => ?_⟩
        have y2 := Ext.upd (o := .lst (e.2.2.map V.int)) hl2
        refine ⟨l1, l2, _, _, rfl, rfl, y2 _ _ upd_same, upd_same, by rw [List.length_map, List.length_map, sizeLine_eq]; omega, fun l3 hl3 => ?_⟩
        have y3 := Ext.upd (o := .lst (e.2.1.map V.int ++ e.2.2.map V.int)) hl3
        refine ⟨l3, e.2.1 ++ e.2.2, rfl, .inl (.inl (by rw [List.map_append]; exact upd_same)), fun both l4 bp bs hl4 => ?_⟩
        have y4 := Ext.upd (o := .lst (both.map V.int)) hl4
        have yy := ((y1.trans y2).trans y3).trans y4
        generalize hHb : upd _ l4 _ = Hb at yy
        have hbo : Hb l4 = some (.lst (both.map V.int)) := by rw [← hHb]; exact upd_same
        obtain ⟨r, hr0⟩ := both_head se le bp bs
        have lbo : both.length ≤ 144 := by have := bp.length_eq; omega
        have ndb : both.Nodup := bp.nodup_iff.mpr (both_nd se)
        -- the name is the first; members come
        refine ⟨_, rfl, _, rfl, .inl ⟨l4, _, 0, _, rfl, rfl, .inl (.inl hbo), atI_int (i := 0) (y := e.1) (by rw [hr0]; rfl), rfl, _, rfl, ?_⟩⟩
        refine ne_test (fun c => by simp at c) fun _ => ?_
        have eib := ei.trans yy
        have hmb := yy _ _ hmi
        have hbb := yy _ _ hbi
        have e7b := (e7.trans eib)
        have hcb := e7b _ _ hc6
        refine ⟨_, rfl, m, rfl, ⟨_, .inl (.inl hmb)⟩, fun D1 hD1 => ?_⟩
        refine lc_nums walk_tup (fun x => !decide (x ∈ nums X)) hD1 (by omega) (fun H' e => .inl (.inl (e _ _ hmb))) (fun x hx Ha ea A N hA hN => ⟨rfl, _, rfl, _, rfl, lc, _, rfl, .inl (.inl (.inl (ea _ _ hcb))), rfl, ints_flat _, _, rfl, nin_test (fun c => ⟨_, rfl, hA c _ Ext.rfl'⟩) fun c => hN c _ Ext.rfl'⟩) (fun H8 e8 hD8 => ?_)
        have no1 : e.2.1.filter (fun x => !decide (x ∈ nums X)) = [] := List.filter_eq_nil_iff.mpr fun x hx => by
          have := ((se.hm x).mp hx).2
          rw [nums_come] at this
          simp [this]
        rw [no1] at hD8
        refine ⟨(by decide), fun n1 hn1 => ⟨[], [], hd_ints (ns := []) (.inl (.inl (Ext.upd hn1 _ _ hD8))), hd_ints (ns := []) (.inl (.inl upd_same)), _, rfl, ?_⟩⟩
        have y5 := Ext.upd (o := .lst []) hn1
        have e9 := e8.trans y5
        -- the absent ones have not come
        refine ⟨_, rfl, b, rfl, ⟨_, .inl (.inl (e9 _ _ hbb))⟩, fun D2 hD2 => ?_⟩
        refine lc_nums walk_tup (fun x => decide (x ∈ nums X)) hD2 (by omega) (fun H' e => .inl (.inl (e _ _ (e9 _ _ hbb)))) (fun x hx Ha ea A N hA hN => ⟨rfl, _, rfl, _, rfl, lc, _, rfl, .inl (.inl (.inl (ea _ _ (e9 _ _ hcb)))), rfl, ints_flat _, _, rfl, in_test (fun c => ⟨_, rfl, hA c _ Ext.rfl'⟩) fun c => hN c _ Ext.rfl'⟩) (fun H10 e10 hD10 => ?_)
        have no2 : e.2.2.filter (fun x => decide (x ∈ nums X)) = [] := List.filter_eq_nil_iff.mpr fun x hx => by
          have := ((se.ha x).mp hx).2.2
          rw [nums_come] at this
          simp [this]
        rw [no2] at hD10
        refine ⟨(by decide), fun n2 hn2 => ⟨[], [], hd_ints (ns := []) (.inl (.inl (Ext.upd hn2 _ _ hD10))), hd_ints (ns := []) (.inl (.inl upd_same)), _, rfl, ?_⟩⟩
        have y6 := Ext.upd (o := .lst []) hn2
        have e11 := (e9.trans e10).trans y6
        have eb := yy.trans e11
        -- listed
        refine ⟨_, rfl, _, rfl, a, l4, _, _, rfl, rfl, eb _ _ ha, e11 _ _ hbo, by rw [List.length_map, List.length_map, sizeLine_eq]; have : 144 * i ≤ 144 * 144 := Nat.mul_le_mul_left _ (by omega); omega, fun l9 hl9 => ?_⟩
        have y7 := Ext.upd (o := .lst (B.flatten.map V.int ++ both.map V.int)) hl9
        have eb2 := eb.trans y7
        have e012 := (e07.trans ei).trans eb2
        refine ⟨_, rfl, _, rfl, p, l4, X, both, r, e.1, rfl, hX.ext e012, ok, (e11.trans y7) _ _ hbo, hr0, ke, fun x => by rw [bp.mem_iff]; exact both_mem se ke x, bs, ndb, by omega, lX, fun H' e' => ⟨true, rfl, ?_⟩⟩
        refine ⟨l9, B ++ [both], _, _, _, _, _, rfl, ?_, by rw [List.length_append, lB]; rfl, ?_, fun j e' b' h1 h2 => ?_, (ei.trans eb2).trans e'⟩
        · rw [List.flatten_append, List.map_append]
          have z := e' l9 _ (show upd _ l9 _ l9 = _ from upd_same)
          simpa using z
        · rw [List.flatten_append, List.length_append]
          have : [both].flatten = both := by simp
          rw [this]
          omega
        · by_cases hj : j < B.length
          · rw [List.getElem?_append_left hj] at h2
            exact pB j e' b' h1 h2
          · rw [List.getElem?_append_right (by omega)] at h2
            have j0 : j = i := by
              have := (List.getElem?_eq_some_iff.mp h2).1
              rw [List.length_singleton] at this
              omega
            subst j0
            rw [lB, Nat.sub_self] at h2
            cases h2
            rw [he] at h1
            cases h1
            exact bp
      · rintro σ Hi ⟨a, B, v6, v7, v8, v9, v10, rfl, ha, lB, fB, pB, ei⟩
        refine ⟨_, rfl, a, _, rfl, .inl (.inl ha), fun s1 a1 p1 q1 ha1 => ?_⟩
        have y1 := Ext.upd (o := .lst (s1.map V.int)) ha1
        refine ⟨_, rfl, lk, _, rfl, .inl (.inl (y1 _ _ ((e7.trans ei) _ _ hk6))), fun s2 a2 p2 q2 ha2 => ?_⟩
        have y2 := Ext.upd (o := .lst (s2.map V.int)) ha2
        refine ⟨s1, s2, hd_ints (.inl (.inl (y2 _ _ upd_same))), hd_ints (.inl (.inl upd_same)), ?_⟩
        have pf := listed_ok ok sok (B := B) (by omega) pB
        have es : s1 = s2 := sorted_perm q1 q2 ((p1.trans pf).trans p2.symm)
        rw [decide_eq_true es]
        exact k _ (((e07.trans ei).trans y1).trans y2)
end
end K9
set_option Elab.async false
set_option linter.all false
set_option maxRecDepth 100000
set_option maxHeartbeats 4000000
/-! LR: repr of data, and how long it is. -/
namespace K9
open PySem PySem.Spec PyProof.Rows L2
theorem int_len {n : Int} (h0 : 0 ≤ n) (h2 : n ≤ 10 ^ 30) : (Str.ofString (toString n)).length ≤ 40 := by
  obtain ⟨k, rfl⟩ : ∃ k : Nat, n = (k : Int) := ⟨n.toNat, by omega⟩
  have l : (Str.ofString (Nat.repr k)).length = (Nat.repr k).length := by
    rw [TL.len_tl, TL.tl_ofString, List.length_map, String.length_toList]
  show (Str.ofString (Nat.repr k)).length ≤ 40
  rw [l]
  refine (Nat.length_repr_le_iff (n := k) (by decide : 0 < 40)).mpr ?_
  have h3 : k ≤ 10 ^ 30 := by
    have : (k : Int) ≤ ((10 ^ 30 : Nat) : Int) := by simpa using h2
    exact_mod_cast this
  exact Nat.lt_of_le_of_lt h3 (by decide)
theorem from_le : ∀ (ts : List Str) (k : Nat) (acc : Str) (B : Nat), (∀ t ∈ ts, t.length ≤ B) → (textFrom k acc ts).length ≤ acc.length + ts.length * (B + 2)
  | [], _, acc, B, _ => by show acc.length ≤ _; omega
  | t :: ts, k, acc, B, h => by
    have ih := from_le ts (k + 1) (acc ++ (if k > 0 then ", " else "" : String) ++ t) B fun x hx => h x (List.mem_cons_of_mem _ hx)
    have ht := h t List.mem_cons_self
    have e : (acc ++ (if k > 0 then ", " else "" : String) ++ t).length ≤ acc.length + 2 + t.length := by
      rw [PySem.Str.length_append, PySem.Str.length_append]
      have : (Str.ofString (if k > 0 then ", " else "" : String)).length ≤ 2 := by split <;> decide +kernel
      omega
    show (textFrom (k + 1) _ ts).length ≤ _
    rw [List.length_cons, Nat.succ_mul]
    omega
theorem listText_le {ts : List Str} {B : Nat} (h : ∀ t ∈ ts, t.length ≤ B) : (listText ts).length ≤ 2 + ts.length * (B + 2) := by
  have := from_le ts 0 "[" B h
  have l1 : ("[" : Str).length = 1 := by decide +kernel
  have l2 : ("]" : Str).length = 1 := by decide +kernel
  show (textFrom 0 "[" ts ++ "]").length ≤ _
  rw [PySem.Str.length_append]
  omega
theorem join_le : ∀ {ts : List Str} {B : Nat}, (∀ t ∈ ts, t.length ≤ B) → (Str.join ", " ts).length ≤ ts.length * (B + 2)
  | [], _, _ => by show (0 : Nat) ≤ _; omega
  | [x], B, h => by show x.length ≤ _; have := h x List.mem_cons_self; simp; omega
  | x :: y :: r, B, h => by
    have ih := join_le (ts := y :: r) fun t ht => h t (List.mem_cons_of_mem _ ht)
    have hx := h x List.mem_cons_self
    have l2 : (", " : Str).length = 2 := by decide +kernel
    show (x ++ ", " ++ Str.join ", " (y :: r)).length ≤ _
    rw [PySem.Str.length_append, PySem.Str.length_append, l2, List.length_cons (a := x), Nat.succ_mul]
    omega
theorem tupleText_le {ts : List Str} {B : Nat} (h : ∀ t ∈ ts, t.length ≤ B) : (tupleText ts).length ≤ 4 + ts.length * (B + 2) := by
  have := join_le h
  have l1 : ("(" : Str).length = 1 := by decide +kernel
  have l2 : (Str.ofString (if ts.length == 1 then ",)" else ")" : String)).length ≤ 2 := by split <;> decide +kernel
  show (("(" : Str) ++ Str.join ", " ts ++ Str.ofString (if ts.length == 1 then ",)" else ")" : String)).length ≤ _
  rw [PySem.Str.length_append, PySem.Str.length_append]
  omega
theorem shownAll_map : ∀ xs : List PyData, PyData.shownAll xs = xs.map PyData.shown
  | [] => rfl
  | x :: xs => by show PyData.shown x :: PyData.shownAll xs = _; rw [shownAll_map xs]; rfl
theorem shown_list_le {xs : List PyData} {B : Nat} (h : ∀ x ∈ xs, x.shown.length ≤ B) : (PyData.list xs).shown.length ≤ 2 + xs.length * (B + 2) := by
  show (listText (PyData.shownAll xs)).length ≤ _
  rw [shownAll_map]
  have := listText_le (ts := xs.map PyData.shown) (B := B) fun t ht => by obtain ⟨x, hx, rfl⟩ := List.mem_map.mp ht; exact h x hx
  rwa [List.length_map] at this
theorem shown_tup_le {xs : List PyData} {B : Nat} (h : ∀ x ∈ xs, x.shown.length ≤ B) : (PyData.tuple xs).shown.length ≤ 4 + xs.length * (B + 2) := by
  show (tupleText (PyData.shownAll xs)).length ≤ _
  rw [shownAll_map]
  have := tupleText_le (ts := xs.map PyData.shown) (B := B) fun t ht => by obtain ⟨x, hx, rfl⟩ := List.mem_map.mp ht; exact h x hx
  rwa [List.length_map] at this
theorem shown_int_le {n : Int} (h0 : 0 ≤ n) (h2 : n ≤ 10 ^ 30) : (PyData.int n).shown.length ≤ 40 := int_len h0 h2
/-- repr(x) of data -/
def rRepr (K : PySem.W.Frag) : List V → Hp → VK → Prop := fun xs H Q => ∃ a d, xs = [V.ref a] ∧ Dp K H (.ref a) d ∧ d.showable = true ∧ d.hasDict = false ∧ d.depth ≤ 60 ∧ d.shown.length ≤ sizeLine ∧ Q (.str d.shown) H
theorem call_repr {X : Cx} (hg : X.A.guards = some []) (hu : X.A.units + 64 < cLine) : CallR X (.builtin "repr") (rRepr X.K) := by
  intro pins s σ H xs us Q I r h
  obtain ⟨a, d, rfl, hd, h1, h2, h3, h4, q⟩ := h
  rw [Vals.ref1 r]
  obtain ⟨as, hr⟩ := Dp.reads I _ _ _ hd rfl
  exact repr_of_reads' hr h1 (fun z => by rw [h2] at z; cases z) hg (by omega) (fun _ _ e => e) (fun h' u tk hk => ⟨.str d.shown, H, I.kept hk, ⟨u, rfl⟩, q⟩) h4
/-! the data of a summary, of a walk -/
def dInts (ns : List Int) : PyData := .tuple (ns.map PyData.int)
def dTrip (e : Trip) : PyData := .tuple [.int e.1, dInts e.2.1, dInts e.2.2]
def dSum (L : List Trip) : PyData := .list (L.map dTrip)
def dWalk (zs : List (Nat × Int)) : PyData := .list (zs.map fun q => .tuple [.int (q.1 : Nat), .int q.2])
theorem dInts_le {ns : List Int} {m : Nat} (h : ∀ n ∈ ns, NumOk n) (hl : ns.length ≤ m) : (dInts ns).shown.length ≤ 4 + m * 42 := by
  have := shown_tup_le (xs := ns.map PyData.int) (B := 40) fun x hx => by
    obtain ⟨n, hn, rfl⟩ := List.mem_map.mp hx
    have := h n hn
    exact shown_int_le (by have := this.1; omega) this.2
  rw [List.length_map] at this
  unfold dInts
  have : ns.length * 42 ≤ m * 42 := Nat.mul_le_mul_right _ hl
  omega
theorem dTrip_le {e : Trip} {m : Nat} (h : NumOk e.1) (h1 : ∀ n ∈ e.2.1, NumOk n) (h2 : ∀ n ∈ e.2.2, NumOk n) (l1 : e.2.1.length ≤ m) (l2 : e.2.2.length ≤ m) : (dTrip e).shown.length ≤ 4 + 3 * (46 + m * 42) := by
  have := shown_tup_le (xs := [PyData.int e.1, dInts e.2.1, dInts e.2.2]) (B := 44 + m * 42) fun x hx => by
    simp only [List.mem_cons, List.not_mem_nil, or_false] at hx
    rcases hx with rfl | rfl | rfl
    · have := shown_int_le (n := e.1) (by have := h.1; omega) h.2; omega
    · have := dInts_le h1 l1; omega
    · have := dInts_le h2 l2; omega
  exact Nat.le_trans this (by simp only [List.length_cons, List.length_nil]; omega)
theorem dSum_ok {L : List Trip} (h : ∀ e ∈ L, NumOk e.1 ∧ (∀ n ∈ e.2.1, NumOk n) ∧ (∀ n ∈ e.2.2, NumOk n) ∧ e.2.1.length ≤ 144 ∧ e.2.2.length ≤ 144) (hl : L.length ≤ 144) : (dSum L).shown.length ≤ sizeLine := by
  have := shown_list_le (xs := L.map dTrip) (B := 4 + 3 * (46 + 144 * 42)) fun x hx => by
    obtain ⟨e, he, rfl⟩ := List.mem_map.mp hx
    obtain ⟨a, b, c, d, f⟩ := h e he
    exact dTrip_le a b c d f
  rw [List.length_map] at this
  have : L.length * (4 + 3 * (46 + 144 * 42) + 2) ≤ 144 * (4 + 3 * (46 + 144 * 42) + 2) := Nat.mul_le_mul_right _ hl
  unfold dSum
  rw [sizeLine_eq]
  omega
theorem dWalk_ok {zs : List (Nat × Int)} (h : ∀ q ∈ zs, q.1 ≤ 20000 ∧ NumOk q.2) (hl : zs.length ≤ 144) : (dWalk zs).shown.length ≤ sizeLine := by
  have := shown_list_le (xs := zs.map fun q => PyData.tuple [.int (q.1 : Nat), .int q.2]) (B := 4 + 2 * 42) fun x hx => by
    obtain ⟨e, he, rfl⟩ := List.mem_map.mp hx
    obtain ⟨a, b⟩ := h e he
    exact shown_tup_le (xs := [.int (e.1 : Nat), .int e.2]) (B := 40) fun x hx => by
      simp only [List.mem_cons, List.not_mem_nil, or_false] at hx
      rcases hx with rfl | rfl
      · exact shown_int_le (by omega) (Int.le_trans (show ((e.1 : Nat) : Int) ≤ 20000 by omega) (by decide))
      · exact shown_int_le (by have := b.1; omega) b.2
  rw [List.length_map] at this
  have : zs.length * (4 + 2 * 42 + 2) ≤ 144 * (4 + 2 * 42 + 2) := Nat.mul_le_mul_right _ hl
  unfold dWalk
  rw [sizeLine_eq]
  omega
theorem showAll_of : ∀ {xs : List PyData}, (∀ x ∈ xs, x.showable = true) → PyData.showableAll xs = true
  | [], _ => rfl
  | x :: xs, h => by
    show (x.showable && PyData.showableAll xs) = true
    rw [h x List.mem_cons_self, showAll_of fun y hy => h y (List.mem_cons_of_mem _ hy)]; rfl
theorem noDicts_of : ∀ {xs : List PyData}, (∀ x ∈ xs, x.hasDict = false) → PyData.hasDictAll xs = false
  | [], _ => rfl
  | x :: xs, h => by
    show (x.hasDict || PyData.hasDictAll xs) = false
    rw [h x List.mem_cons_self, noDicts_of fun y hy => h y (List.mem_cons_of_mem _ hy)]; rfl
theorem depthAll_le {k : Nat} : ∀ {xs : List PyData}, (∀ x ∈ xs, x.depth ≤ k) → PyData.depthAll xs ≤ k
  | [], _ => Nat.zero_le _
  | x :: xs, h => Nat.max_le.mpr ⟨h x List.mem_cons_self, depthAll_le fun y hy => h y (List.mem_cons_of_mem _ hy)⟩
end K9
set_option Elab.async false
set_option linter.all false
set_option maxRecDepth 100000
set_option maxHeartbeats 8000000
/-! LB: len(o) of an own class; words of drawn lines; the dict of first answers. -/
namespace K9
open PySem PySem.Spec PyProof.Rows L2 SX
/-! ### the words of a drawn line -/
theorem tl_S (l : List Nat) : TL.tl (S l) = l := by unfold TL.tl S; simp
theorem word_at {l : Str} {q : Nat × Int} (h : LineOf l q) (hd : q.1 < 1000) : (Txt.split (cutS l (some 3) none) (" " : Str))[1]? = some (Str.ofString (toString q.2)) := by
  obtain ⟨y, sd, hy, _, _, rfl⟩ := h
  have y3 := hy hd
  have sp : (" " : Str) = S [32] := by decide +kernel
  have dig : 32 ∉ TL.tl (Str.ofString (toString q.2)) := int_text_free' 32 (by omega) q.2
  have e1 : TL.tl ((((y ++ (" " : Str)) ++ Str.ofString (toString q.2)) ++ (" " : Str)) ++ sd) = TL.tl y ++ (32 :: (TL.tl (Str.ofString (toString q.2)) ++ (32 :: TL.tl sd))) := by
    rw [TL.tl_append, TL.tl_append, TL.tl_append, TL.tl_append, sp]; simp [tl_S]
  generalize hz : (((y ++ (" " : Str)) ++ Str.ofString (toString q.2)) ++ (" " : Str)) ++ sd = z at e1
  have ly : (TL.tl y).length = 3 := by rw [← TL.len_tl]; exact y3
  have hl : z.length = (TL.tl z).length := TL.len_tl z
  have h3 : 3 ≤ z.length := by rw [hl, e1, List.length_append, ly]; omega
  have e2 : cutS z (some 3) none = S ([] ++ ([32] ++ (TL.tl (Str.ofString (toString q.2)) ++ ([32] ++ TL.tl sd)))) := by
    unfold cutS S
    have i3 : HT.sIx z.length 0 (some (3 : Int)) = 3 := sIx_at (j := 3) h3
    rw [i3, HT.sIx_none]
    congr 1
    congr 1
    have : z.cps.toList = TL.tl z := rfl
    rw [this, e1, List.take_of_length_le (by rw [List.length_drop, ← e1, ← hl]; omega), List.drop_append, ly]
    rw [List.drop_of_length_le (by omega)]
    rfl
  rw [e2, sp, split_S (by simp) (by decide), spl_free _ (by simp) (free_head (by simp)), spl_free _ (by simp) (free_head dig)]
  show some (S (TL.tl (Str.ofString (toString q.2)))) = _
  rw [show S (TL.tl (Str.ofString (toString q.2))) = Str.ofString (toString q.2) from S_tl _]
/-! ### first answers -/
def fsts (ls : List Let) : List (Int × Option Int) := ls.map fun l => (l.1, l.2.head?)
theorem fsts_fst (ls : List Let) : (fsts ls).map (·.1) = come ls := by unfold fsts; rw [List.map_map]; rfl
theorem fsts_get {ls : List Let} (nd : (come ls).Nodup) (n : Int) : (valV (rowsD oV (fsts ls)) (Sum.inl n)).getD .non = oV (fstOf ls n) := by
  by_cases h : n ∈ come ls
  · obtain ⟨l, hl, rfl⟩ := mem_come.mp h
    rw [rowsD_some (f := oV) (by rw [fsts_fst]; exact nd) (show (l.1, l.2.head?) ∈ fsts ls from List.mem_map.mpr ⟨l, hl, rfl⟩), fst_at nd hl]
    rfl
  · rw [rowsD_none (f := oV) fun b hb => h (by rw [← fsts_fst]; exact List.mem_map.mpr ⟨_, hb, rfl⟩), fst_none h]
    rfl
theorem fsts_some {ls : List Let} (nd : (come ls).Nodup) {n a : Int} (h : fstOf ls n = some a) : valV (rowsD oV (fsts ls)) (Sum.inl n) = some (.int a) := by
  obtain ⟨l, hl, rfl, e⟩ := fst_some h
  rw [rowsD_some (f := oV) (by rw [fsts_fst]; exact nd) (show (l.1, l.2.head?) ∈ fsts ls from List.mem_map.mpr ⟨l, hl, rfl⟩), e]
  rfl
theorem steps_all {f : Fn} : ∀ {l : List Int} {e : Int}, Steps f l e → ∀ x ∈ l, f x ≠ none
  | [], _, _, x, h => by cases h
  | [x], e, s, z, h => by rw [List.mem_singleton.mp h, show f x = some e from s]; simp
  | x :: y :: r, e, ⟨s, t⟩, z, h => by
    rcases List.mem_cons.mp h with q | q
    · rw [q, s]; simp
    · exact steps_all t z q
end K9
set_option Elab.async false
set_option linter.all false
set_option maxRecDepth 100000
set_option maxHeartbeats 16000000
/-! LC: whether paths, rings and walk are right. -/
namespace K9
open PySem PySem.Spec PyProof.Rows L2 SX
theorem Md.imp {P : Program} {w : World} {K : PySem.W.Frag} {mg : Str → Option Value} {base : Heap} {C : Addr} {k : Nat} {m : Str} {ps : List Str} {sp sp' : Sp} (M : Md P w K mg base C k m ps sp) (h : ∀ vs H Q E, sp' vs H Q E → sp vs H Q E) : Md P w K mg base C k m ps sp' := by
  obtain ⟨f, fd, F, a, b⟩ := M.ex
  exact ⟨f, fd, F.imp h, a, b⟩
/-- ring_at, both ends in one -/
def RingV (f : Fn) (r : Int) (H : Hp) (v : V) : Prop := (Cut f r ∧ ∃ a R, v = .ref a ∧ H a = some (.tup (R.map V.int)) ∧ RingOK f r R) ∨ (¬ Cut f r ∧ v = .non)
def spFRingU (K : PySem.W.Frag) (cL cF : Addr) : Sp := fun vs H Q _ => ∃ (f : Addr) (n : Int) (S : Lts) (H0 : Hp), vs = [.ref f, .int n] ∧ ForAt K cL cF H0 H f S ∧ n ∈ known (lets S) ∧
  ∀ v H' us r, Ext H H' → Path (pr S) n (us ++ [r]) → RingV (fstOf (lets S)) r H' v → Q v H'
theorem up_ex : ∀ l : List Int, ∃ ks, Up ks ∧ ∀ x, x ∈ ks ↔ x ∈ l
  | [] => ⟨[], List.Pairwise.nil, fun _ => Iff.rfl⟩
  | x :: l => by
    obtain ⟨ks, h1, h2⟩ := up_ex l
    by_cases h : x ∈ ks
    · exact ⟨ks, h1, fun y => by rw [h2 y, List.mem_cons]; exact ⟨.inr, fun z => z.elim (fun e => by rw [e]; exact (h2 x).mp h) id⟩⟩
    · refine ⟨ks.filter (fun y => decide (y < x)) ++ x :: ks.filter (fun y => decide (x < y)), ?_, fun y => ?_⟩
      · refine List.pairwise_append.mpr ⟨List.Pairwise.filter _ h1, List.pairwise_cons.mpr ⟨fun y hy => by simpa using (List.mem_filter.mp hy).2, List.Pairwise.filter _ h1⟩, fun a ha b hb => ?_⟩
        have a1 : a < x := by simpa using (List.mem_filter.mp ha).2
        rcases List.mem_cons.mp hb with e | e
        · omega
        · have b1 : x < b := by simpa using (List.mem_filter.mp e).2
          omega
      · rw [List.mem_append, List.mem_cons, List.mem_filter, List.mem_filter, List.mem_cons, ← h2 y]
        constructor
        · rintro (⟨a, _⟩ | a | ⟨a, _⟩)
          · exact .inr a
          · exact .inl a
          · exact .inr a
        · rintro (a | a)
          · exact .inr (.inl a)
          · by_cases c : y < x
            · exact .inl ⟨a, decide_eq_true c⟩
            · by_cases e : y = x
              · exact .inr (.inl e)
              · exact .inr (.inr ⟨a, decide_eq_true (by omega)⟩)
theorem isF_ex (S : Lts) : ∃ Fr, IsF S Fr := by
  obtain ⟨ks, h1, h2⟩ := up_ex (known (lets S))
  exact ⟨frst (lets S) ks (pr S) h1 h2 (parOf_is _), rfl, h2⟩
theorem not_before {α : Type} {l : List α} {j : Nat} {a : α} (nd : l.Nodup) (h : l[j]? = some a) : a ∉ l.take j := fun m => by
  have e : l = l.take j ++ a :: l.drop (j + 1) := by
    have h' := List.getElem?_eq_some_iff.mp h
    rw [← h'.2, List.getElem_cons_drop, List.take_append_drop]
  rw [e] at nd
  exact (List.nodup_append.mp nd).2.2 a m a List.mem_cons_self rfl
theorem sum_cast : ∀ l : List Nat, (l.map fun (n : Nat) => (n : Int)).sum = (l.sum : Nat)
  | [] => rfl
  | x :: l => by rw [List.map_cons, List.sum_cons, sum_cast l, List.sum_cons]; omega
theorem neq_skip {α : Type} [DecidableEq α] {a b : α} {A B : Prop} (e : a = b) (h : B) : if decide (a ≠ b) = true then A else B := by
  rw [if_neg (by simp [e])]; exact h
theorem bl_skip {b c : Bool} {A B : Prop} (e : b = c) (h : B) : if (!decide (V.bl b = V.bl c)) = true then A else B := by
  rw [if_neg (by simp [e])]; exact h
theorem known_ok {H : Hp} {p : Addr} {X : Lts} (h : RowsAt H p X) {n : Int} (hn : n ∈ known (lets X)) : NumOk n := by
  obtain ⟨l, hl, e⟩ := mem_known.mp hn
  obtain ⟨q, hq, rfl⟩ := List.mem_map.mp hl
  rcases e with e | e
  · rw [e]; exact (h.ok q hq).1.num
  · exact (h.ok q hq).1.ans.2.1 n e
theorem line_len {l : Str} {q : Nat × Int} (h : LineOf l q) (hn : NumOk q.2) : l.length ≤ 100 := by
  obtain ⟨y, sd, _, hy, hs, rfl⟩ := h
  have := str_int_len hn
  have l1 : (" " : Str).length = 1 := by decide +kernel
  rw [PySem.Str.length_append, PySem.Str.length_append, PySem.Str.length_append, PySem.Str.length_append, l1]
  omega
theorem path_two {p : Fn} {n a : Int} {ps : List Int} (P : Path p n ps) (h : p n = some a) : ps[1]? = some a := by
  cases P with
  | root h' => rw [h'] at h; cases h
  | step h' P =>
    rw [h'] at h
    cases h
    obtain ⟨r, e⟩ := P.head
    rw [e]; rfl
theorem path_root {p : Fn} {n r : Int} {us : List Int} (P : Path p n (us ++ [r])) (h : p n = none) : r = n := by
  generalize hps : us ++ [r] = ps at P
  cases P with
  | root h' =>
    cases us with
    | nil => exact List.singleton_inj.mp hps
    | cons u us =>
      have := congrArg List.length hps
      simp at this
  | step h' P => rw [h'] at h; cases h
theorem eq_skip {i j : Int} {A B : Prop} (e : i = j) (h : B) : if (!decide (V.int i = V.int j)) = true then A else B := ne_test (fun c => by simp [e] at c) fun _ => h
section
variable {X : Cx} {o e : Expr} {es : List Expr} {to : TE} {t : TA} {name : Str} {apos cpos : Pos} {T id : String} {r : V → List V → Hp → VK → Prop}
theorem pe_bmK (K : PySem.W.Frag) (pa : PlainAttrs T) (slot : Slot T name id) (hty : typeOf (.builtin id) = pure (.type "method_descriptor")) (hm : MtR X id r) (ho : PE X o to) (ha : PA X (e :: es) t) (hK : X.K = K := by rfl)
    (hbase : attributeBase o name X.env (eval o X.env) = eval o X.env := by rfl)
    (hfew : ((backTo cpos (starEach (e :: es) X.env)).all (fun x => !x.1) && (backToKw cpos (keywordEach [] X.env)).all (fun x => x.1.isSome)
      && decide ((e :: es).length + ([] : List Keyword).length + (if ([] : List Keyword).isEmpty then 0 else 1) < 30)) = true := by rfl)
    (hline : (apos.endLine == cpos.line) = true := by rfl) (hs : starEach (e :: es) X.env = (false, eval e X.env) :: starEach es X.env := by rfl) (hplain : (backTo cpos (starEach es X.env)).any (·.1) = false := by rfl) :
    PE X (.Call (.Attribute o name apos) (e :: es) [] cpos) (tBM K T r to t) := by subst hK; exact pe_bm pa slot hty hm ho ha hbase hfew hline hs hplain
end
def spFFit (K : PySem.W.Frag) (cL cG cT cF : Addr) : Sp := fun vs H Q _ => ∃ (f t p : Addr) (X S S' : Lts) (H0 H0' : Hp), vs = [.ref f, .ref t, .ref p] ∧ ForAt K cL cF H0 H f S ∧ ThrAt K cL cG cT H0' H t S' ∧ lets S = lets X ∧ lets S' = lets X ∧ RowsAt H p X ∧ (nums X).Nodup ∧ X.length ≤ 16 ∧ ∀ H', Ext H H' → Q (.bl true) H'
section
variable {P : Program} {w : World} {K : PySem.W.Frag} {mg : Str → Option Value} {base : Heap} {cL cG cT cF fw : Addr} {fdw : FuncData}
theorem ok_ffit {f : Addr} {fd : FuncData} (F : Fun K "_law_forest_fits" "_law_forest_fits" sFFit f fd) (T : Mo K mg cL cG cT cF)
    (Mr : Md P w K mg base cF 1 "roots" pFRts (spFRts K cL cF)) (Mc : Md P w K mg base cF 1 "children" pFChi (spFChi K cL cF)) (hmw : Meth K cF "walk_trees" fw) (Fw : Fun K "walk_trees" "Forest.walk_trees" sWalk fw fdw) (hbw : Binds K fdw pWalk [])
    (Mp : Md P w K mg base cF 1 "path" pFPath (spFPath cF)) (Mo' : Md P w K mg base cF 2 "root" pFRoot (spFRoot cF)) (Mpa : Md P w K mg base cF 1 "parent" pFPar (spFPar cF)) (Mg : Md P w K mg base cF 3 "ring_at" pFRing (spFRing K cL cF))
    (Ms : Md P w K mg base cF 1 "summary" pFSum (spFSum K cL cF)) (Ml : Md P w K mg base cF 1 "__len__" pFLen (spFLen K cL cF)) (Md' : Md P w K mg base cF 4 "drawn" pFDrw (spFDrw K cL cF))
    (Mts : Md P w K mg base cT 2 "summary" pTSum (spTSum K cL cG cT)) (Mn : Md P w K mg base cT 1 "name_of" pTNam (spTNam K cL cG cT)) : FnOk P w K mg base CX0 5 f fd pFFit (spFFit K cL cG cT cF) := by
  have Mg' : Md P w K mg base cF 3 "ring_at" pFRing (spFRingU K cL cF) := Mg.imp fun vs H Q E ⟨fo, n, S, H0, e, D, hn, k⟩ => ⟨fo, n, S, H0, e, D, hn, fun H' us r x P => ⟨fun c a R ha ro => k _ H' us r x P (.inl ⟨c, a, R, rfl, ha, ro⟩), fun c => k _ H' us r x P (.inr ⟨c, rfl⟩)⟩⟩
  refine F.ok scFFit (fun vs H Q E h => ?_) (fun cdv A outer s H vs Q E hr h => ?_)
  · obtain ⟨_, _, _, _, _, _, _, _, rfl, _⟩ := h; rfl
  · obtain ⟨fo, t, p, X, S, S', H0, H0', rfl, D, DT, hS, hS', hX, nd, lX, k⟩ := h
    have hu := hr.units
    have hu1 := hu_of hr
    have hr1 := hr.mono (show 1 ≤ 4 by decide)
    have hr2 := hr.mono (show 2 ≤ 4 by decide)
    have hr3 := hr.mono (show 3 ≤ 4 by decide)
    refine ⟨_, pss_cons (ps_set (i := 3) scFFit.nd rfl (Or.inr rfl) pe_dnewK)
      (pss_cons (ps_for PassesOwn.never rfl (pi_list (pv 2)) (pg_name (i := 4) scFFit.nd rfl (Or.inl rfl))
        (pss_one (ps_dput hu1 (pv 3) (pe_ix ix_seq (pv 4) pe_int (fun _ _ => rfl)) (pe_ifExp (pt_cmpR op_gt (pe_callB call_len_seq (by rfl) T.b_len boot_len (pa_cons (pe_ix ix_seq (pv 4) pe_int (fun _ _ => rfl)) pa_nil)) pe_int (nomark _)) (pe_ix ix_seq (pe_ix ix_seq (pv 4) pe_int (fun _ _ => rfl)) pe_int (fun _ _ => rfl)) pe_non) rfl)))
      (pss_cons (ps_setWalkL (i := 5) rfl scFFit.nd rfl rfl (by rfl) (pw_meth (pv 0) T.kF.cl hmw Fw hbw hr1) (j := 15) (blkOk_by (by show blkC nFFit (defScope sFFit) _ _ = true; decide +kernel)) rfl T Mr Mc hr3)
      (pss_cons (ps_setLc (i := 8) rfl scFFit.nd rfl rfl (by rfl) (pi_list (pv 5)) (own := [("_law_depth", 6), ("_law_number", 7)]) (blkOk_by (by show blkC nFFit (defScope sFFit) _ _ = true; decide +kernel)) (fun _ _ _ _ _ => pg_tupK K 2 rfl (pgs_cons (pg_name (i := 6) scFFit.nd rfl (Or.inl rfl)) (pgs_cons (pg_name (i := 7) scFFit.nd rfl (Or.inl rfl)) pgs_nil))) (fun _ _ _ _ _ => pts_nil) (fun _ _ _ _ _ => pv 7))
      (pss_cons (ps_if (pw_or (pt_cmpR (op_neM K (List Int) hu) (pe_callB cr_sortedI (by rfl) T.b_sorted boot_sorted (pa_cons (pv 8) pa_nil)) (pe_callB cr_sortedI (by rfl) T.b_sorted boot_sorted (pa_cons (pe_lc rfl scFFit.nd (pi_list (pe_m0 (pv 0) T.kF.cl Ms hr1)) (own := [("_law_pair", 16)]) (blkOk_by (by show blkC nFFit (defScope sFFit) _ _ = true; decide +kernel)) (fun _ _ _ _ _ => pg_name (i := 16) scFFit.nd rfl (Or.inl rfl)) (fun _ _ _ _ _ => pts_nil) (fun _ _ _ _ _ => pe_ix (ix_seqK K) (pv 16) pe_int (fun _ _ => rfl))) pa_nil)) (nomark _))
          (pw_or1 (pt_cmpR op_ne (RZ.pe_lenSetI (by rfl) T.b_len (by rfl) T.b_set (pv 8)) (pe_callB (call_lenOwn Ml hr2) (by rfl) T.b_len boot_len (pa_cons (pv 0) pa_nil)) (nomark _)))).pt (pss_one (ps_ret pe_bl)) pss_nil)
      (pss_cons (ps_if (pt_cmpR op_ne (pe_callB call_len_seq (by rfl) T.b_len boot_len (pa_cons (pv 8) pa_nil)) (pe_callB (cr_sum rfl) (by rfl) T.b_sum boot_sum (pa_cons (pe_lc rfl scFFit.nd (pi_list (pe_m0 (pv 1) T.kT.cl Mts hr2)) (own := [("_law_name_here", 17), ("_law_members", 18), ("_law_absent", 19)]) (blkOk_by (by show blkC nFFit (defScope sFFit) _ _ = true; decide +kernel))
          (fun _ _ _ _ _ => pg_tupK K 3 rfl (pgs_cons (pg_name (i := 17) scFFit.nd rfl (Or.inl rfl)) (pgs_cons (pg_name (i := 18) scFFit.nd rfl (Or.inl rfl)) (pgs_cons (pg_name (i := 19) scFFit.nd rfl (Or.inl rfl)) pgs_nil)))) (fun _ _ _ _ _ => pts_nil) (fun _ _ _ _ _ => pe_op op_add (pe_callB (call_lenK K) (by rfl) T.b_len boot_len (pa_cons (pv 18) pa_nil)) (pe_callB (call_lenK K) (by rfl) T.b_len boot_len (pa_cons (pv 19) pa_nil)))) pa_nil)) (nomark _)) (pss_one (ps_ret pe_bl)) pss_nil)
      (pss_cons (ps_for PassesOwn.never rfl (pi_enum (by rfl) T.b_enumerate (pa_cons (pv 5) pa_nil)) (pg_tupK K 2 rfl (pgs_cons (pg_name (i := 9) scFFit.nd rfl (Or.inl rfl)) (pgs_cons (pg_tupK K 2 rfl (pgs_cons (pg_name (i := 6) scFFit.nd rfl (Or.inl rfl)) (pgs_cons (pg_name (i := 7) scFFit.nd rfl (Or.inl rfl)) pgs_nil))) pgs_nil)))
        (pss_cons (ps_par3 (i := 10) (j := 11) (l := 12) rfl scFFit.nd rfl rfl rfl (by decide) (by decide) (by decide) rfl rfl rfl (pa_cons (pe_m (pv 0) T.kF.cl Mp hr1 (pa_cons (pv 7) pa_nil)) (pa_cons (pe_m (pv 0) T.kF.cl Mpa hr1 (pa_cons (pv 7) pa_nil)) (pa_cons (pe_m (pv 0) T.kF.cl Mg' hr3 (pa_cons (pv 7) pa_nil)) pa_nil))) (by rfl))
        (pss_cons (ps_if (pw_or (pt_cmpR op_ne (pe_callB call_len_seq (by rfl) T.b_len boot_len (pa_cons (pv 10) pa_nil)) (pe_op op_add (pv 6) pe_int) (nomark _)) (pw_or (pt_cmpR op_ne (pe_ix ix_seq (pv 10) pe_int (fun _ _ => rfl)) (pv 7) (nomark _)) (pw_or (pt_cmpR op_ne (pe_lenSetT (by rfl) T.b_len (by rfl) T.b_set (pv 10)) (pe_callB call_len_seq (by rfl) T.b_len boot_len (pa_cons (pv 10) pa_nil)) (nomark _))
            (pw_or1 (pt_cmpR op_ne (pe_ix ix_seq (pv 10) (pe_un un_neg pe_int) (fun _ _ => rfl)) (pe_m (pv 0) T.kF.cl Mo' hr2 (pa_cons (pv 7) pa_nil)) (nomark _)))))).pt (pss_one (ps_ret pe_bl)) pss_nil)
        (pss_cons (ps_if (pw_and (pt_cmp (pc_notN (pv 11))) (pw_and1 (pw_or (pt_cmpR op_ne (pe_dget2 hu1 (pv 3) (pv 7) pe_non ⟨rfl, rfl, rfl, rfl⟩) (pv 11) (nomark _)) (pw_or1 (pt_cmpR op_ne (pe_ix ix_seq (pv 10) pe_int (fun _ _ => rfl)) (pv 11) (nomark _)))).pt)).pt (pss_one (ps_ret pe_bl)) pss_nil)
        (pss_cons (ps_if (pw_and (pt_cmp (pc_notN (pv 11))) (pw_and1 (pw_or (pt_cmpR op_notIn_seq (pv 7) (pe_m (pv 0) T.kF.cl Mc hr1 (pa_cons (pv 11) pa_nil)) rfl) (pw_or1 (pt_cmpR op_ge (pe_bm PySem.F.plainAttrs_list PySem.F.slot_list_index PySem.F.type_list_index mt_index (pv 8) (pa_cons (pv 11) pa_nil)) (pv 9) (nomark _)))).pt)).pt (pss_one (ps_ret pe_bl)) pss_nil)
        (pss_cons (ps_if (pw_and (pt_cmp (pc_isN (pv 11))) (pw_and1 (pt_cmpR op_ne (pe_cmp (pc_notN (pe_dget2 hu1 (pv 3) (pv 7) pe_non ⟨rfl, rfl, rfl, rfl⟩))) (pe_cmp (pc_notN (pv 12))) (nomark _)))).pt (pss_one (ps_ret pe_bl)) pss_nil)
        (pss_cons (ps_if (pt_cmpR op_ne (pe_m (pv 1) T.kT.cl Mn hr1 (pa_cons (pe_ix ix_seq (pv 10) (pe_un un_neg pe_int) (fun _ _ => rfl)) pa_nil)) (pe_m (pv 1) T.kT.cl Mn hr1 (pa_cons (pv 7) pa_nil)) (nomark _)) (pss_one (ps_ret pe_bl)) pss_nil)
        (pss_one (ps_if (pt_cmp (pc_notN (pv 12)))
          (pss_cons (ps_set (i := 13) scFFit.nd rfl (Or.inl rfl) (pe_op op_cat (pe_callTy call_list_of (by rfl) T.b_list boot_list (pa_cons (pe_slice sl_tupU (pv 12) (po_some pe_int) po_none) pa_nil)) (pe_lst (pa_cons (pe_ix ix_seq (pv 12) pe_int (fun _ _ => rfl)) pa_nil))))
          (pss_one (ps_if (pw_or (pt_cmpR op_ne (pe_ix ix_seq (pv 12) pe_int (fun _ _ => rfl)) (pe_ix ix_seq (pv 10) (pe_un un_neg pe_int) (fun _ _ => rfl)) (nomark _)) (pw_or (pt_cmpR op_ne (pe_callB (cr_maxT rfl) (by rfl) T.b_max boot_max (pa_cons (pv 12) pa_nil)) (pe_ix ix_seq (pv 12) pe_int (fun _ _ => rfl)) (nomark _))
            (pw_or1 (pt_cmpR (op_neM K (List Int) hu) (pe_lc rfl scFFit.nd (pi_tup (pv 12)) (own := [("_law_each", 15)]) (blkOk_by (by show blkC nFFit (defScope sFFit) _ _ = true; decide +kernel)) (fun _ _ _ _ _ => pg_name (i := 15) scFFit.nd rfl (Or.inl rfl)) (fun _ _ _ _ _ => pts_nil) (fun _ _ _ _ _ => pe_dget hu1 (pv 3) (pv 15) (fun _ _ => rfl))) (pv 13) (nomark _))))).pt (pss_one (ps_ret pe_bl)) pss_nil)))
          pss_nil)))))))))
      (pss_cons (ps_setLc (i := 14) rfl scFFit.nd rfl rfl (by rfl) (pi_list (pe_m0 (pv 0) T.kF.cl Md' hr)) (own := [("_law_line", 20)]) (blkOk_by (by show blkC nFFit (defScope sFFit) _ _ = true; decide +kernel)) (fun _ _ _ _ _ => pg_name (i := 20) scFFit.nd rfl (Or.inl rfl)) (fun _ _ _ _ _ => pts_nil)
        (fun _ _ _ _ _ => pe_ix (ix_seqK K) (pe_bmK K PySem.F.plainAttrs_str PySem.F.slot_str_split PySem.F.type_str_split mt_split (pe_slice sl_str (pv 20) (po_some pe_int) po_none) (pa_cons pe_str pa_nil)) pe_int (fun _ _ => rfl)))
      (pss_one (ps_ret (pe_cmpR (op_eqM K (List Str) hu) (pv 14) (pe_lc rfl scFFit.nd (pi_list (pv 8)) (own := [("_law_number", 7)]) (blkOk_by (by show blkC nFFit (defScope sFFit) _ _ = true; decide +kernel)) (fun _ _ _ _ _ => pg_name (i := 7) scFFit.nd rfl (Or.inl rfl)) (fun _ _ _ _ _ => pts_nil) (fun _ _ _ _ _ => pe_callTy call_str_int (by rfl) T.b_str boot_str (pa_cons (pv 7) pa_nil))) (nomark _))))))))))), ?_⟩
    have ok := rows_ls hX nd
    have kl := rows_known hX lX
    have ndc : (come (lets X)).Nodup := ok.nd
    obtain ⟨Fr, iF⟩ := isF_ex S
    obtain ⟨zs, iw⟩ := walk_whole Fr
    obtain ⟨kn, fq, hkn⟩ := D.fq
    rw [hS] at hkn
    have hks : ∀ n, n ∈ Fr.ks ↔ n ∈ known (lets X) := fun n => by rw [iF.ks n, hS]
    have hp : pr S = parOf (fstOf (lets X)) := by unfold pr; rw [hS]
    have ip : IsPar (fstOf (lets X)) (pr S) := by rw [hp]; exact parOf_is _
    have lks : Fr.ks.length ≤ 144 := Nat.le_trans (nodup_le Fr.up.nodup fun x hx => (hks x).mp hx) kl
    have lzs : zs.length = Fr.ks.length := iw.len
    obtain ⟨dt, dl, da, db, dr, hf, hda⟩ := id fq.ob
    have DT' := DT
    obtain ⟨⟨dl', ol', dg', _, _, _, ⟨⟨dti, hti⟩, _⟩, _⟩, _⟩ := DT'
    -- the first answers
    intro ld hld
    have g0 := Ext.upd (o := .dK []) hld
    refine ⟨_, rfl, p, rfl, ⟨_, .inl (.inl (g0 _ _ hX.ls))⟩, ?_⟩
    refine for_list (xs := X.map fun q => V.ref q.1) (fun j σ Hj => ∃ (v4 : Option V), σ = [some (.ref fo), some (.ref t), some (.ref p), some (.ref ld), v4, none, none, none, none, none, none, none, none, none, none, none, none, none, none, none, none] ∧ Hj ld = some (.dK (rowsD oV (fsts ((lets X).take j)))) ∧ Ext H Hj)
      ⟨none, rfl, upd_same, g0⟩ (fun j σ Hj _ ⟨_, _, _, e⟩ => .inl (.inl (e _ _ hX.ls))) ?_ ?_
    · rintro j x σ Hj hx ⟨v4, rfl, hd, ej⟩
      obtain ⟨z, hz, rfl⟩ := ref_at hx
      obtain ⟨tt, h1, h2⟩ := (hX.ext ej).row z (List.mem_of_getElem? hz)
      have hl := lets_at hz
      have jl : j < X.length := (List.getElem?_eq_some_iff.mp hz).1
      have new : ∀ b, (z.2.num, b) ∉ fsts ((lets X).take j) := fun b hb => by
        have m1 : z.2.num ∈ (nums X).take j := by
          have : z.2.num ∈ (fsts ((lets X).take j)).map (·.1) := List.mem_map.mpr ⟨_, hb, rfl⟩
          rw [fsts_fst] at this
          have e : come ((lets X).take j) = (nums X).take j := by unfold come; rw [List.map_take]; exact congrArg _ (nums_come X)
          rwa [e] at this
        exact not_before nd (by unfold nums; rw [List.getElem?_map, hz]; rfl) m1
      have lf : (rowsD oV (fsts ((lets X).take j))).length < sizeLine := by
        rw [rowsD_len]
        unfold fsts
        rw [List.length_map, List.length_take, sizeLine_eq]
        omega
      have stp : fsts ((lets X).take (j + 1)) = fsts ((lets X).take j) ++ [(z.2.num, z.2.ans.head?)] := by
        unfold fsts
        rw [List.take_succ, hl, List.map_append]; rfl
      refine ⟨_, rfl, .inr <| .inl ⟨z.1, _, 3, _, rfl, rfl, row_sq h1, rfl, tt, _, rfl, .inr (.inl (.inl h2)), _, _, rfl, rfl, _, rfl, ?_⟩⟩
      refine ite2 (fun c => ?_) (fun c => ?_)
      · obtain ⟨a, r, ea⟩ : ∃ a r, z.2.ans = a :: r := by
          cases e : z.2.ans with
          | nil => rw [e] at c; simp at c
          | cons a r => exact ⟨a, r, rfl⟩
        refine ⟨_, rfl, .inr <| .inl ⟨z.1, _, 3, _, rfl, rfl, row_sq h1, rfl, .inr <| .inl ⟨tt, _, 0, _, rfl, rfl, .inl (.inl h2), atI_int (i := 0) (y := a) (by rw [ea]; rfl), ?_⟩⟩⟩
        refine ⟨_, rfl, _, rfl, .inr <| .inl ⟨z.1, _, 0, _, rfl, rfl, row_sq h1, rfl, ld, _, rfl, DPut.k (k := Sum.inl z.2.num) hd lf, _, rfl, ?_, ext_put ej hld⟩⟩
        rw [upd_same, stp, ← rowsD_new (f := oV) new, ea]; rfl
      · have ea : z.2.ans = [] := by
          cases e : z.2.ans with
          | nil => rfl
          | cons a r => rw [e] at c; simp at c
        refine ⟨_, rfl, _, rfl, .inr <| .inl ⟨z.1, _, 0, _, rfl, rfl, row_sq h1, rfl, ld, _, rfl, DPut.k (k := Sum.inl z.2.num) hd lf, _, rfl, ?_, ext_put ej hld⟩⟩
        rw [upd_same, stp, ← rowsD_new (f := oV) new, ea]; rfl
    · rintro σ H1 ⟨v4, rfl, hd, e1⟩
      have ek : (lets X).take (X.map fun q => V.ref q.1).length = lets X := List.take_of_length_le (by unfold lets; rw [List.length_map, List.length_map]; exact Nat.le_refl _)
      rw [ek] at hd
      -- the walk
      refine ⟨_, rfl, fo, dt, _, rfl, e1 _ _ hf, rfl, S, Fr, zs, ⟨⟨H0, D.ext e1⟩, iF⟩, iw, by omega, fun lw H2 e2 hlw it => ?_⟩
      obtain ⟨vs, hvs, pair⟩ := it
      have lvs : vs.length = zs.length := Paired.length pair
      -- the numbers
      refine ⟨_, rfl, lw, rfl, ⟨_, .inl (.inl hvs)⟩, fun ln hln => ?_⟩
      refine lc_each walk_list (fun i y _ => ((zs.map (·.2)).map V.int)[i]? = some y) hln (by rw [sizeLine_eq]; omega) (fun H' e => .inl (.inl (e _ _ hvs))) (fun _ _ _ _ _ _ e => e) (fun i x Ha Hb hi e y A hA => ?_) (fun H3 ys e3 hln3 o => ?_)
      · obtain ⟨rfl, hx⟩ := y
        obtain ⟨q, hq, tq, rfl, htq⟩ := paired_get pair hx
        exact ⟨tq, _, rfl, .inl (.inl (e _ _ htq)), rfl, _, _, rfl, _, _, rfl, rfl, rfl, _, rfl, hA _ _ Ext.rfl' (by rw [List.getElem?_map, List.getElem?_map, hq]; rfl)⟩
      have el : vs.length = ((zs.map (·.2)).map V.int).length := by simp [lvs]
      rw [el] at o
      obtain rfl := outs_get o
      have hN : (zs.map (·.2)).Perm Fr.ks := perm_of iw.nd Fr.up.nodup iw.mem
      have e03 := (e1.trans e2).trans e3
      -- the same numbers
      refine ⟨_, rfl, ln, zs.map (·.2), rfl, .inl (.inl hln3), fun s1 a1 p1 q1 ha1 => ?_⟩
      have x1 := Ext.upd (o := .lst (s1.map V.int)) ha1
      have e04 := e03.trans x1
      refine ⟨_, rfl, fo, dt, _, rfl, e04 _ _ hf, rfl, fo, S, Fr, rfl, ⟨⟨H0, D.ext e04⟩, iF⟩, fun lp H5 e5 ⟨ws, hws, pairs⟩ => ?_⟩
      refine ⟨lp, rfl, ⟨_, .inl (.inl hws)⟩, fun ls hls => ?_⟩
      have lws : ws.length = Fr.ks.length := by rw [Paired.length pairs, List.length_map]
      refine lc_each walk_list (fun i y _ => (Fr.ks.map V.int)[i]? = some y) hls (by rw [sizeLine_eq]; omega) (fun H' e => .inl (.inl (e _ _ hws))) (fun _ _ _ _ _ _ e => e) (fun i x Ha Hb hi e y A hA => ?_) (fun H6 ys e6 hls6 o => ?_)
      · obtain ⟨rfl, hx⟩ := y
        obtain ⟨q, hq, tq, rfl, htq⟩ := paired_get pairs hx
        rw [List.getElem?_map] at hq
        cases hk : Fr.ks[i]? with
        | none => rw [hk] at hq; cases hq
        | some m =>
          rw [hk] at hq
          cases hq
          exact ⟨rfl, _, rfl, .inr <| .inl ⟨tq, _, 0, _, rfl, rfl, .inl (.inl (e _ _ htq)), rfl, hA _ _ Ext.rfl' (by rw [List.getElem?_map, hk]; rfl)⟩⟩
      have el2 : ws.length = (Fr.ks.map V.int).length := by simp [lws]
      rw [el2] at o
      obtain rfl := outs_get o
      refine ⟨ls, Fr.ks, rfl, .inl (.inl hls6), fun s2 a2 p2 q2 ha2 => ?_⟩
      have x2 := Ext.upd (o := .lst (s2.map V.int)) ha2
      have e47 := (e5.trans e6).trans x2
      refine ⟨s1, s2, hd_ints (.inl (.inl (e47 _ _ upd_same))), hd_ints (.inl (.inl upd_same)), _, rfl, neq_skip (sorted_perm q1 q2 ((p1.trans hN).trans p2.symm)) ?_⟩
      have e07 := e04.trans e47
      have hln7 := (x1.trans e47) _ _ hln3
      refine ⟨_, rfl, ln, zs.map (·.2), rfl, .inl (.inl hln7), iw.nd, by rw [List.length_map]; omega, _, rfl, fo, dt, _, rfl, e07 _ _ hf, fo, S, Fr, rfl, ⟨⟨H0, D.ext e07⟩, iF⟩, Fr.ks.length, rfl, by omega, rfl, _, rfl, eq_skip (by rw [List.length_map, lzs]) ?_⟩
      -- as many as in the threads
      refine ⟨_, rfl, ln, _, rfl, .inl (.inl (.inl hln7)), _, rfl, t, dti, _, rfl, e07 _ _ hti, rfl, t, S', H0', rfl, DT.ext e07, by rw [hS']; omega, fun ps H8 L e8 hsum sok => ?_⟩
      rw [hS'] at sok
      obtain ⟨us, hps, pairS⟩ := hsum
      have lL : L.length ≤ 144 := by
        have := nodup_le (m := known (lets X)) sok.up.nodup fun x hx => ((sok.names x).mp hx).1
        rw [List.length_map] at this
        omega
      have lus : us.length = L.length := Paired.length pairS
      refine ⟨ps, rfl, ⟨_, .inl (.inl hps)⟩, fun lc hlc => ?_⟩
      refine lc_each walk_list (fun i y _ => (((L.map fun e => e.2.1.length + e.2.2.length).map fun (n : Nat) => (n : Int)).map V.int)[i]? = some y) hlc (by rw [sizeLine_eq]; omega) (fun H' e => .inl (.inl (e _ _ hps))) (fun _ _ _ _ _ _ e => e) (fun i x Ha Hb hi e y A hA => ?_) (fun H9 ys e9 hlc9 o => ?_)
      · obtain ⟨rfl, hx⟩ := y
        obtain ⟨en, hen, q, m, b, rfl, hq, hm, hb⟩ := paired_get pairS hx
        exact ⟨q, _, rfl, .inl (.inl (e _ _ hq)), rfl, _, _, rfl, _, _, rfl, _, _, rfl, rfl, rfl, _, rfl, m, _, rfl, .inr (.inl (.inl (e _ _ hm))), _, rfl, b, _, rfl, .inr (.inl (.inl (e _ _ hb))), _, _, rfl, rfl, hA _ _ Ext.rfl' (by
          rw [List.getElem?_map, List.getElem?_map, List.getElem?_map, hen]
          simp)⟩
      have el3 : us.length = (((L.map fun e => e.2.1.length + e.2.2.length).map fun (n : Nat) => (n : Int)).map V.int).length := by simp [lus]
      rw [el3] at o
      obtain rfl := outs_get o
      refine ⟨lc, (L.map fun e => e.2.1.length + e.2.2.length).map fun (n : Nat) => (n : Int), rfl, .inl (.inl hlc9), rfl, _, rfl, eq_skip ?_ ?_⟩
      · obtain ⟨k1, k2⟩ := knAll_ok ok
        have pk : Fr.ks.Perm (knAll (lets X)) := perm_of Fr.up.nodup k1 fun x => by rw [hks x, k2 x]
        rw [sum_cast, count_ok ok sok, ← pk.length_eq, List.length_map, List.length_map, lzs]
      have e09 := (e07.trans e8).trans e9
      have hln9 := (e8.trans e9) _ _ hln7
      have hvs9 := ((((e3.trans x1).trans e47).trans e8).trans e9) _ _ hvs
      have hd9 := ((((e2.trans e3).trans x1).trans e47).trans (e8.trans e9)) _ _ hd
      have e29 : Ext H2 H9 := ((e3.trans x1).trans e47).trans (e8.trans e9)
      refine ⟨_, rfl, lw, _, rfl, .inl (.inl hvs9), ?_⟩
      refine for_it walk_enum (fun i σ Hi => ∃ (v6 v7 v9 v10 v11 v12 v13 : Option V), σ = [some (.ref fo), some (.ref t), some (.ref p), some (.ref ld), v4, some (.ref lw), v6, v7, some (.ref ln), v9, v10, v11, v12, v13, none, none, none, none, none, none, none] ∧ Ext H9 Hi) ⟨_, _, _, _, _, _, _, rfl, Ext.rfl'⟩ (fun i σ Hi _ ⟨_, _, _, _, _, _, _, _, e⟩ => .inl (.inl (e _ _ hvs9))) ?_ ?_
      · rintro i x σ Hi Hi' hi ⟨v6, v7, v9, v10, v11, v12, v13, rfl, ei⟩ ⟨Tp, x1, x2, rfl, hT, rfl, h1, h2⟩
        cases h1
        have h2 : vs[i]? = some x2 := h2
        obtain ⟨q, hq, tq, rfl, htq⟩ := paired_get pair h2
        have hb0 := Ext.upd (o := .tup [V.int (i : Nat), V.ref tq]) hT
        refine ⟨Tp, _, rfl, .inl (.inl upd_same), rfl, _, _, rfl, _, _, rfl, tq, _, rfl, .inl (.inl ((e29.trans (ei.trans hb0)) _ _ htq)), rfl, _, _, rfl, _, _, rfl, rfl, rfl, ?_⟩
        have e9b : Ext H9 (upd Hi Tp (.tup [V.int (i : Nat), V.ref tq])) := ei.trans hb0
        generalize upd Hi Tp (.tup [V.int (i : Nat), V.ref tq]) = Hb at e9b
        have hqm : q ∈ zs := List.mem_of_getElem? hq
        have nk : q.2 ∈ Fr.ks := (iw.mem q.2).mp (List.mem_map.mpr ⟨q, hqm, rfl⟩)
        have hk : q.2 ∈ known (lets X) := (hks _).mp nk
        have hkk : q.2 ∈ kn := (hkn _).mpr hk
        obtain ⟨ps, P1, P2⟩ := iw.deep q hqm
        rw [iF.p] at P1
        obtain ⟨us, r, ers, prr, _⟩ := P1.last
        obtain ⟨pr0, eps⟩ := P1.head
        have rm : r ∈ ps := by rw [ers]; simp
        have rk : r ∈ known (lets X) := path_known ip P1 hk r rm
        have lps : ps.length ≤ 144 := Nat.le_trans (nodup_le P1.nodup fun x hx => path_known ip P1 hk x hx) kl
        have lastp : atI (ps.map V.int) (-1) = some (.int r) := by rw [ers, List.map_append]; exact atI_last _ _
        -- path, parent, ring
        refine ⟨_, rfl, fo, dt, _, rfl, (e09.trans e9b) _ _ hf, rfl, _, rfl, fo, q.2, kn, pr S, rfl, fq.ext (e09.trans e9b), ?_, fun no => absurd hkk no⟩
        intro _ qp Hc ps' ec hqp P'
        obtain rfl := P'.uniq P1
        have e9c := e9b.trans ec
        refine ⟨_, rfl, fo, dt, _, rfl, (e09.trans e9c) _ _ hf, rfl, _, rfl, fo, q.2, kn, pr S, rfl, fq.ext (e09.trans e9c), hkk, ?_⟩
        refine ⟨_, rfl, fo, dt, _, rfl, (e09.trans e9c) _ _ hf, rfl, _, rfl, fo, q.2, S, H0, rfl, D.ext (e09.trans e9c), hS ▸ hk, fun vr Hd us' r' ed P'' RV => ?_⟩
        have e9d := e9c.trans ed
        rw [hS] at RV
        obtain rfl : r = r' := by
          have e := (P''.uniq P1).trans ers
          have := (List.append_inj' e rfl).2
          exact (List.singleton_inj.mp this).symm
        have sq : SqT K Hd qp (ps'.map V.int) := .inl (.inl (ed _ _ hqp))
        refine ⟨_, _, _, rfl, ?_⟩
        -- the path
        refine ⟨_, rfl, qp, _, rfl, .inr sq, _, rfl, _, _, rfl, rfl, rfl, _, rfl, eq_skip (by rw [List.length_map, P2]; rfl) ?_⟩
        refine ⟨_, rfl, .inr <| .inl ⟨qp, _, 0, _, rfl, rfl, sq, atI_int (i := 0) (y := q.2) (by rw [eps]; rfl), _, rfl, rfl, _, rfl, eq_skip rfl ?_⟩⟩
        refine ⟨_, rfl, qp, ps', rfl, sq, P1.nodup, by omega, _, rfl, qp, _, rfl, .inr sq, rfl, _, rfl, eq_skip (by rw [List.length_map]) ?_⟩
        refine ⟨_, rfl, _, rfl, .inr <| .inl ⟨qp, _, _, .int r, rfl, rfl, sq, lastp, _, rfl, fo, dt, _, rfl, (e09.trans e9d) _ _ hf, rfl, _, rfl, fo, q.2, kn, pr S, rfl, fq.ext (e09.trans e9d), hkk, fun He us2 r2 ee P3 => ⟨rfl, _, rfl, eq_skip ?_ ?_⟩⟩⟩
        · have e := (P3.uniq P1).trans ers
          have := (List.append_inj' e rfl).2
          exact (List.singleton_inj.mp this).symm
        have e9e := e9d.trans ee
        have hde := e9e _ _ hd9
        cases hpar : pr S q.2 with
        | none =>
          refine ⟨_, rfl, _, rfl, iteF (iteF ?_)⟩
          refine ⟨_, rfl, _, rfl, iteF (iteF ?_)⟩
          refine ⟨_, rfl, _, rfl, iteT ?_⟩
          refine ⟨_, rfl, ld, rfl, .inl ⟨_, .inl hde⟩, _, rfl, _, DGet.k (k := Sum.inl q.2) hde, ?_⟩
          rw [fsts_get ndc]
          refine ⟨_, rfl, rfl, _, rfl, bl_skip ?_ ?_⟩
          · have er : r = q.2 := path_root (ers ▸ P1) hpar
            rcases RV with ⟨cut, a, R, rfl, _⟩ | ⟨nc, rfl⟩
            · have ne := cut.1.src
              rw [er] at ne
              cases hf2 : fstOf (lets X) q.2 with
              | none => exact absurd hf2 ne
              | some y => simp [oV]
            · rw [er] at nc
              rw [← (ip q.2).2 nc, hpar]
              simp [oV]
          refine ⟨_, rfl, t, dti, _, rfl, (e09.trans (e9e)) _ _ hti, rfl, _, rfl, _, rfl, .inr <| .inl ⟨qp, _, _, .int r, rfl, rfl, ((sq.ext ee : SqT K _ qp _)), lastp, t, r, S', H0', rfl, DT.ext (e09.trans (e9e)), hS' ▸ rk, fun m1 l1 c1 => ?_⟩⟩
          refine ⟨_, rfl, t, dti, _, rfl, (e09.trans (e9e)) _ _ hti, rfl, _, rfl, t, q.2, S', H0', rfl, DT.ext (e09.trans (e9e)), hS' ▸ hk, fun m2 l2 c2 => ⟨rfl, _, rfl, eq_skip ?_ ?_⟩⟩
          · rw [hS'] at l1 l2 c1 c2
            exact least_one l1 l2 ((c1.symm.trans (path_conn ip P1 r rm).symm).trans c2)
          -- the ring
          refine ⟨_, rfl, _, rfl, ?_⟩
          rcases RV with ⟨cut, a, R, rfl, hR0, ro⟩ | ⟨nc, rfl⟩
          · refine iteT ?_
            have hR := (ee) _ _ hR0
            have sqR : SqT K _ a (R.map V.int) := .inl (.inl hR)
            obtain ⟨rr, eR⟩ := ro.hd
            have at0 : atI (R.map V.int) 0 = some (.int r) := atI_int (i := 0) (by rw [eR]; rfl)
            have lR : R.length ≤ 200 := by
              have := nodup_le (m := known (lets X)) ro.nd fun x hx => by
                cases hfx : fstOf (lets X) x with
                | none => exact absurd hfx (steps_all ro.st x hx)
                | some y => exact (fst_known hfx).1
              omega
            refine ⟨_, rfl, _, rfl, a, _, rfl, hR, fun pa Hz ez hpa => ?_⟩
            have c1 : cutV (R.map V.int) (some (1 : Int)) none = (R.drop 1).map V.int := by
              rw [List.map_drop]
              exact cutV_from _ (j := 1) (by rw [List.length_map, eR]; simp)
            rw [c1] at hpa
            refine ⟨pa, _, rfl, .inr (.inl (.inl hpa)), fun l1 hl1 => ?_⟩
            have y1 := Ext.upd (o := .lst ((R.drop 1).map V.int)) hl1
            refine ⟨_, rfl, .inr <| .inl ⟨a, _, 0, _, rfl, rfl, sqR.ext (ez.trans y1), at0, (by show 1 ≤ sizeLine; decide), fun l2 hl2 => ?_⟩⟩
            have y2 := Ext.upd (o := .lst [V.int r]) hl2
            refine ⟨l1, l2, _, _, rfl, rfl, y2 _ _ upd_same, upd_same, by rw [List.length_map, List.length_drop, sizeLine_eq]; simp only [List.length_cons, List.length_nil]; omega, fun l3 hl3 => ?_⟩
            have y3 := Ext.upd (o := .lst ((R.drop 1).map V.int ++ [V.int r])) hl3
            have yy := ((ez.trans y1).trans y2).trans y3
            generalize hHq : upd _ l3 _ = Hq at yy
            have hl3q : Hq l3 = some (.lst ((R.drop 1 ++ [r]).map V.int)) := by rw [← hHq, List.map_append]; exact upd_same
            have sqRq := sqR.ext yy
            have sqq := (((sq.ext ee : SqT K _ qp _))).ext yy
            refine ⟨_, rfl, .inr <| .inl ⟨a, _, 0, _, rfl, rfl, sqRq, at0, _, rfl, _, rfl, .inr <| .inl ⟨qp, _, _, .int r, rfl, rfl, sqq, lastp, rfl, _, rfl, eq_skip rfl ?_⟩⟩⟩
            refine ⟨_, rfl, a, R, rfl, sqRq, by rw [eR]; simp, fun m hm hmx => ⟨_, rfl, .inr <| .inl ⟨a, _, 0, _, rfl, rfl, sqRq, at0, rfl, _, rfl, eq_skip ?_ ?_⟩⟩⟩
            · have h1 := ro.mx m hm
              have h2 := hmx r (by rw [eR]; exact List.mem_cons_self)
              omega
            have hdq := (e9d.trans ((ee).trans yy)) _ _ hd9
            have smap := steps_map ro.st
            rw [if_neg (by rw [eR]; simp)] at smap
            refine ⟨_, rfl, a, rfl, ⟨_, sqRq⟩, fun Dz hDz => ?_⟩
            refine lc_each walk_tup (fun i y _ => ((R.drop 1 ++ [r]).map V.int)[i]? = some y) hDz (by rw [List.length_map, sizeLine_eq]; omega) (fun H' e => sqRq.ext e) (fun _ _ _ _ _ _ e => e) (fun j x Ha Hb hj e y A hA => ?_) (fun Hw ys ew hys o => ?_)
            · obtain ⟨rfl, hx⟩ := y
              rw [List.getElem?_map] at hx
              cases hr : R[j]? with
              | none => rw [hr] at hx; cases hx
              | some z =>
                rw [hr] at hx
                cases hx
                have hz : (R.map (fstOf (lets X)))[j]? = some (fstOf (lets X) z) := by rw [List.getElem?_map, hr]; rfl
                rw [smap, List.getElem?_map] at hz
                cases hw : (R.drop 1 ++ [r])[j]? with
                | none => rw [hw] at hz; cases hz
                | some z' =>
                  rw [hw] at hz
                  have fz : fstOf (lets X) z = some z' := (Option.some.inj hz).symm
                  have dg := DGet.k (k := Sum.inl z) (e _ _ hdq)
                  rw [fsts_some ndc fz] at dg
                  exact ⟨rfl, _, rfl, _, rfl, ld, _, rfl, dg, hA _ _ Ext.rfl' (by rw [List.getElem?_map, hw]; rfl)⟩
            have lRR : (R.map V.int).length = ((R.drop 1 ++ [r]).map V.int).length := by
              rw [List.length_map, List.length_map, List.length_append, List.length_drop, eR]; simp
            rw [lRR] at o
            obtain rfl := outs_get o
            refine ⟨_, rfl, R.drop 1 ++ [r], R.drop 1 ++ [r], hd_ints (.inl (.inl hys)), hd_ints (.inl (.inl (ew _ _ hl3q))), _, rfl, neq_skip rfl ?_⟩
            exact ⟨_, _, _, _, _, _, _, rfl, e9d.trans (((ee).trans yy).trans ew)⟩
          · exact iteF ⟨_, _, _, _, _, _, _, rfl, (e9e)⟩
        | some a =>
          have hfst : fstOf (lets X) q.2 = some a := ip.le hpar
          refine ⟨_, rfl, _, rfl, iteT ?_⟩
          refine ⟨_, rfl, ld, rfl, .inl ⟨_, .inl hde⟩, _, rfl, _, DGet.k (k := Sum.inl q.2) hde, ?_⟩
          rw [fsts_get ndc, hfst]
          refine ⟨_, rfl, rfl, _, rfl, eq_skip rfl ?_⟩
          have sqe := sq.ext ee
          refine ⟨_, rfl, .inr <| .inl ⟨qp, _, 1, _, rfl, rfl, sqe, atI_int (i := 1) (y := a) ?_, _, rfl, rfl, _, rfl, eq_skip rfl ?_⟩⟩
          · exact path_two P1 hpar
          -- a child of its parent, behind it
          refine ⟨_, rfl, _, rfl, iteT ?_⟩
          have ak : a ∈ Fr.ks := (Fr.pin q.2 a (by rw [iF.p]; exact hpar)).2
          refine ⟨_, rfl, _, rfl, fo, dt, _, rfl, (e09.trans e9e) _ _ hf, rfl, _, rfl, fo, a, S, Fr, rfl, ⟨⟨H0, D.ext (e09.trans e9e)⟩, iF⟩, ak, fun qc Hg eg hqc => ⟨qc, _, rfl, .inr (.inl (.inl hqc)), rfl, ints_flat _, _, rfl, nin_test (fun c => ?_) (fun _ => ?_)⟩⟩
          · have : q.2 ∈ Fr.kids a := Frst.mem_kids.mpr (by rw [iF.p]; exact hpar)
            simp [this] at c
          have e9g := e9e.trans eg
          have hlng := e9g _ _ hln9
          have am : a ∈ zs.map (·.2) := (iw.mem a).mpr ak
          obtain ⟨j, hj1, hj2⟩ := first_place iw.nd am
          refine ⟨_, rfl, .inl ⟨rfl, _, .inl (.inl hlng)⟩, _, rfl, ln, _, .int a, j, .int a, rfl, rfl, .inl (.inl hlng), rfl, ints_flat _, by rw [List.getElem?_map, hj1]; rfl, ?_, ?_, ?_⟩
          · simp [eqV]
          · intro m z hm hz
            rw [List.getElem?_map] at hz
            cases hc : (zs.map (·.2))[m]? with
            | none => rw [hc] at hz; cases hz
            | some y =>
              rw [hc] at hz
              cases hz
              have : y ≠ a := fun e => hj2 m hm (by rw [hc, e])
              simp [eqV, this]
          refine ⟨_, rfl, _, _, rfl, rfl, _, rfl, ?_⟩
          have jlt : j < i := by
            obtain ⟨j', f', h1, h2, h3⟩ := iw.behind i q hq a (by rw [iF.p]; exact hpar)
            by_cases c : j' < j
            · exact absurd (by rw [List.getElem?_map, h2, ← h3]; rfl) (hj2 j' c)
            · omega
          have jn : decide ((i : Nat) ≤ ((j : Nat) : Int)) = false := decide_eq_false (by omega)
          refine ite2 (fun c => by have := of_decide_eq_true c; omega) fun _ => ?_
          refine ⟨_, rfl, _, rfl, iteF (iteF ?_)⟩
          refine ⟨_, rfl, t, dti, _, rfl, (e09.trans (e9g)) _ _ hti, rfl, _, rfl, _, rfl, .inr <| .inl ⟨qp, _, _, .int r, rfl, rfl, ((sqe.ext eg : SqT K _ qp _)), lastp, t, r, S', H0', rfl, DT.ext (e09.trans (e9g)), hS' ▸ rk, fun m1 l1 c1 => ?_⟩⟩
          refine ⟨_, rfl, t, dti, _, rfl, (e09.trans (e9g)) _ _ hti, rfl, _, rfl, t, q.2, S', H0', rfl, DT.ext (e09.trans (e9g)), hS' ▸ hk, fun m2 l2 c2 => ⟨rfl, _, rfl, eq_skip ?_ ?_⟩⟩
          · rw [hS'] at l1 l2 c1 c2
            exact least_one l1 l2 ((c1.symm.trans (path_conn ip P1 r rm).symm).trans c2)
          -- the ring
          refine ⟨_, rfl, _, rfl, ?_⟩
          rcases RV with ⟨cut, a, R, rfl, hR0, ro⟩ | ⟨nc, rfl⟩
          · refine iteT ?_
            have hR := (ee.trans eg) _ _ hR0
            have sqR : SqT K _ a (R.map V.int) := .inl (.inl hR)
            obtain ⟨rr, eR⟩ := ro.hd
            have at0 : atI (R.map V.int) 0 = some (.int r) := atI_int (i := 0) (by rw [eR]; rfl)
            have lR : R.length ≤ 200 := by
              have := nodup_le (m := known (lets X)) ro.nd fun x hx => by
                cases hfx : fstOf (lets X) x with
                | none => exact absurd hfx (steps_all ro.st x hx)
                | some y => exact (fst_known hfx).1
              omega
            refine ⟨_, rfl, _, rfl, a, _, rfl, hR, fun pa Hz ez hpa => ?_⟩
            have c1 : cutV (R.map V.int) (some (1 : Int)) none = (R.drop 1).map V.int := by
              rw [List.map_drop]
              exact cutV_from _ (j := 1) (by rw [List.length_map, eR]; simp)
            rw [c1] at hpa
            refine ⟨pa, _, rfl, .inr (.inl (.inl hpa)), fun l1 hl1 => ?_⟩
            have y1 := Ext.upd (o := .lst ((R.drop 1).map V.int)) hl1
            refine ⟨_, rfl, .inr <| .inl ⟨a, _, 0, _, rfl, rfl, sqR.ext (ez.trans y1), at0, (by show 1 ≤ sizeLine; decide), fun l2 hl2 => ?_⟩⟩
            have y2 := Ext.upd (o := .lst [V.int r]) hl2
            refine ⟨l1, l2, _, _, rfl, rfl, y2 _ _ upd_same, upd_same, by rw [List.length_map, List.length_drop, sizeLine_eq]; simp only [List.length_cons, List.length_nil]; omega, fun l3 hl3 => ?_⟩
            have y3 := Ext.upd (o := .lst ((R.drop 1).map V.int ++ [V.int r])) hl3
            have yy := ((ez.trans y1).trans y2).trans y3
            generalize hHq : upd _ l3 _ = Hq at yy
            have hl3q : Hq l3 = some (.lst ((R.drop 1 ++ [r]).map V.int)) := by rw [← hHq, List.map_append]; exact upd_same
            have sqRq := sqR.ext yy
            have sqq := (((sqe.ext eg : SqT K _ qp _))).ext yy
            refine ⟨_, rfl, .inr <| .inl ⟨a, _, 0, _, rfl, rfl, sqRq, at0, _, rfl, _, rfl, .inr <| .inl ⟨qp, _, _, .int r, rfl, rfl, sqq, lastp, rfl, _, rfl, eq_skip rfl ?_⟩⟩⟩
            refine ⟨_, rfl, a, R, rfl, sqRq, by rw [eR]; simp, fun m hm hmx => ⟨_, rfl, .inr <| .inl ⟨a, _, 0, _, rfl, rfl, sqRq, at0, rfl, _, rfl, eq_skip ?_ ?_⟩⟩⟩
            · have h1 := ro.mx m hm
              have h2 := hmx r (by rw [eR]; exact List.mem_cons_self)
              omega
            have hdq := (e9d.trans ((ee.trans eg).trans yy)) _ _ hd9
            have smap := steps_map ro.st
            rw [if_neg (by rw [eR]; simp)] at smap
            refine ⟨_, rfl, a, rfl, ⟨_, sqRq⟩, fun Dz hDz => ?_⟩
            refine lc_each walk_tup (fun i y _ => ((R.drop 1 ++ [r]).map V.int)[i]? = some y) hDz (by rw [List.length_map, sizeLine_eq]; omega) (fun H' e => sqRq.ext e) (fun _ _ _ _ _ _ e => e) (fun j x Ha Hb hj e y A hA => ?_) (fun Hw ys ew hys o => ?_)
            · obtain ⟨rfl, hx⟩ := y
              rw [List.getElem?_map] at hx
              cases hr : R[j]? with
              | none => rw [hr] at hx; cases hx
              | some z =>
                rw [hr] at hx
                cases hx
                have hz : (R.map (fstOf (lets X)))[j]? = some (fstOf (lets X) z) := by rw [List.getElem?_map, hr]; rfl
                rw [smap, List.getElem?_map] at hz
                cases hw : (R.drop 1 ++ [r])[j]? with
                | none => rw [hw] at hz; cases hz
                | some z' =>
                  rw [hw] at hz
                  have fz : fstOf (lets X) z = some z' := (Option.some.inj hz).symm
                  have dg := DGet.k (k := Sum.inl z) (e _ _ hdq)
                  rw [fsts_some ndc fz] at dg
                  exact ⟨rfl, _, rfl, _, rfl, ld, _, rfl, dg, hA _ _ Ext.rfl' (by rw [List.getElem?_map, hw]; rfl)⟩
            have lRR : (R.map V.int).length = ((R.drop 1 ++ [r]).map V.int).length := by
              rw [List.length_map, List.length_map, List.length_append, List.length_drop, eR]; simp
            rw [lRR] at o
            obtain rfl := outs_get o
            refine ⟨_, rfl, R.drop 1 ++ [r], R.drop 1 ++ [r], hd_ints (.inl (.inl hys)), hd_ints (.inl (.inl (ew _ _ hl3q))), _, rfl, neq_skip rfl ?_⟩
            exact ⟨_, _, _, _, _, _, _, rfl, e9d.trans (((ee.trans eg).trans yy).trans ew)⟩
          · exact iteF ⟨_, _, _, _, _, _, _, rfl, (e9g)⟩
      · rintro σ Hi ⟨v6, v7, v9, v10, v11, v12, v13, rfl, ei⟩
        have e0i := e09.trans ei
        have nok : ∀ q ∈ zs, NumOk q.2 := fun q hq => known_ok hX ((hks _).mp ((iw.mem q.2).mp (List.mem_map.mpr ⟨q, hq, rfl⟩)))
        have few : ∀ q ∈ zs, q.1 < 1000 := fun q hq => by
          obtain ⟨ps, P1, P2⟩ := iw.deep q hq
          rw [iF.p] at P1
          have hk : q.2 ∈ known (lets X) := (hks _).mp ((iw.mem q.2).mp (List.mem_map.mpr ⟨q, hq, rfl⟩))
          have := Nat.le_trans (nodup_le P1.nodup fun x hx => path_known ip P1 hk x hx) kl
          omega
        refine ⟨_, rfl, fo, dt, _, rfl, e0i _ _ hf, rfl, fo, S, Fr, zs, rfl, ⟨⟨H0, D.ext e0i⟩, iF⟩, iw, by omega, nok, fun Dl Hj ls ej hls pairL => ?_⟩
        have lls : ls.length = zs.length := Paired.length pairL
        refine ⟨Dl, rfl, ⟨_, .inl (.inl hls)⟩, fun lw2 hlw2 => ?_⟩
        refine lc_each walk_list (fun i y _ => ((zs.map fun q => Str.ofString (toString q.2)).map V.str)[i]? = some y) hlw2 (by rw [List.length_map, sizeLine_eq]; omega) (fun H' e => .inl (.inl (e _ _ hls))) (fun _ _ _ _ _ _ e => e) (fun i x Ha Hb hi e y A hA => ?_) (fun Hk ys ek hys o => ?_)
        · obtain ⟨rfl, hx⟩ := y
          rw [List.getElem?_map] at hx
          cases hl : ls[i]? with
          | none => rw [hl] at hx; cases hx
          | some l =>
            rw [hl] at hx
            cases hx
            obtain ⟨q, hq, hL⟩ := paired_get pairL hl
            have hqm := List.mem_of_getElem? hq
            have ll := line_len hL (nok q hqm)
            have lc := cutS_length l (some 3) none
            have wd := word_at hL (few q hqm)
            refine ⟨rfl, _, rfl, _, rfl, l, rfl, by rw [sizeLine_eq]; omega, rfl, _, _, rfl, rfl, by decide +kernel, by rw [sizeLine_eq]; omega, fun lp hlp => ?_⟩
            refine .inl ⟨lp, _, 1, _, rfl, rfl, .inl (.inl upd_same), atI_nat (i := 1) (y := V.str (Str.ofString (toString q.2))) (by rw [List.getElem?_map, wd]; rfl), hA _ _ (Ext.upd hlp) (by rw [List.getElem?_map, List.getElem?_map, hq]; rfl)⟩
        have elw : (ls.map V.str).length = ((zs.map fun q => Str.ofString (toString q.2)).map V.str).length := by simp [lls]
        rw [elw] at o
        obtain rfl := outs_get o
        have hlnk := (ei.trans (ej.trans ek)) _ _ hln9
        refine ⟨_, rfl, _, rfl, ln, rfl, ⟨_, .inl (.inl hlnk)⟩, fun ln2 hln2 => ?_⟩
        refine lc_each walk_list (fun i y _ => ((zs.map fun q => Str.ofString (toString q.2)).map V.str)[i]? = some y) hln2 (by rw [List.length_map, List.length_map, sizeLine_eq]; omega) (fun H' e => .inl (.inl (e _ _ hlnk))) (fun _ _ _ _ _ _ e => e) (fun i x Ha Hb hi e y A hA => ?_) (fun Hl ys el hys2 o => ?_)
        · obtain ⟨rfl, hx⟩ := y
          rw [List.getElem?_map, List.getElem?_map] at hx
          cases hq : zs[i]? with
          | none => rw [hq] at hx; cases hx
          | some q =>
            rw [hq] at hx
            cases hx
            exact ⟨rfl, _, rfl, q.2, rfl, num_log (nok q (List.mem_of_getElem? hq)), hA _ _ Ext.rfl' (by rw [List.getElem?_map, List.getElem?_map, hq]; rfl)⟩
        have elz : ((zs.map (·.2)).map V.int).length = ((zs.map fun q => Str.ofString (toString q.2)).map V.str).length := by simp
        rw [elz] at o
        obtain rfl := outs_get o
        refine ⟨_, _, hd_strs (.inl (.inl (el _ _ hys))), hd_strs (.inl (.inl hys2)), ?_⟩
        rw [decide_eq_true rfl]
        exact k _ ((e0i.trans (ej.trans ek)).trans el)
end
end K9
set_option maxHeartbeats 200000
set_option maxRecDepth 512
set_option Elab.async false
set_option linter.all false
/-! MX: letters in other orders, left out, changed; a row of letters. -/
namespace K9
open PySem
theorem keep_adds {q : Addr × LD} : ∀ {X S : Lts}, q ∈ S → q ∈ X.foldl addS S
  | [], _, h => h
  | x :: X, S, h => keep_adds (X := X) (S := addS S x) (by
    unfold addS
    split
    · exact h
    · exact List.mem_append_left _ h)
theorem adds_num {q : Addr × LD} : ∀ {X S : Lts}, q ∈ X → ∃ r ∈ X.foldl addS S, r.2.num = q.2.num
  | [], _, h => by cases h
  | x :: X, S, h => by
    rcases List.mem_cons.mp h with e | e
    · rw [e]
      by_cases c : x.2.num ∈ come (lets S)
      · rw [come_lets] at c
        obtain ⟨r, hr, er⟩ := List.mem_map.mp c
        refine ⟨r, keep_adds (X := X) (S := addS S x) ?_, er⟩
        unfold addS
        split
        · exact hr
        · exact List.mem_append_left _ hr
      · refine ⟨x, keep_adds (X := X) (S := addS S x) ?_, rfl⟩
        unfold addS
        rw [if_neg c]
        exact List.mem_append_right _ List.mem_cons_self
    · exact adds_num (X := X) (S := addS S x) e
theorem adds_id : ∀ {Z S : Lts}, (come (lets (S ++ Z))).Nodup → Z.foldl addS S = S ++ Z
  | [], S, _ => by simp
  | z :: Z, S, h => by
    have h' := h
    rw [come_lets, List.map_append, List.map_cons] at h'
    have c : z.2.num ∉ come (lets S) := fun m => by
      rw [come_lets] at m
      exact (List.nodup_append.mp h').2.2 _ m _ List.mem_cons_self rfl
    have e : addS S z = S ++ [z] := by unfold addS; rw [if_neg c]
    show Z.foldl addS (addS S z) = _
    rw [e, adds_id (by rw [List.append_assoc]; exact h), List.append_assoc]; rfl
theorem addAll_id {Z : Lts} (h : (come (lets Z)).Nodup) : addAll Z = Z := adds_id (S := []) h
/-- the letters that a list of letters, some of them twice, comes to -/
theorem addAll_old {W : Lts} (c : Cons W) (L : LD) : Old (addAll W) L ↔ Old W L := by
  constructor
  · rintro ⟨p, hp⟩
    rcases addAll_sub hp with h | h
    · cases h
    · exact ⟨p, h⟩
  · rintro ⟨p, hp⟩
    obtain ⟨r, hr, e⟩ := adds_num (S := []) hp
    have hW : r ∈ W := by
      rcases addAll_sub hr with h | h
      · cases h
      · exact h
    have := c r hW _ hp e
    exact ⟨r.1, by have e : r.2 = L := this; rw [← e]; exact hr⟩
theorem same_set {S S' : Lts} (h : ∀ L, Old S L ↔ Old S' L) : SameSet (lets S) (lets S') := by
  constructor
  · intro l hl
    obtain ⟨q, hq, rfl⟩ := List.mem_map.mp hl
    obtain ⟨p, hp⟩ := (h q.2).mp ⟨q.1, hq⟩
    exact List.mem_map.mpr ⟨_, hp, rfl⟩
  · intro l hl
    obtain ⟨q, hq, rfl⟩ := List.mem_map.mp hl
    obtain ⟨p, hp⟩ := (h q.2).mpr ⟨q.1, hq⟩
    exact List.mem_map.mpr ⟨_, hp, rfl⟩
theorem sameL_of {S S' : Lts} (nd : (come (lets S)).Nodup) (nd' : (come (lets S')).Nodup) (h : ∀ L, Old S L ↔ Old S' L) : SameL S S' := by
  refine ⟨?_, fun q hq => (h q.2).mp ⟨q.1, hq⟩⟩
  have p := perm_of nd nd' fun x => (same_set h).come
  have := p.length_eq
  rw [come_lets, come_lets, List.length_map, List.length_map] at this
  exact this
theorem sameF_of {S S' : Lts} (h : SameSet (lets S) (lets S')) (nd : (come (lets S)).Nodup) (nd' : (come (lets S')).Nodup) : SameF S S' := ⟨fun n => h.known, by unfold pr; rw [h.fst nd nd']⟩
def sumF (F : Frst) : List (Int × Option Int) := F.ks.map fun n => (n, F.p n)
theorem sameF_iff {S S' : Lts} {F F' : Frst} (a : IsF S F) (b : IsF S' F') : SameF S S' ↔ sumF F = sumF F' := by
  constructor
  · rintro ⟨h1, h2⟩
    have : F = F' := Frst.ext (Up.ext F.up F'.up fun x => by rw [a.ks, b.ks, h1]) (by rw [a.p, b.p, h2])
    rw [this]
  · intro h
    have k : F.ks = F'.ks := by
      have := congrArg (List.map (·.1)) h
      unfold sumF at this
      rw [List.map_map, List.map_map] at this
      have i : ∀ (p : Fn) (l : List Int), List.map ((fun x : Int × Option Int => x.1) ∘ fun n => (n, p n)) l = l := fun p l => List.map_id' l
      rw [i, i] at this
      exact this
    have p : F.p = F'.p := by
      funext n
      by_cases c : n ∈ F.ks
      · have m : (n, F.p n) ∈ sumF F' := by rw [← h]; exact List.mem_map.mpr ⟨n, c, rfl⟩
        obtain ⟨x, hx, e⟩ := List.mem_map.mp m
        obtain ⟨e1, e2⟩ := Prod.mk.inj e
        rw [← e2, e1]
      · have h1 : F.p n = none := by
          cases e : F.p n with
          | none => rfl
          | some y => exact absurd (F.pin n y e).1 c
        have h2 : F'.p n = none := by
          cases e : F'.p n with
          | none => rfl
          | some y => exact absurd (by rw [k]; exact (F'.pin n y e).1) c
        rw [h1, h2]
    exact ⟨fun n => by rw [← a.ks, ← b.ks, k], by rw [← a.p, ← b.p, p]⟩
/-! ### a row of letters -/
def chain (s : Int) (n : Nat) : List Let := (List.range n).map fun (k : Nat) => (s + (k : Int), [s + (k : Int) + 1])
section
variable {s : Int} {n : Nat}
theorem chain_mem {k : Nat} (h : k < n) : (s + (k : Int), [s + (k : Int) + 1]) ∈ chain s n := List.mem_map.mpr ⟨k, List.mem_range.mpr h, rfl⟩
theorem chain_nd : (come (chain s n)).Nodup := by
  unfold come chain
  rw [List.map_map, List.nodup_iff_pairwise_ne, List.pairwise_map]
  refine List.Pairwise.imp ?_ (List.pairwise_lt_range (n := n))
  intro a b lt e
  have : s + (a : Int) = s + (b : Int) := e
  omega
theorem chain_known (hn : 0 < n) {x : Int} : x ∈ known (chain s n) ↔ ∃ k : Nat, k ≤ n ∧ x = s + k := by
  rw [mem_known]
  constructor
  · rintro ⟨l, hl, e⟩
    obtain ⟨k, hk, rfl⟩ := List.mem_map.mp hl
    have hk := List.mem_range.mp hk
    rcases e with e | e
    · exact ⟨k, by omega, e⟩
    · exact ⟨k + 1, by omega, by rw [List.mem_singleton.mp e]; omega⟩
  · rintro ⟨k, hk, rfl⟩
    by_cases c : k < n
    · exact ⟨_, chain_mem c, .inl rfl⟩
    · refine ⟨_, chain_mem (k := n - 1) (by omega), .inr (List.mem_singleton.mpr ?_)⟩
      omega
theorem chain_fst {k : Nat} (h : k < n) : fstOf (chain s n) (s + k) = some (s + k + 1) := fst_at chain_nd (chain_mem h)
theorem chain_up {a b : Int} (h : Rch (fstOf (chain s n)) a b) : a < b := by
  have st : ∀ {x y : Int}, fstOf (chain s n) x = some y → x < y := fun {x y} e => by
    obtain ⟨l, hl, e1, e2⟩ := fst_some e
    obtain ⟨k, hk, rfl⟩ := List.mem_map.mp hl
    have : s + (k : Int) + 1 = y := by simpa using e2
    have : s + (k : Int) = x := e1
    omega
  induction h with
  | one h => exact st h
  | cons h _ ih => have := st h; omega
theorem chain_par (x : Int) : parOf (fstOf (chain s n)) x = fstOf (chain s n) x := (parOf_is _ x).2 fun c => by
  have := chain_up c.1
  omega
theorem chain_end : fstOf (chain s n) (s + n) = none := fst_none fun h => by
  obtain ⟨l, hl, e⟩ := mem_come.mp h
  obtain ⟨k, hk, rfl⟩ := List.mem_map.mp hl
  have hk := List.mem_range.mp hk
  have : s + (n : Int) = s + (k : Int) := e
  omega
theorem chain_path : ∀ (d k : Nat), k + d = n → ∃ ps, Path (parOf (fstOf (chain s n))) (s + k) ps ∧ ps.length = d + 1
  | 0, k, h => by
    have : k = n := by omega
    subst this
    exact ⟨[s + k], .root (by rw [chain_par, chain_end]), rfl⟩
  | d + 1, k, h => by
    obtain ⟨ps, P, l⟩ := chain_path d (k + 1) (by omega)
    refine ⟨(s + k) :: ps, .step (b := s + ((k + 1 : Nat) : Int)) (by rw [chain_par, chain_fst (by omega)]; congr 1; omega) P, by rw [List.length_cons, l]⟩
theorem chain_conn : ∀ k : Nat, k ≤ n → Conn (chain s n) s (s + k)
  | 0, _ => by
    have : s + ((0 : Nat) : Int) = s := by omega
    rw [this]; exact .refl _
  | k + 1, h => by
    have e : s + ((k + 1 : Nat) : Int) = s + k + 1 := by omega
    rw [e]
    exact (chain_conn k (by omega)).trans (.link ⟨_, chain_mem (k := k) (by omega), rfl, List.mem_singleton.mpr rfl⟩)
theorem chain_least (hn : 0 < n) : Least (chain s n) s := by
  refine ⟨(chain_known hn).mpr ⟨0, Nat.zero_le _, by omega⟩, fun m c => ?_⟩
  rcases conn_known c with e | ⟨_, h⟩
  · omega
  · obtain ⟨k, _, rfl⟩ := (chain_known hn).mp h
    omega
theorem chain_one (hn : 0 < n) {m : Int} (h : Least (chain s n) m) : m = s := by
  obtain ⟨k, hk, rfl⟩ := (chain_known hn).mp h.1
  have a := h.2 s (chain_conn k hk).symm
  omega
theorem chain_len : (known (chain s n)).length = 2 * n := by
  unfold known chain
  induction n with
  | zero => rfl
  | succ n ih =>
    rw [List.range_succ, List.map_append, List.flatMap_append, List.length_append, ih]
    simp; omega
end
end K9
set_option Elab.async false
set_option linter.all false
set_option maxRecDepth 100000
set_option maxHeartbeats 16000000
/-! LD: letters made one behind another; a row of many letters. -/
namespace K9
open PySem PySem.Spec PyProof.Rows L2 SX
/-- a class method of the class at C -/
structure CM (P : Program) (w : World) (K : PySem.W.Frag) (mg : Str → Option Value) (base : Heap) (C : Addr) (k : Nat) (m : Str) (sp : Sp) : Prop where
  ex : ∃ p g, ClX.CMet K C (.type "type") m p g ∧ FnR P w K mg base CX0 k g sp
theorem cm_of {P : Program} {w : World} {K : PySem.W.Frag} {mg : Str → Option Value} {base : Heap} {C p g : Addr} {k : Nat} {m : Str} {fd : FuncData} {ps : List Str} {sp : Sp} (h : ClX.CMet K C (.type "type") m p g) (ok : FnOk P w K mg base CX0 k g fd ps sp) (hb : Binds K fd ps []) : CM P w K mg base C k m sp :=
  ⟨p, g, h, (ok.raw hb .nil).imp fun vs H Q E q => by rw [List.append_nil]; exact q⟩
theorem LetAt.butL {K : PySem.W.Frag} {cL : Addr} {H : Hp} {d : Addr} {xs ys : List V} {p : Addr} {L : LD} (h : LetAt K cL H p L) (hd : H d = some (.lst xs)) : LetAt K cL (upd H d (.lst ys)) p L := by
  obtain ⟨dx, ta, ts, tw, sd, tx, h1, h2, h3, h4, h5⟩ := h
  have sq : ∀ {t : Addr} {zs : List V}, SqT K H t zs → SqT K (upd H d (.lst ys)) t zs := fun {t zs} h => by
    rcases h with (h | ⟨o, h⟩) | h
    · exact .inl (.inl (by rw [upd_ne (ne_of h hd (by intro z; cases z))]; exact h))
    · exact .inl (.inr ⟨o, by rw [upd_ne (ne_of h hd (by intro z; cases z))]; exact h⟩)
    · exact .inr h
  exact ⟨dx, ta, ts, tw, sd, tx, by rw [upd_ne (ne_of h1 hd (by intro z; cases z))]; exact h1, sq h2, sq h3, sq h4, h5⟩
theorem LetAt.some {K : PySem.W.Frag} {cL : Addr} {H : Hp} {p : Addr} {L : LD} (h : LetAt K cL H p L) : ∃ o, H p = some o := by
  obtain ⟨dx, ta, ts, tw, sd, tx, h1, _⟩ := h
  exact ⟨_, h1⟩
/-- a list of letters -/
structure LetsAt (K : PySem.W.Frag) (cL : Addr) (H1 H : Hp) (D : Addr) (Z : Lts) : Prop where
  ls : H D = some (.lst (Z.map fun q => V.ref q.1))
  at_ : ∀ q ∈ Z, LetAt K cL H q.1 q.2
  nd : (Z.map (·.1)).Nodup
  new : ∀ q ∈ Z, H1 q.1 = none
theorem lc_lets {K : PySem.W.Frag} {cL : Addr} {J : It} {n : Nat} {G : Hp → Prop} {Y : Nat → Hp → V → Hp → Prop} (w : L2.Walk J n G Y) {g : TG} {te : TE} {vs : List Nat} {σ : L2.St} {H1 : Hp} {D : Addr} {Qd : Hp → Prop}
    (M : Nat → LD) (hD : H1 D = none) (hn : n ≤ 1300) (hG : ∀ H, Ext H1 H → G H)
    (hs : ∀ i x H H', i < n → Ext H1 H → Y i H x H' → ∀ (A : V → Hp → Prop), (∀ p H2, Ext H H2 → H p = none → LetAt K cL H2 p (M i) → A (.ref p) H2) →
      g x (wipe σ vs) H' fun σ2 H2 => wipe σ2 vs = wipe σ vs ∧ te σ2 H2 A)
    (hd : ∀ H Z, Ext H1 H → LetsAt K cL H1 H D Z → Z.map (·.2) = (List.range n).map M → Qd H) :
    ∃ W : Nat → Nat → Hp → Prop, (∃ m, W 0 m (upd H1 D (.lst []))) ∧ ∀ i m H, W i m H →
      (J.stop i H ∧ Qd H) ∨ (J.go i H ∧ ∃ Nx : Hp → Prop, (∀ H', Nx H' → ∃ m', m' < m ∧ W (i + 1) m' H') ∧ ∀ x H', J.yld i H x H' → g x (wipe σ vs) H' fun σ2 H2 => wipe σ2 vs = wipe σ vs ∧ tYes σ2 H2 fun b H3 =>
        if b = true then te σ2 H3 fun y H4 => ∃ acc, H4 D = some (.lst acc) ∧ acc.length < sizeLine ∧ Nx (upd H4 D (.lst (acc ++ [y]))) else Nx H3) := by
  refine lc_it (tt := tYes) w (fun i H => i ≤ n ∧ Ext H1 H ∧ ∃ Z, LetsAt K cL H1 H D Z ∧ Z.map (·.2) = (List.range i).map M) ⟨Nat.zero_le _, Ext.upd hD, [], ⟨upd_same, (fun q h => by cases h), List.nodup_nil, (fun q h => by cases h)⟩, rfl⟩ (fun i H _ z => hG H z.2.1) ?_ ?_
  · rintro i x H H' hi ⟨_, e, Z, hZ, hM⟩ y
    refine hs i x H H' hi e y _ fun p H2 e2 hp hL => ?_
    have hD2 := e2 _ _ hZ.ls
    have lZ : Z.length = i := by
      have := congrArg List.length hM
      simpa using this
    have e3 : Ext H1 (upd H2 D (.lst ((Z.map fun q => V.ref q.1) ++ [V.ref p]))) := ext_put (e.trans e2) hD
    refine ⟨_, hD2, by rw [List.length_map, lZ, sizeLine_eq]; omega, hi, e3, Z ++ [(p, M i)], ⟨by rw [List.map_append]; exact upd_same, fun q hq => ?_, ?_, fun q hq => ?_⟩, ?_⟩
    · rcases List.mem_append.mp hq with h | h
      · exact ((hZ.at_ q h).ext e2).butL hD2
      · rw [List.mem_singleton.mp h]; exact hL.butL hD2
    · rw [List.map_append]
      refine List.nodup_append.mpr ⟨hZ.nd, by simp, fun a ha b hb c => ?_⟩
      obtain ⟨q, hq, rfl⟩ := List.mem_map.mp ha
      obtain ⟨o, ho⟩ := (hZ.at_ q hq).some
      have hb' : b = p := List.mem_singleton.mp hb
      rw [c, hb', hp] at ho
      cases ho
    · rcases List.mem_append.mp hq with h | h
      · exact hZ.new q h
      · rw [List.mem_singleton.mp h]; exact Ext.none e hp
    · rw [List.map_append, hM, List.range_succ, List.map_append]; rfl
  · rintro H ⟨_, e, Z, hZ, hM⟩
    exact hd H Z e hZ hM
theorem agree_new {Z W : Lts} {K : PySem.W.Frag} {cL : Addr} {H1 : Hp} (h : ∀ q ∈ Z, ∃ o, H1 q.1 = some o) (h2 : ∀ q ∈ W, H1 q.1 = none) : Agree Z W := fun q hq r hr e => by
  obtain ⟨o, ho⟩ := h q hq
  rw [e, h2 r hr] at ho
  cases ho
theorem agree_sub {Z S S' : Lts} (nd : (Z.map (·.1)).Nodup) (h : ∀ q ∈ S, q ∈ Z) (h' : ∀ q ∈ S', q ∈ Z) : Agree S S' := fun q hq r hr e => by
  rw [map_nd_inj nd (h q hq) (h' r hr) e]
end K9
set_option Elab.async false
set_option linter.all false
set_option maxRecDepth 100000
set_option maxHeartbeats 16000000
/-! LE: a row of many letters. -/
namespace K9
open PySem PySem.Spec PyProof.Rows L2 SX
/-- the k-th of the row -/
def rowL (s : Int) (k : Nat) : LD := ⟨s + (k : Int), "a", "b", [s + (k : Int) + 1], []⟩
theorem rowL_ok {s : Int} {k : Nat} (h : 1 ≤ s) (h2 : s ≤ 10 ^ 9) (hk : k < 1200) : (rowL s k).Ok := by
  have e : (10 : Int) ^ 9 + 2000 ≤ 10 ^ 30 := by decide
  refine ⟨⟨by show 1 ≤ s + (k : Int); omega, by show s + (k : Int) ≤ _; omega⟩, (show NameOk "a" from ⟨by decide +kernel, by decide +kernel, by decide +kernel⟩), (show NameOk "b" from ⟨by decide +kernel, by decide +kernel, by decide +kernel⟩), ⟨by show 1 ≤ 8; decide, fun m hm => ?_, fun hm => ?_, by show [_].Nodup; simp⟩, Nat.zero_le _, fun z hz => by cases hz⟩
  · have : m = s + (k : Int) + 1 := List.mem_singleton.mp hm
    exact ⟨by omega, by omega⟩
  · have : s + (k : Int) = s + (k : Int) + 1 := List.mem_singleton.mp hm
    omega
theorem rows_chain {s : Int} {n : Nat} {Z : Lts} (h : Z.map (·.2) = (List.range n).map (rowL s)) : lets Z = chain s n := by
  have : lets Z = (Z.map (·.2)).map fun L => (L.num, L.ans) := by unfold lets; rw [List.map_map]; rfl
  rw [this, h, List.map_map]; rfl
def spMany : Sp := fun vs H Q _ => ∃ (b : Addr) (n : Nat), vs = [.ref b] ∧ BagAt H b n ∧ n + 10 ≤ 1000000000 ∧ ∀ H', ExtB b H H' → BagAt H' b (n + 1) → Q (.bl true) H'
section
variable {P : Program} {w : World} {K : PySem.W.Frag} {mg : Str → Option Value} {base : Heap} {cL cG cT cF : Addr}
theorem ok_many {f : Addr} {fd : FuncData} (F : Fun K "_law_row_of_many" "_law_row_of_many" sMany f fd) (T : Mo K mg cL cG cT cF) (Gt : Gd P w K mg base 1 "_law_take" pTake spTake) (G : LK P w K mg base cL)
    (Cf : CM P w K mg base cF 4 "of" (spFOf K cL cF)) (Ct : CM P w K mg base cT 5 "of" (spTOf K cL cG cT)) (Mfe : Md P w K mg base cF 3 "__eq__" pFEq (spFEq K cL cF)) (Mte : Md P w K mg base cT 3 "__eq__" pTEq (spTEq K cL cG cT cF))
    (Mfd : Md P w K mg base cF 2 "depth" pFDep (spFDep cF)) (Md' : Md P w K mg base cF 4 "drawn" pFDrw (spFDrw K cL cF)) (Mns : Md P w K mg base cT 1 "names" pTNms (spTNms K cL cG cT)) (Mn : Md P w K mg base cT 1 "name_of" pTNam (spTNam K cL cG cT)) : FnOk P w K mg base CX0 6 f fd pMany spMany := by
  refine F.ok scMany (fun vs H Q E h => ?_) (fun cdv A outer s H vs Q E hr h => ?_)
  · obtain ⟨_, _, rfl, _⟩ := h; rfl
  · obtain ⟨b, n, rfl, hb, hn, k⟩ := h
    have hr1 := hr.mono (show 1 ≤ 5 by decide)
    have hr2 := hr.mono (show 2 ≤ 5 by decide)
    have hr3 := hr.mono (show 3 ≤ 5 by decide)
    have hr4 := hr.mono (show 4 ≤ 5 by decide)
    obtain ⟨fi, fdi, ps, g, e2, e3, Fi, M, hbi, m2, m3⟩ := G.one
    obtain ⟨pf, gf, hcf, Ff⟩ := Cf.ex
    obtain ⟨pt, gt, hct, Ft⟩ := Ct.ex
    refine ⟨_, pss_cons (ps_set (i := 1) scMany.nd rfl (Or.inr rfl) (pe_op op_add pe_int (pe_g Gt hr1 (by rfl) (pa_cons (pv 0) (pa_cons (pe_op op_pow pe_int pe_int) pa_nil)))))
      (pss_cons (ps_setLc (i := 2) rfl scMany.nd rfl rfl (by rfl) (pi_range1 (by rfl) T.b_range (pa_cons pe_int pa_nil)) (own := [("_law_k", 6)]) (blkOk_by (by show blkC nMany (defScope sMany) _ _ = true; decide +kernel)) (fun _ _ _ _ _ => pg_name (i := 6) scMany.nd rfl (Or.inl rfl)) (fun _ _ _ _ _ => pts_nil)
        (fun _ _ _ _ _ => pe_makeK M Fi hr4 (by rfl) T.mL hbi pass0 (pa_cons (pe_op op_add (pv 1) (pv 6)) (pa_cons pe_str (pa_cons pe_str pa_nil))) (pk_cons (pe_lst (pa_cons (pe_op op_add (pe_op op_add (pv 1) (pv 6)) pe_int) pa_nil)) pk_nil)))
      (pss_cons (ps_par (i := 3) (j := 4) rfl scMany.nd rfl rfl (by decide) rfl rfl (pa_cons (ClX.pe_cmeth (pe_glob (v := .ref cF) (by rfl) T.mF rfl) T.rF hcf Ff hr4 pass0 (pa_cons (pv 2) pa_nil)) (pa_cons (ClX.pe_cmeth (pe_glob (v := .ref cF) (by rfl) T.mF rfl) T.rF hcf Ff hr4 pass0 (pa_cons (pe_revL (pv 2)) pa_nil)) pa_nil)) (by rfl))
      (pss_cons (ps_if (pw_or (pt_not (pt_cmpR (op_eqOwn Mfe hr3) (pv 3) (pv 4) (nomark _))) (pw_or (pt_cmpR op_ne (pe_m (pv 3) T.kF.cl Mfd hr2 (pa_cons (pv 1) pa_nil)) pe_int (nomark _)) (pw_or1 (pt_cmpR op_ne (pe_callB call_len_seq (by rfl) T.b_len boot_len (pa_cons (pe_m0 (pv 4) T.kF.cl Md' hr4) pa_nil)) pe_int (nomark _))))).pt (pss_one (ps_ret pe_bl)) pss_nil)
      (pss_cons (ps_set (i := 5) scMany.nd rfl (Or.inl rfl) (ClX.pe_cmeth (pe_glob (v := .ref cT) (by rfl) T.mT rfl) T.rT hct Ft hr pass0 (pa_cons (pv 2) pa_nil)))
      (pss_one (ps_ret (pe_and (pe_cmpR (op_eqOwn Mte hr3) (pv 5) (ClX.pe_cmeth (pe_glob (v := .ref cT) (by rfl) T.mT rfl) T.rT hct Ft hr pass0 (pa_cons (pe_revL (pv 2)) pa_nil)) (nomark _)) (pe_and (pe_cmpR op_eq (pe_callB call_len_seq (by rfl) T.b_len boot_len (pa_cons (pe_m0 (pv 5) T.kT.cl Mns hr1) pa_nil)) pe_int (nomark _))
        (pe_one (pe_cmpR op_eq (pe_m (pv 5) T.kT.cl Mn hr1 (pa_cons (pe_op op_add (pv 1) pe_int) pa_nil)) (pv 1) (nomark _))))))))))), ?_⟩
    refine ⟨_, rfl, _, _, rfl, rfl, ⟨by decide, by decide, by decide⟩, b, _, n, rfl, hb, by omega, by decide, by decide, fun v H1 v0 v9 e1 b1 n1 => ⟨_, _, rfl, rfl, ?_⟩⟩
    have s1 : 1 ≤ 1 + v := by omega
    have s9 : 1 + v ≤ 10 ^ 9 := by
      have e : (10 : Int) ^ Int.toNat 9 = 10 ^ 9 := rfl
      have := v9
      omega
    -- the letters
    refine ⟨1200, rfl, by decide, by decide, fun D hD => ?_⟩
    refine lc_lets (K := K) (cL := cL) walk_range (rowL (1 + v)) hD (by decide) (fun _ _ => trivial) (fun i x Ha Hb hi e y A hA => ?_) (fun H2 Z e2 hZ hM => ?_)
    · obtain ⟨rfl, ex⟩ := y
      have ex : x = V.int (0 + (i : Nat)) := ex
      rw [Int.zero_add] at ex
      subst ex
      have hi : i < 1200 := hi
      refine ⟨rfl, _, rfl, _, rfl, _, _, rfl, rfl, _, rfl, _, rfl, _, _, rfl, rfl, _, _, rfl, rfl, (by show 1 ≤ sizeLine; decide), fun l hl => ⟨rfl, rfl, fun x dx hx hdx ne => ?_⟩⟩
      have e1 := Ext.upd (o := .lst [V.int (1 + v + (i : Nat) + 1)]) hl
      have lx : l ≠ x := fun z => by rw [z, upd_same] at hx; cases hx
      have ldx : l ≠ dx := fun z => by rw [z, upd_same] at hdx; cases hdx
      exact ⟨x, dx, l, e2, e3, rowL (1 + v) i, rfl, upd_same, by rw [upd_ne lx, upd_ne ldx]; exact upd_same, .inr ⟨m2, rfl⟩, m3, rowL_ok s1 s9 hi, fun H' hL eL => ⟨rfl, hA x H' (ext_made hx hdx e1 eL) (Ext.none e1 hx) hL⟩⟩
    have lZ : Z.length = 1200 := by
      have := congrArg List.length hM
      simpa using this
    have hch : lets Z = chain (1 + v) 1200 := rows_chain hM
    have okZ : ∀ q ∈ Z, q.2.Ok := fun q hq => by
      have : q.2 ∈ Z.map (·.2) := List.mem_map.mpr ⟨q, hq, rfl⟩
      rw [hM] at this
      obtain ⟨i, hi, e⟩ := List.mem_map.mp this
      have hi := List.mem_range.mp hi
      rw [← e]
      exact rowL_ok s1 s9 hi
    have ndZ : (come (lets Z)).Nodup := by rw [hch]; exact chain_nd
    have cons : Cons Z := fun q hq r hr e => by
      rw [come_lets] at ndZ
      rw [map_nd_inj ndZ hq hr e]
    have ndR : (come (lets Z.reverse)).Nodup := by
      rw [come_lets, List.map_reverse] 
      rw [come_lets] at ndZ
      exact (List.reverse_perm _).nodup_iff.mpr ndZ
    have consR : Cons Z.reverse := fun q hq r hr e => cons q (List.mem_reverse.mp hq) r (List.mem_reverse.mp hr) e
    have oldR : ∀ L, Old Z L ↔ Old Z.reverse L := fun L => ⟨fun ⟨p, h⟩ => ⟨p, List.mem_reverse.mpr h⟩, fun ⟨p, h⟩ => ⟨p, List.mem_reverse.mp h⟩⟩
    have ssR := same_set oldR
    have sF : SameF Z Z.reverse := sameF_of ssR ndZ ndR
    have sL : SameL Z Z.reverse := sameL_of ndZ ndR oldR
    have aZ := addAll_id ndZ
    have aR := addAll_id ndR
    have rev : ∀ {Ha : Hp} {x : Addr}, Ha x = some (.lst ((Z.map fun q => V.ref q.1).reverse)) → Ha x = some (.lst (Z.reverse.map fun q => V.ref q.1)) := fun h => by rw [List.map_reverse]; exact h
    -- the two forests
    refine ⟨rfl, _, rfl, D, Z, rfl, hZ.ls, fun q hq => ⟨hZ.at_ q hq, okZ q hq⟩, cons, by omega, fun f1 H3 D1 => ?_⟩
    rw [aZ] at D1
    have e3 := D1.old
    refine ⟨rfl, _, rfl, D, _, rfl, .inl (.inl (e3 _ _ hZ.ls)), fun Dr hDr => ?_⟩
    have x3 := Ext.upd (o := .lst ((Z.map fun q => V.ref q.1).reverse)) hDr
    refine ⟨Dr, Z.reverse, rfl, rev upd_same, fun q hq => ⟨(hZ.at_ q (List.mem_reverse.mp hq)).ext (e3.trans x3), okZ q (List.mem_reverse.mp hq)⟩, consR, by rw [List.length_reverse]; omega, fun f2 H4 D2 => ⟨_, _, rfl, ?_⟩⟩
    rw [aR] at D2
    have e4 := D2.old
    obtain ⟨kn1, fq1, hk1⟩ := D1.fq
    obtain ⟨dt1, dl1, da1, db1, dr1, hf1, _⟩ := id fq1.ob
    obtain ⟨kn2, fq2, hk2⟩ := D2.fq
    obtain ⟨dt2, dl2, da2, db2, dr2, hf2, _⟩ := id fq2.ob
    have x34 := x3.trans e4
    refine ⟨_, rfl, _, rfl, f1, dt1, _, rfl, x34 _ _ hf1, ⟨f2, rfl, .inl ⟨cF, dt2, _, hf2, T.fFF⟩⟩, f1, f2, Z, H2, rfl, D1.ext x34, .inl ⟨Z.reverse, _, D1.ext x3, D2, fun _ => ⟨true, rfl, _, rfl, ?_⟩, fun no => absurd sF no⟩⟩
    have hs0 : (1 + v) ∈ known (lets Z) := by rw [hch]; exact (chain_known (by decide)).mpr ⟨0, by decide, by omega⟩
    refine ⟨_, rfl, f1, dt1, _, rfl, x34 _ _ hf1, rfl, _, rfl, f1, 1 + v, kn1, pr Z, rfl, fq1.ext x34, (hk1 _).mpr hs0, fun H5 ps e5 P => ⟨rfl, _, rfl, eq_skip ?_ ?_⟩⟩
    · obtain ⟨ps', P', l'⟩ := chain_path (s := 1 + v) (n := 1200) 1200 0 rfl
      have hp : pr Z = parOf (fstOf (chain (1 + v) 1200)) := by unfold pr; rw [hch]
      rw [hp] at P
      have z : (1 + v) + ((0 : Nat) : Int) = 1 + v := by omega
      rw [z] at P'
      rw [P.uniq P', l']; rfl
    obtain ⟨Fr, iF⟩ := isF_ex Z.reverse
    obtain ⟨zs, iw⟩ := walk_whole Fr
    have kR : ∀ x, x ∈ Fr.ks ↔ x ∈ known (chain (1 + v) 1200) := fun x => by rw [iF.ks x, ← ssR.known, hch]
    have lks : Fr.ks.length = 1201 := by
      have nd : ((List.range 1201).map fun (i : Nat) => 1 + v + (i : Int)).Nodup := by
        rw [List.nodup_iff_pairwise_ne, List.pairwise_map]
        refine List.Pairwise.imp ?_ (List.pairwise_lt_range (n := 1201))
        intro a b lt e
        omega
      have p := perm_of Fr.up.nodup nd fun x => by
        rw [kR x, chain_known (by decide), List.mem_map]
        constructor
        · rintro ⟨k, hk, e⟩; exact ⟨k, List.mem_range.mpr (by omega), e.symm⟩
        · rintro ⟨k, hk, e⟩; exact ⟨k, by have := List.mem_range.mp hk; omega, e.symm⟩
      have := p.length_eq
      rw [List.length_map, List.length_range] at this
      exact this
    have lzs : zs.length = 1201 := iw.len.trans lks
    have nok : ∀ q ∈ zs, NumOk q.2 := fun q hq => by
      obtain ⟨k, hk, e⟩ := (chain_known (by decide)).mp ((kR _).mp ((iw.mem q.2).mp (List.mem_map.mpr ⟨q, hq, rfl⟩)))
      have e9 : (10 : Int) ^ 9 + 2000 ≤ 10 ^ 30 := by decide
      exact ⟨by omega, by omega⟩
    refine ⟨_, rfl, f2, dt2, _, rfl, e5 _ _ hf2, rfl, f2, Z.reverse, Fr, zs, rfl, ⟨⟨_, D2.ext e5⟩, iF⟩, iw, by omega, nok, fun Dl H6 ls e6 hls pairL => ⟨Dl, _, rfl, .inl (.inl (.inl hls)), rfl, _, rfl, eq_skip ?_ ?_⟩⟩
    · rw [List.length_map, Paired.length pairL, lzs]; rfl
    -- the threads
    have e26 := ((e3.trans x34).trans e5).trans e6
    refine ⟨rfl, _, rfl, D, Z, rfl, e26 _ _ hZ.ls, fun q hq => ⟨(hZ.at_ q hq).ext e26, okZ q hq⟩, cons, by omega, fun t1 H7 DT1 => ?_⟩
    rw [aZ] at DT1
    have e7 := DT1.old
    refine ⟨_, rfl, rfl, _, rfl, D, _, rfl, .inl (.inl ((e26.trans e7) _ _ hZ.ls)), fun Dq hDq => ?_⟩
    have x7 := Ext.upd (o := .lst ((Z.map fun q => V.ref q.1).reverse)) hDq
    refine ⟨Dq, Z.reverse, rfl, rev upd_same, fun q hq => ⟨(hZ.at_ q (List.mem_reverse.mp hq)).ext ((e26.trans e7).trans x7), okZ q (List.mem_reverse.mp hq)⟩, consR, by rw [List.length_reverse]; omega, fun t2 H8 DT2 => ?_⟩
    rw [aR] at DT2
    have e8 := DT2.old
    have DT1' := DT1
    obtain ⟨⟨dl', ol', dg', _, _, _, ⟨⟨dti, hti⟩, _⟩, _⟩, _⟩ := DT1'
    have DT2' := DT2
    obtain ⟨⟨dl'', ol'', dg'', _, _, _, ⟨⟨dtj, htj⟩, _⟩, _⟩, _⟩ := DT2'
    have x78 := x7.trans e8
    refine ⟨t1, dti, _, rfl, x78 _ _ hti, ⟨t2, rfl, .inl ⟨cT, dtj, _, htj, T.fTT⟩⟩, t1, t2, Z, H6, rfl, DT1.ext x78, .inl ⟨Z.reverse, _, DT1.ext x7, DT2, agree_sub hZ.nd (fun q h => h) (fun q h => List.mem_reverse.mp h), fun _ => ⟨true, rfl, true, rfl, ?_⟩, fun no => absurd sL no⟩⟩
    refine ⟨_, rfl, t1, dti, _, rfl, x78 _ _ hti, rfl, t1, Z, H6, rfl, DT1.ext x78, by rw [hch, chain_len]; decide, fun qn H9 ns e9 hq up mem => ⟨qn, _, rfl, .inr (.inl (.inl hq)), rfl, true, ?_, ?_⟩⟩
    · have : ns = [1 + v] := Up.ext up (List.pairwise_singleton _ _) fun x => by
        rw [mem x, hch, List.mem_singleton]
        exact ⟨fun h => chain_one (by decide) h, fun h => by rw [h]; exact chain_least (by decide)⟩
      rw [this]
      exact congrArg V.bl (decide_eq_true rfl)
    have x79 := x78.trans e9
    have hend : (1 + v) + 1200 ∈ known (lets Z) := by rw [hch]; exact (chain_known (by decide)).mpr ⟨1200, by decide, by omega⟩
    refine ⟨_, rfl, t1, dti, _, rfl, x79 _ _ hti, rfl, _, rfl, _, _, rfl, rfl, t1, (1 + v) + 1200, Z, H6, rfl, DT1.ext x79, hend, fun m lm cm => ⟨_, rfl, rfl, ?_⟩⟩
    rw [hch] at lm
    have em : m = 1 + v := chain_one (by decide) lm
    rw [em]
    have eAll := ((Ext.trans (fun a o h => e2 a o h) e26).trans e7).trans x79
    rw [show decide (V.int (1 + v) = V.int (1 + v)) = true from decide_eq_true rfl]
    exact k _ (e1.trans (.of eAll)) (b1.keep eAll)
end
end K9
set_option Elab.async false
set_option linter.all false
set_option maxRecDepth 100000
set_option maxHeartbeats 4000000
/-! LG: a def that is called where no repr is under way; the law's call from such a caller. -/
namespace K9
open PySem PySem.Spec PyProof.Rows L2
section
variable {P : Program} {w : World} {K : PySem.W.Frag} {mg : Str → Option Value} {base : Heap}
/-- what such a def promises -/
def RunG (P : Program) (w : World) (K : PySem.W.Frag) (mg : Str → Option Value) (base : Heap) (k : Nat) (f : Addr) (fd : FuncData) (ps : List Str) (sp : Sp) : Prop :=
  ∀ (B : Around) (out : List Env) (t : Shared) (J : Hp) (as : Args) (xs : List Value) (ys : List V) (R : VK) (U : XK), B.guards = some [] → Room k B → Env0 P w K mg base B out t J → BindsTo t fd as (ps.zip xs) → Vals ys xs → sp ys J R U →
    codeAny (model P w) B (.call (.ref f) as) (CR CX0 out P w J t R U) t
theorem run_g {x qual : Str} {st : Stmt} {f : Addr} {fd : FuncData} {N ps : List Str} {k : Nat} {sp : Sp} (F : Fun K x qual st f fd) (Z : FnScope N ps (defScope st)) (hlen : ∀ ys J R U, sp ys J R U → ys.length = ps.length)
    (body : ∀ (c : Value) (B : Around) (out : List Env) (t : Shared) (J : Hp) (ys : List V) (R : VK) (U : XK), (B.deeper (envOfC qual (defScope st) t.heap.objs.size f c)).guards = some [] → Room k (B.deeper (envOfC qual (defScope st) t.heap.objs.size f c)) → sp ys J R U →
      ∃ q, PSs (cxOf CX0 P w K mg base N qual (defScope st) f c B out t J U).nox (defBody st) q ∧ q { nx := fun _ H' => R .non H', rt := R } (start N ys) J) : RunG P w K mg base (k + 1) f fd ps sp := by
  intro B out t J as xs ys R U hg hr e0 hb rv hs
  obtain ⟨oc, od, kV, doc, pm, an, c, ct, osl, rfl, lk, hcd⟩ := F.ex
  have stays := fun b o e => (e0.bs b o e).1
  have inK : K.In t.heap := e0.mod.kin.keeps stays
  refine codeAny_call_function hr.depth (inK _ _ lk) rfl Z.co Z.gen rfl (PySem.W.codeRec_of inK hcd) (hb _ _ _ _ (wpAny_newFunctionEnv_cells Z.kind (fun y hy => ?_) fun env he t1 z => ?_))
  · exact (Z.par y.1 (List.of_mem_zip (show (y.1, y.2) ∈ ps.zip xs from hy)).1).elim .inl fun q => .inr ⟨q, PySem.W.cellsFrom_some _ _ _ (.inl q)⟩
  · subst he
    obtain ⟨q, hq, reads⟩ := body c B out t J ys R U hg (hr.deeper _) hs
    have I0 : Inv (cxOf CX0 P w K mg base N qual (defScope st) f c B out t J U) [] (start N ys) J t1 := inv_start Z hr.hd e0 (hlen _ _ _ _ hs) rv z
    refine ⟨(e0.mod.nolimit.keeps stays).keeps z.toInCall.keep, codeAny_func (wpAny_mono (hq.nox.run [] t1 (start N ys) J _ I0 reads) (fun fl t2 end_ => ?_) fun _ _ bad => bad)⟩
    match fl, end_ with
    | .ret u, ⟨v, _, J', I1, rel, done⟩ => exact ⟨v, J', I1.os, I1.bare, I1.base, I1.hok, rel, done⟩
    | .next, ⟨_, J', I1, done⟩ => exact ⟨V.non, J', I1.os, I1.bare, I1.base, I1.hok, rfl, done⟩
    | .brk, ⟨_, _, _, no⟩ => exact no.elim
    | .cont, ⟨_, _, _, no⟩ => exact no.elim
end
/-- the module's own heap behind what is tracked: names stand as they stood -/
theorem ns_behind {h : Heap} {J : Hp} {a : Addr} {xs : Array Value} (here : h.get? a = some { cls := .type "list", data := .seq xs }) (only : ∀ c, J c ≠ none → c = a) {b : Addr} {m : Str → Option Value} (n : h.Ns b m) : (hidT h J).Ns b m := by
  obtain ⟨o, es, ep, e, d, r⟩ := n
  refine ⟨o, es, ep, hidT_get e ?_, d, r⟩
  by_cases q : J b = none
  · exact q
  · have z := only b q
    rw [z, here] at e
    cases e
    cases d
theorem law_run {P : Program} {w : World} {K : PySem.W.Frag} {mg mb : Str → Option Value} {k : Nat} {fa a : Addr} {fd : FuncData} {x : Str} {sp : Sp} {t : Shared} {xs : List Value} {ns : List Int}
    (inK : K.In t.heap) (g1 : t.heap.Ns mainGlobals mg) (g2 : t.heap.Ns builtinsNs mb) (g3 : ∀ x : Str, x ≠ "__name__" → mb x = bootBuiltins x) (g4 : t.heap.NoLimit) (g5 : t.heap.NoDigits) (g6 : t.gens = #[])
    (here : t.heap.get? a = some { cls := .type "list", data := .seq xs.toArray }) (hxs : IntsAre xs ns) (short : ns.length ≤ sizeLine) (room : Room k callerA)
    (F : ∀ base : Heap, K.In base → base.Ns mainGlobals mg → base.NoDigits → RunG P w K mg base k fa fd [x] sp) (binds : ∀ (s : Shared) (u : Value), BindsTo s fd ⟨[u], []⟩ [(x, u)])
    (reads : ∀ J : Hp, SqL K J a (ns.map V.int) → sp [.ref a] J (fun v _ => v = .bl true) fun _ _ _ => False) :
    codeAny (model P w) callerA (.call (.ref fa) ⟨[.ref a], []⟩) (fun r t' => r = .ok (.ret (.bool true)) ∧ OldK t.heap t'.heap ∧ t'.os = t.os ∧ AllBare t'.gens) t := by
  have rel := vals_ints hxs
  have go : ∀ J : Hp, (∀ b, J b = none ∨ ∃ o ys, J b = some (.frz o (.lst ys))) → SqL K J a (ns.map V.int) → HOk P w J t.heap → (∀ b, J b ≠ none → b = a) → (J a ≠ none → K.lookup a = none) →
      codeAny (model P w) callerA (.call (.ref fa) ⟨[.ref a], []⟩) (fun r t' => r = .ok (.ret (.bool true)) ∧ OldK t.heap t'.heap ∧ t'.os = t.os ∧ AllBare t'.gens) t := fun J locked sq ok0 only away => by
    have keepK : K.In (hidT t.heap J) := fun b o e => by
      refine hidT_get (inK b o e) ?_
      by_cases q : J b = none
      · exact q
      · have z := only b q
        rw [z] at q e
        rw [away q] at e
        cases e
    have ns1 := ns_behind here only g1
    obtain ⟨mc, l1, l2⟩ := g4
    obtain ⟨md, d1, d2⟩ := g5
    have e0 : Env0 P w K mg (hidT t.heap J) callerA [] t J := ⟨rfl, ⟨keepK, ns1, ⟨mb, ns_behind here only g2, g3⟩, ⟨mc, ns_behind here only l1, l2⟩⟩, fun b o e => of_hidT e, Nat.le_of_eq (hidT_size _ _), trivial, fun b hb => (List.not_mem_nil hb).elim, ok0, .of_eq g6⟩
    refine codeAny_mono (F _ keepK ns1 ⟨md, ns_behind here only d1, d2⟩ callerA [] t J ⟨[.ref a], []⟩ [.ref a] [.ref a] _ _ rfl room e0 (binds t (.ref a)) (.cons rfl .nil) (reads J sq)) fun r t' post => ?_
    match r, post with
    | .error e, no => exact no.elim
    | .ok .next, no => exact no.elim
    | .ok .brk, no => exact no.elim
    | .ok .cont, no => exact no.elim
    | .ok (.ret u), ⟨v, J', os, bare, un, ok1, rv, tr⟩ =>
      have tr : v = .bl true := tr
      rw [tr] at rv
      have eu : u = Value.bool true := rv
      refine ⟨by rw [eu], OldK.of_keep fun b o e => ?_, os, bare⟩
      rcases locked b with n | ⟨ob, ys, n⟩
      · exact un.keep b o e n (fun z => (List.not_mem_nil z).elim) (by simp)
      · have two := (ok1 b _ (un.frzs b ob _ n)).1
        have one := (ok0 b _ n).1
        rw [e] at one
        cases one
        exact two
  have len := hxs.length
  by_cases own : ∃ o, K.lookup a = some o
  · obtain ⟨o, ho⟩ := own
    have e := inK a o ho
    rw [here] at e
    cases e
    exact go (fun _ => none) (fun _ => .inl rfl) (.inr ⟨_, xs.toArray, _, ho, rfl, rfl, rfl, by rw [List.size_toArray, len]; exact short, by simpa using rel⟩) (fun b u z => nomatch z) (fun b z => (z rfl).elim) fun z => (z rfl).elim
  · have none_ : K.lookup a = none := by
      cases q : K.lookup a with
      | none => rfl
      | some o => exact (own ⟨o, q⟩).elim
    obtain ⟨J0, at_a, off⟩ : ∃ J0 : Hp, J0 a = some (HO.frz { cls := .type "list", data := .seq xs.toArray } (.lst (ns.map V.int))) ∧ ∀ b, b ≠ a → J0 b = none := ⟨fun b => if b = a then _ else none, if_pos rfl, fun b h => if_neg h⟩
    refine go J0 (fun b => ?_) (.inl (.inr ⟨_, at_a⟩)) (fun b u z => ?_) (fun b z => ?_) fun _ => none_
    · by_cases q : b = a
      · rw [q]; exact .inr ⟨_, _, at_a⟩
      · exact .inl (off b q)
    · by_cases q : b = a
      · subst q
        cases at_a.symm.trans z
        exact ⟨here, by rw [List.length_map]; exact short, xs, _, rel, here⟩
      · cases (off b q).symm.trans z
    · by_cases q : b = a
      · exact q
      · exact (z (off b q)).elim
end K9
set_option Elab.async false
set_option linter.all false
set_option maxRecDepth 100000
set_option maxHeartbeats 4000000
/-! LH: data of summaries and walks as they stand; more for the law. -/
namespace K9
open PySem PySem.Spec PyProof.Rows L2 SX
theorem str_skip {x y : Str} {A B : Prop} (e : x = y) (h : B) : if (!decide (V.str x = V.str y)) = true then A else B := by
  rw [if_neg (by simp [e])]; exact h
theorem dp_ints {K : PySem.W.Frag} {H : Hp} : ∀ ns : List Int, DpAll K H (ns.map V.int) (ns.map PyData.int)
  | [] => .nil
  | n :: ns => .cons (.int n) (dp_ints ns)
theorem dp_trip {K : PySem.W.Frag} {H : Hp} {v : V} {e : Trip} (h : SumV H v e) : Dp K H v (dTrip e) := by
  obtain ⟨q, m, b, rfl, h1, h2, h3⟩ := h
  exact .tup (.inl (.inl h1)) (.cons (.int _) (.cons (.tup (.inl (.inl h2)) (dp_ints _)) (.cons (.tup (.inl (.inl h3)) (dp_ints _)) .nil)))
theorem dp_all {K : PySem.W.Frag} {H : Hp} {α : Type} {F : V → α → Prop} {d : α → PyData} (h : ∀ v a, F v a → Dp K H v (d a)) : ∀ {vs : List V} {as : List α}, Paired F vs as → DpAll K H vs (as.map d)
  | _, _, .nil => .nil
  | _, _, .cons r t => .cons (h _ _ r) (dp_all h t)
theorem dp_sum {K : PySem.W.Frag} {H : Hp} {p : Addr} {L : List Trip} (h : SumAt H p L) : Dp K H (.ref p) (dSum L) := by
  obtain ⟨vs, h1, h2⟩ := h
  exact .lst (.inl (.inl h1)) (dp_all (fun _ _ r => dp_trip r) h2)
theorem dp_walk {K : PySem.W.Frag} {H : Hp} {p : Addr} {zs : List (Nat × Int)} (h : ItemsAt H p zs) : Dp K H (.ref p) (dWalk zs) := by
  obtain ⟨vs, h1, h2⟩ := h
  refine .lst (.inl (.inl h1)) (dp_all (d := fun q : Nat × Int => .tuple [.int (q.1 : Nat), .int q.2]) (fun v q r => ?_) h2)
  obtain ⟨t, rfl, ht⟩ := r
  exact .tup (.inl (.inl ht)) (.cons (.int _) (.cons (.int _) .nil))
theorem hd_pairs {K : PySem.W.Frag} {H : Hp} {p : Addr} {l : List (Int × Option Int)} (h : PairsAt H p l) : HD K H (.ref p) l := by
  obtain ⟨vs, h1, h2⟩ := h
  refine .lst (.inl (.inl h1)) (dp_all (fun v q r => ?_) h2)
  obtain ⟨t, rfl, ht⟩ := r
  exact .tup (.inl (.inl ht)) (.cons (.int _) (.cons (hd_oV _) .nil))
theorem int_show {n : Int} (h0 : 0 ≤ n) (h2 : n ≤ 10 ^ 30) : (PyData.int n).showable = true := by
  by_cases c : n = 0
  · rw [c]; decide
  · exact decide_eq_true (num_log ⟨by omega, h2⟩)
theorem ints_show {ns : List Int} (h : ∀ n ∈ ns, NumOk n) : (dInts ns).showable = true ∧ (dInts ns).hasDict = false ∧ (dInts ns).depth ≤ 1 := by
  refine ⟨showAll_of fun x hx => ?_, noDicts_of fun x hx => ?_, Nat.succ_le_succ (depthAll_le fun x hx => ?_)⟩
  all_goals obtain ⟨n, hn, rfl⟩ := List.mem_map.mp hx
  · have := h n hn; exact int_show (by have := this.1; omega) this.2
  · rfl
  · exact Nat.le_refl _
theorem sum_show {L : List Trip} (h : ∀ e ∈ L, NumOk e.1 ∧ (∀ n ∈ e.2.1, NumOk n) ∧ (∀ n ∈ e.2.2, NumOk n)) : (dSum L).showable = true ∧ (dSum L).hasDict = false ∧ (dSum L).depth ≤ 60 := by
  have each : ∀ x ∈ L.map dTrip, x.showable = true ∧ x.hasDict = false ∧ x.depth ≤ 2 := fun x hx => by
    obtain ⟨e, he, rfl⟩ := List.mem_map.mp hx
    obtain ⟨a, b, c⟩ := h e he
    have i1 := ints_show b
    have i2 := ints_show c
    have m : ∀ y ∈ [PyData.int e.1, dInts e.2.1, dInts e.2.2], y.showable = true ∧ y.hasDict = false ∧ y.depth ≤ 1 := fun y hy => by
      simp only [List.mem_cons, List.not_mem_nil, or_false] at hy
      rcases hy with rfl | rfl | rfl
      · exact ⟨int_show (by have := a.1; omega) a.2, rfl, Nat.zero_le _⟩
      · exact i1
      · exact i2
    exact ⟨showAll_of fun y hy => (m y hy).1, noDicts_of fun y hy => (m y hy).2.1, Nat.succ_le_succ (depthAll_le fun y hy => (m y hy).2.2)⟩
  exact ⟨showAll_of fun x hx => (each x hx).1, noDicts_of fun x hx => (each x hx).2.1, Nat.le_trans (Nat.succ_le_succ (depthAll_le fun x hx => (each x hx).2.2)) (by decide)⟩
theorem walk_show {zs : List (Nat × Int)} (h : ∀ q ∈ zs, q.1 ≤ 20000 ∧ NumOk q.2) : (dWalk zs).showable = true ∧ (dWalk zs).hasDict = false ∧ (dWalk zs).depth ≤ 60 := by
  have each : ∀ x ∈ zs.map (fun q : Nat × Int => PyData.tuple [.int (q.1 : Nat), .int q.2]), x.showable = true ∧ x.hasDict = false ∧ x.depth ≤ 2 := fun x hx => by
    obtain ⟨e, he, rfl⟩ := List.mem_map.mp hx
    obtain ⟨a, b⟩ := h e he
    have m : ∀ y ∈ [PyData.int (e.1 : Nat), .int e.2], y.showable = true ∧ y.hasDict = false ∧ y.depth ≤ 1 := fun y hy => by
      simp only [List.mem_cons, List.not_mem_nil, or_false] at hy
      rcases hy with rfl | rfl
      · exact ⟨int_show (by omega) (Int.le_trans (show ((e.1 : Nat) : Int) ≤ 20000 by omega) (by decide)), rfl, Nat.zero_le _⟩
      · exact ⟨int_show (by have := b.1; omega) b.2, rfl, Nat.zero_le _⟩
    exact ⟨showAll_of fun y hy => (m y hy).1, noDicts_of fun y hy => (m y hy).2.1, Nat.succ_le_succ (depthAll_le fun y hy => (m y hy).2.2)⟩
  exact ⟨showAll_of fun x hx => (each x hx).1, noDicts_of fun x hx => (each x hx).2.1, Nat.le_trans (Nat.succ_le_succ (depthAll_le fun x hx => (each x hx).2.2)) (by decide)⟩
theorem isF_same {S S' : Lts} {F : Frst} (h : IsF S F) (s : SameF S S') : IsF S' F := ⟨h.p.trans s.2, fun n => (h.ks n).trans (s.1 n)⟩
theorem lds_at {X : Lts} {d : LD} : (List.range (X.map fun q => V.ref q.1).length).map (fun i => (X.map (·.2)).getD i d) = X.map (·.2) := by
  refine List.ext_getElem (by simp) fun i h1 h2 => ?_
  simp [List.getD_eq_getElem?_getD] at h1 h2 ⊢
  simp [h2]
theorem lets_map {Z X : Lts} (h : Z.map (·.2) = X.map (·.2)) : lets Z = lets X := by
  have e : ∀ S : Lts, lets S = (S.map (·.2)).map fun L => (L.num, L.ans) := fun S => by unfold lets; rw [List.map_map]; rfl
  rw [e, e, h]
theorem old_map {Z X : Lts} (h : Z.map (·.2) = X.map (·.2)) (L : LD) : Old Z L ↔ Old X L := by
  have e : ∀ S : Lts, Old S L ↔ L ∈ S.map (·.2) := fun S => ⟨fun ⟨p, hp⟩ => List.mem_map.mpr ⟨_, hp, rfl⟩, fun m => by
    obtain ⟨q, hq, rfl⟩ := List.mem_map.mp m
    exact ⟨q.1, hq⟩⟩
  rw [e, e, h]
theorem cut_last (xs : List V) (h : 0 < xs.length) : cutV xs none (some (-1)) = xs.dropLast := by
  have e : HT.sIx xs.length xs.length (some (-1)) = xs.length - 1 := by
    unfold HT.sIx
    simp
    omega
  unfold cutV
  rw [e, HT.sIx_none, Nat.sub_zero, List.drop_zero, List.dropLast_eq_take]
theorem sqL_bag {K : PySem.W.Frag} {H H' : Hp} {a b : Addr} {xs : List V} (h : SqL K H a xs) (hb : H b = none) (e : ExtB b H H') : SqL K H' a xs := by
  rcases h with (h | ⟨o, h⟩) | h
  · exact .inl (.inl (e a _ (fun z => by rw [z, hb] at h; cases h) h))
  · exact .inl (.inr ⟨o, e a _ (fun z => by rw [z, hb] at h; cases h) h⟩)
  · exact .inr h
theorem ThrAt.ins {K : PySem.W.Frag} {cL cG cT : Addr} {H0 H : Hp} {t : Addr} {S : Lts} (h : ThrAt K cL cG cT H0 H t S) : ∃ dt dl ol dg, H t = some (.ins cT dt [("letters", .ref dl), ("order", .ref ol), ("groups", .ref dg)]) := by
  obtain ⟨⟨dl', ol', dg', _, _, _, ⟨⟨dti, hti⟩, _⟩, _⟩, _⟩ := h
  exact ⟨dti, _, _, _, hti⟩
theorem ForAt.ins {K : PySem.W.Frag} {cL cF : Addr} {H0 H : Hp} {f : Addr} {S : Lts} (h : ForAt K cL cF H0 H f S) : ∃ dt dl da db dr, H f = some (.ins cF dt [("letters", .ref dl), ("above", .ref da), ("below", .ref db), ("rings", .ref dr)]) := by
  obtain ⟨kn, fq, _⟩ := h.fq
  obtain ⟨dt, dl, da, db, dr, hf, _⟩ := fq.ob
  exact ⟨dt, dl, da, db, dr, hf⟩
theorem PairsAt.ext {H H' : Hp} {q : Addr} {l : List (Int × Option Int)} (h : PairsAt H q l) (e : Ext H H') : PairsAt H' q l := by
  obtain ⟨vs, h1, h2⟩ := h
  refine ⟨vs, e _ _ h1, ?_⟩
  clear h1
  induction h2 with
  | nil => exact .nil
  | cons r _ ih =>
    obtain ⟨t, e1, e2⟩ := r
    exact .cons ⟨t, e1, e _ _ e2⟩ ih
end K9
set_option Elab.async false
set_option linter.all false
set_option maxRecDepth 100000
set_option maxHeartbeats 32000000
/-! LF: the law. -/
namespace K9
open PySem PySem.Spec PyProof.Rows L2 SX
def spLaw (K : PySem.W.Frag) : Sp := fun vs H Q _ => ∃ (a : Addr) (ns : List Int), vs = [.ref a] ∧ SqL K H a (ns.map V.int) ∧ ns.length ≤ 63 ∧ ∀ H', Q (.bl true) H'
section
variable {P : Program} {w : World} {K : PySem.W.Frag} {mg : Str → Option Value} {base : Heap} {cL cG cT cF fw : Addr} {fdw : FuncData}
theorem ok_law {f : Addr} {fd : FuncData} (F : Fun K "law" "law" sLaw f fd) (T : Mo K mg cL cG cT cF)
    (Gb : Gd P w K mg base 1 "_law_bag" pBag (spBag K)) (Gt : Gd P w K mg base 1 "_law_take" pTake spTake) (Gr : Gd P w K mg base 3 "_law_rows" pRows spRows) (Gu : Gd P w K mg base 2 "_law_turned" pTurn spTurned) (Gx : Gd P w K mg base 2 "_law_mixed" pMix spMixed)
    (Gm : Gd P w K mg base 6 "_law_row_of_many" pMany spMany) (Gl : Gd P w K mg base 5 "_law_letter" pLet (spLet K cL)) (Gtf : Gd P w K mg base 3 "_law_threads_fit" pTFit (spTFit K cL cG cT)) (Gff : Gd P w K mg base 5 "_law_forest_fits" pFFit (spFFit K cL cG cT cF))
    (G : LK P w K mg base cL) (Cf : CM P w K mg base cF 4 "of" (spFOf K cL cF)) (Ct : CM P w K mg base cT 5 "of" (spTOf K cL cG cT)) (Mfe : Md P w K mg base cF 3 "__eq__" pFEq (spFEq K cL cF)) (Mte : Md P w K mg base cT 3 "__eq__" pTEq (spTEq K cL cG cT cF))
    (Mts : Md P w K mg base cT 2 "summary" pTSum (spTSum K cL cG cT)) (Ms : Md P w K mg base cF 1 "summary" pFSum (spFSum K cL cF))
    (Mr : Md P w K mg base cF 1 "roots" pFRts (spFRts K cL cF)) (Mc : Md P w K mg base cF 1 "children" pFChi (spFChi K cL cF)) (hmw : Meth K cF "walk_trees" fw) (Fw : Fun K "walk_trees" "Forest.walk_trees" sWalk fw fdw) (hbw : Binds K fdw pWalk []) :
    RunG P w K mg base 7 f fd pLaw (spLaw K) := by
  refine run_g F scLaw (fun vs H Q E h => ?_) (fun cdv A outer s H vs Q E hg hr h => ?_)
  · obtain ⟨_, _, rfl, _⟩ := h; rfl
  · obtain ⟨a, ns, rfl, hS, hlen, k⟩ := h
    have hu := hr.units
    have hr1 := hr.mono (show 1 ≤ 6 by decide)
    have hr2 := hr.mono (show 2 ≤ 6 by decide)
    have hr3 := hr.mono (show 3 ≤ 6 by decide)
    have hr4 := hr.mono (show 4 ≤ 6 by decide)
    have hr5 := hr.mono (show 5 ≤ 6 by decide)
    obtain ⟨fi, fdi, ps, g, e3', Fi, M, hbi, m3⟩ := G.two
    obtain ⟨pf, gf, hcf, Ff⟩ := Cf.ex
    obtain ⟨pt, gt, hct, Ft⟩ := Ct.ex
    refine ⟨_, pss_cons (ps_for PassesOwn.never rfl (pi_range1 (by rfl) T.b_range (pa_cons (pe_callB (call_max2 rfl) (by rfl) T.b_max boot_max (pa_cons pe_int (pa_cons (pe_callB (call_min2 rfl) (by rfl) T.b_min boot_min (pa_cons pe_int (pa_cons (pe_callB call_len_seq (by rfl) T.b_len boot_len (pa_cons (pv 0) pa_nil)) pa_nil))) pa_nil))) pa_nil)) (pg_name (i := 1) scLaw.nd rfl (Or.inl rfl))
        (pss_cons (ps_set (i := 2) scLaw.nd rfl (Or.inl rfl) (pe_g Gb hr1 (by rfl) (pa_cons (pv 0) (pa_cons (pv 1) pa_nil))))
        (pss_cons (ps_set (i := 3) scLaw.nd rfl (Or.inl rfl) (pe_g Gu hr2 (by rfl) (pa_cons (pv 2) (pa_cons (pe_g Gr hr3 (by rfl) (pa_cons (pv 2) (pa_cons (pe_ix ix_seq (pe_lst (pa_cons pe_int (pa_cons pe_int (pa_cons pe_int pa_nil)))) (pe_g Gt hr1 (by rfl) (pa_cons (pv 2) (pa_cons pe_int pa_nil))) (fun _ _ => rfl)) pa_nil))) pa_nil))))
        (pss_cons (ps_set (i := 4) scLaw.nd rfl (Or.inl rfl) (pe_g Gx hr2 (by rfl) (pa_cons (pv 2) (pa_cons (pv 3) pa_nil))))
        (pss_cons (ps_if (pw_and (pt_cmpR op_eq (pe_g Gt hr1 (by rfl) (pa_cons (pv 2) (pa_cons pe_int pa_nil))) pe_int (nomark _)) (pw_and1 (pt_not (pt_val (pe_g Gm hr (by rfl) (pa_cons (pv 2) pa_nil)))))).pt (pss_one (ps_ret pe_bl)) pss_nil)
        (pss_cons (ps_par (i := 5) (j := 6) rfl scLaw.nd rfl rfl (by decide) rfl rfl (pa_cons (pe_lc rfl scLaw.nd (pi_list (pv 3)) (own := [("_law_row", 12)]) (blkOk_by (by show blkC nLaw (defScope sLaw) _ _ = true; decide +kernel)) (fun _ _ _ _ _ => pg_name (i := 12) scLaw.nd rfl (Or.inl rfl)) (fun _ _ _ _ _ => pts_nil) (fun _ _ _ _ _ => pe_g Gl hr5 (by rfl) (pa_cons (pv 12) pa_nil)))
            (pa_cons (pe_lc rfl scLaw.nd (pi_list (pv 4)) (own := [("_law_row", 12)]) (blkOk_by (by show blkC nLaw (defScope sLaw) _ _ = true; decide +kernel)) (fun _ _ _ _ _ => pg_name (i := 12) scLaw.nd rfl (Or.inl rfl)) (fun _ _ _ _ _ => pts_nil) (fun _ _ _ _ _ => pe_g Gl hr5 (by rfl) (pa_cons (pv 12) pa_nil))) pa_nil)) (by rfl))
        (pss_cons (ps_par (i := 7) (j := 8) rfl scLaw.nd rfl rfl (by decide) rfl rfl (pa_cons (ClX.pe_cmeth (pe_glob (v := .ref cT) (by rfl) T.mT rfl) T.rT hct Ft hr5 pass0 (pa_cons (pv 5) pa_nil)) (pa_cons (ClX.pe_cmeth (pe_glob (v := .ref cF) (by rfl) T.mF rfl) T.rF hcf Ff hr4 pass0 (pa_cons (pv 5) pa_nil)) pa_nil)) (by rfl))
        (pss_cons (ps_if (pw_or (pt_not (pt_cmpR (op_eqOwn Mte hr3) (pv 7) (ClX.pe_cmeth (pe_glob (v := .ref cT) (by rfl) T.mT rfl) T.rT hct Ft hr5 pass0 (pa_cons (pv 6) pa_nil)) (nomark _))) (pw_or1 (pt_not (pt_cmpR (op_eqOwn Mfe hr3) (pv 8) (ClX.pe_cmeth (pe_glob (v := .ref cF) (by rfl) T.mF rfl) T.rF hcf Ff hr4 pass0 (pa_cons (pv 6) pa_nil)) (nomark _))))).pt (pss_one (ps_ret pe_bl)) pss_nil)
        (pss_cons (ps_if (pw_or (pt_cmpR op_ne (pe_callB (call_repr hg hu) (by rfl) T.b_repr boot_repr (pa_cons (pe_m0 (pv 7) T.kT.cl Mts hr2) pa_nil)) (pe_callB (call_repr hg hu) (by rfl) T.b_repr boot_repr (pa_cons (pe_m0 (ClX.pe_cmeth (pe_glob (v := .ref cT) (by rfl) T.mT rfl) T.rT hct Ft hr5 pass0 (pa_cons (pv 6) pa_nil)) T.kT.cl Mts hr2) pa_nil)) (nomark _))
            (pw_or1 (pt_cmpR (op_eqOwn Mte hr3) (pv 7) (ClX.pe_cmeth (pe_glob (v := .ref cT) (by rfl) T.mT rfl) T.rT hct Ft hr5 pass0 (pa_cons (pe_slice sl_list (pv 5) (po_some pe_int) po_none) pa_nil)) (nomark _)))).pt (pss_one (ps_ret pe_bl)) pss_nil)
        (pss_cons (ps_if (pt_cmpR op_ne (pe_callB (call_repr hg hu) (by rfl) T.b_repr boot_repr (pa_cons (pe_walkL rfl scLaw.nd (pw_meth (ClX.pe_cmeth (pe_glob (v := .ref cF) (by rfl) T.mF rfl) T.rF hcf Ff hr4 pass0 (pa_cons (pv 6) pa_nil)) T.kF.cl hmw Fw hbw hr1) (j := 13) (blkOk_by (by show blkC nLaw (defScope sLaw) _ _ = true; decide +kernel)) rfl T Mr Mc hr3) pa_nil))
            (pe_callB (call_repr hg hu) (by rfl) T.b_repr boot_repr (pa_cons (pe_walkL rfl scLaw.nd (pw_meth (pv 8) T.kF.cl hmw Fw hbw hr1) (j := 13) (blkOk_by (by show blkC nLaw (defScope sLaw) _ _ = true; decide +kernel)) rfl T Mr Mc hr3) pa_nil)) (nomark _)) (pss_one (ps_ret pe_bl)) pss_nil)
        (pss_cons (ps_if (pw_or (pt_cmpR (op_eqOwn Mte hr3) (pv 7) (pv 8) (nomark _)) (pw_or (pt_cmpR (op_eqOwn Mfe hr3) (pv 8) (pe_m0 (pv 8) T.kF.cl Ms hr1) (nomark _)) (pw_or1 (pt_not (pt_val (pe_g Gtf hr3 (by rfl) (pa_cons (pv 7) (pa_cons (pv 3) pa_nil)))))))).pt (pss_one (ps_ret pe_bl)) pss_nil)
        (pss_cons (ps_par (i := 9) (j := 10) rfl scLaw.nd rfl rfl (by decide) rfl rfl (pa_cons (pe_ix ix_seq (pv 3) (pe_un un_neg pe_int) (fun _ _ => rfl)) (pa_cons (ClX.pe_cmeth (pe_glob (v := .ref cF) (by rfl) T.mF rfl) T.rF hcf Ff hr4 pass0 (pa_cons (pe_slice sl_list (pv 5) (po_some pe_int) po_none) pa_nil)) pa_nil)) (by rfl))
        (pss_cons (ps_set (i := 11) scLaw.nd rfl (Or.inl rfl) (pe_op op_cat (pe_slice sl_list (pv 5) po_none (po_some (pe_un un_neg pe_int))) (pe_lst (pa_cons (pe_makeK M Fi hr4 (by rfl) T.mL hbi pass0 (pa_cons (pe_ix ix_seq (pv 9) pe_int (fun _ _ => rfl)) (pa_cons (pe_ix ix_seq (pv 9) pe_int (fun _ _ => rfl)) (pa_cons (pe_ix ix_seq (pv 9) pe_int (fun _ _ => rfl)) pa_nil)))
            (pk_cons (pe_callTy call_list_of (by rfl) T.b_list boot_list (pa_cons (pe_ix ix_seq (pv 9) pe_int (fun _ _ => rfl)) pa_nil)) (pk_cons (pe_lst (pa_cons pe_str pa_nil)) pk_nil))) pa_nil))))
        (pss_cons (ps_if (pw_or (pt_cmpR (op_eqOwn Mte hr3) (pv 7) (ClX.pe_cmeth (pe_glob (v := .ref cT) (by rfl) T.mT rfl) T.rT hct Ft hr5 pass0 (pa_cons (pv 11) pa_nil)) (nomark _)) (pw_or1 (pt_not (pt_cmpR (op_eqOwn Mfe hr3) (pv 8) (ClX.pe_cmeth (pe_glob (v := .ref cF) (by rfl) T.mF rfl) T.rF hcf Ff hr4 pass0 (pa_cons (pv 11) pa_nil)) (nomark _))))).pt (pss_one (ps_ret pe_bl)) pss_nil)
        (pss_cons (ps_if (pt_cmpR op_ne (pe_cmpR (op_eqOwn Mfe hr3) (pv 8) (pv 10) (nomark _)) (pe_cmpR (op_eqM K (List (Int × Option Int)) hu) (pe_m0 (pv 8) T.kF.cl Ms hr1) (pe_m0 (pv 10) T.kF.cl Ms hr1) (nomark _)) (nomark _)) (pss_one (ps_ret pe_bl)) pss_nil)
        (pss_one (ps_if (pt_not (pt_val (pe_g Gff hr5 (by rfl) (pa_cons (pv 8) (pa_cons (pv 7) (pa_cons (pv 3) pa_nil)))))) (pss_one (ps_ret pe_bl)) pss_nil)))))))))))))))))
      (pss_one (ps_ret pe_bl)), ?_⟩
    have hu1 : sizeLine = 16777216 := sizeLine_eq
    -- how many turns
    refine ⟨_, rfl, a, _, rfl, .inl hS, _, _, rfl, _, _, rfl, ?_⟩
    rw [List.length_map]
    obtain ⟨cnt, hcnt, c3⟩ : ∃ cnt : Nat, (if (if ((ns.length : Nat) : Int) < 3 then ((ns.length : Nat) : Int) else 3) > 1 then (if ((ns.length : Nat) : Int) < 3 then ((ns.length : Nat) : Int) else 3) else 1) = (cnt : Int) ∧ cnt ≤ 3 := by
      refine ⟨(if (if ((ns.length : Nat) : Int) < 3 then ((ns.length : Nat) : Int) else 3) > 1 then (if ((ns.length : Nat) : Int) < 3 then ((ns.length : Nat) : Int) else 3) else 1 : Int).toNat, ?_, ?_⟩
      all_goals (split <;> split <;> omega)
    rw [hcnt]
    refine ⟨_, rfl, by omega, by omega, ?_⟩
    rw [Int.toNat_natCast]
    refine for_range (fun i σ Hi => ∃ v1 v2 v3 v4 v5 v6 v7 v8 v9 v10 v11 : Option V, σ = [some (.ref a), v1, v2, v3, v4, v5, v6, v7, v8, v9, v10, v11, none, none] ∧ SqL K Hi a (ns.map V.int)) ⟨_, _, _, _, _, _, _, _, _, _, _, rfl, hS⟩ ?_ (fun σ Hi _ => k Hi)
    rintro i σ Hi hi ⟨v1, v2, v3, v4, v5, v6, v7, v8, v9, v10, v11, rfl, hSi⟩
    refine ⟨_, rfl, _, rfl, a, ns, 0 + (i : Int), rfl, hSi, by omega, by omega, by omega, fun b H1 e1 hb0 b1 => ?_⟩
    -- the rows
    refine ⟨_, rfl, _, rfl, (by show 3 ≤ sizeLine; decide), fun l3 hl3 => ?_⟩
    have x1 := Ext.upd (o := .lst [V.int 3, .int 8, .int 16]) hl3
    have l3b : l3 ≠ b := b1.ne hl3
    refine ⟨_, rfl, b, 3, 0, rfl, b1.keep x1, by decide, by decide, by decide, fun u H2 u0 u3 e2 b2 n2 => ?_⟩
    obtain ⟨mo, hmo, mo1, mo16⟩ : ∃ mo : Int, atI [V.int 3, .int 8, .int 16] u = some (.int mo) ∧ 1 ≤ mo ∧ mo ≤ 16 := by
      have : u = 0 ∨ u = 1 ∨ u = 2 := by omega
      rcases this with rfl | rfl | rfl
      · exact ⟨3, rfl, by decide, by decide⟩
      · exact ⟨8, rfl, by decide, by decide⟩
      · exact ⟨16, rfl, by decide, by decide⟩
    refine .inl ⟨l3, _, u, _, rfl, rfl, .inl (.inl (e2 _ _ l3b upd_same)), hmo, ?_⟩
    refine ⟨b, mo, _, rfl, b2, by decide, mo1, mo16, fun p0 X0 H3 hX0 hp0 l1 l16 nd0 e3 b3 => ?_⟩
    refine ⟨b, p0, X0, _, rfl, b3, hX0, l16, by decide, fun p X H4 hX hpn hnums e4 b4 => ?_⟩
    have lX : X.length = X0.length := by
      have := congrArg List.length hnums
      unfold nums at this
      simpa using this
    have ndX : (nums X).Nodup := by rw [hnums]; exact nd0
    have pb := hX.neB b4
    -- mixed
    refine ⟨_, rfl, _, rfl, b, p, X, _, rfl, b4, hX, by omega, by omega, by decide, fun q Y H5 hY hq0 mem lY e5 b5 => ?_⟩
    have hX5 := hX.bag b4 e5 pb
    have qb := hY.neB b5
    have e05 : ExtB b Hi H5 := ((((ExtB.of (e1.trans x1)).trans e2).trans e3).trans e4).trans e5
    -- at times a row of many letters
    refine (fun (cont : ∀ H7, ExtB b H5 H7 → BagAt H7 b 5000 → (?G : Hp → Prop) H7) => ?main) ?rest
    case main =>
      refine ⟨_, rfl, b, 16, _, rfl, b5, by decide, by decide, by decide, fun u H6 u0 u16 e6 b6 n6 => ⟨rfl, _, rfl, ?_⟩⟩
      refine ite2 (fun _ => ?_) (fun _ => ?_)
      · refine ⟨_, rfl, b, _, rfl, b6, by decide, fun H7 e7 b7 => ⟨true, rfl, ?_⟩⟩
        exact cont H7 (e6.trans e7) (b7.mono (by decide))
      · exact cont H6 e6 (b6.mono (by decide))
    case rest =>
      intro H7 e57 b7
      have e07 := e05.trans e57
      have hX7 := hX5.bag b5 e57 pb
      have hY7 := hY.bag b5 e57 qb
      -- the letters
      refine ⟨_, rfl, p, rfl, ⟨_, .inl (.inl hX7.ls)⟩, fun D1 hD1 => ?_⟩
      refine lc_lets (K := K) (cL := cL) walk_list (fun i => (X.map (·.2)).getD i ⟨0, "", "", [], []⟩) hD1 (by rw [List.length_map]; omega) (fun H' e => .inl (.inl (e _ _ hX7.ls))) (fun i x Ha Hb hi e y A hA => ?_) (fun H8 Z e8 hZ hM => ?_)
      · obtain ⟨rfl, hx⟩ := y
        obtain ⟨r, hr, rfl⟩ := ref_at hx
        have rm := List.mem_of_getElem? hr
        have em : (X.map (·.2)).getD i ⟨0, "", "", [], []⟩ = r.2 := by rw [List.getD_eq_getElem?_getD, List.getElem?_map, hr]; rfl
        exact ⟨rfl, _, rfl, r.1, r.2, rfl, (hX7.row r rm).keep (.of e), hX7.ok r rm, fun p' H' e' hp' hL => hA p' H' e' hp' (by rw [em]; exact hL)⟩
      rw [lds_at] at hM
      have hY8 := hY7.ext e8
      refine ⟨_, rfl, q, rfl, ⟨_, .inl (.inl hY8.ls)⟩, fun D2 hD2 => ?_⟩
      refine lc_lets (K := K) (cL := cL) walk_list (fun i => (Y.map (·.2)).getD i ⟨0, "", "", [], []⟩) hD2 (by rw [List.length_map]; omega) (fun H' e => .inl (.inl (e _ _ hY8.ls))) (fun i x Ha Hb hi e y A hA => ?_) (fun H9 W e9 hW hN => ?_)
      · obtain ⟨rfl, hx⟩ := y
        obtain ⟨r, hr, rfl⟩ := ref_at hx
        have rm := List.mem_of_getElem? hr
        have em : (Y.map (·.2)).getD i ⟨0, "", "", [], []⟩ = r.2 := by rw [List.getD_eq_getElem?_getD, List.getElem?_map, hr]; rfl
        exact ⟨rfl, _, rfl, r.1, r.2, rfl, (hY8.row r rm).keep (.of e), hY8.ok r rm, fun p' H' e' hp' hL => hA p' H' e' hp' (by rw [em]; exact hL)⟩
      rw [lds_at] at hN
      refine ⟨_, _, rfl, ?_⟩
      -- what is known of them
      have hX9 := hX7.ext (Ext.trans (fun a o h => e8 a o h) e9)
      have oZ : ∀ r ∈ Z, RowOk r.2 := fun r hr => by
        have m : r.2 ∈ X.map (·.2) := by rw [← hM]; exact List.mem_map.mpr ⟨r, hr, rfl⟩
        obtain ⟨z, hz, ez⟩ := List.mem_map.mp m
        rw [← ez]; exact hX.ok z hz
      have oW : ∀ r ∈ W, RowOk r.2 := fun r hr => by
        have m : r.2 ∈ Y.map (·.2) := by rw [← hN]; exact List.mem_map.mpr ⟨r, hr, rfl⟩
        obtain ⟨z, hz, ez⟩ := List.mem_map.mp m
        rw [← ez]; exact hY.ok z hz
      have lZ : Z.length = X.length := by
        have := congrArg List.length hM
        simpa using this
      have lW : W.length = Y.length := by
        have := congrArg List.length hN
        simpa using this
      have letsZ : lets Z = lets X := lets_map hM
      have ndZ : (come (lets Z)).Nodup := by rw [letsZ, nums_come]; exact ndX
      have oldW : ∀ L, Old Z L ↔ Old W L := fun L => by
        rw [old_map hM, old_map hN]
        exact ⟨fun ⟨p, h⟩ => ⟨p, (mem _).mpr h⟩, fun ⟨p, h⟩ => ⟨p, (mem _).mp h⟩⟩
      have consX : ∀ r ∈ X, ∀ z ∈ X, r.2.num = z.2.num → r = z := fun r hr z hz e => map_nd_inj ndX hr hz e
      have cons : Cons Z := fun r hr z hz e => by
        rw [come_lets] at ndZ
        rw [map_nd_inj ndZ hr hz e]
      have consW : Cons W := fun r hr z hz e => by
        obtain ⟨p1, h1⟩ := (oldW r.2).mpr ⟨r.1, hr⟩
        obtain ⟨p2, h2⟩ := (oldW z.2).mpr ⟨z.1, hz⟩
        exact (show (p1, r.2).2 = (p2, z.2).2 from cons (p1, r.2) h1 (p2, z.2) h2 e)
      have aZ := addAll_id ndZ
      have oldA : ∀ L, Old Z L ↔ Old (addAll W) L := fun L => (oldW L).trans (addAll_old consW L).symm
      have ssA := same_set oldA
      have k144 : (known (lets Z)).length ≤ 144 := by rw [letsZ]; exact rows_known hX (by omega)
      have inA : ∀ r ∈ addAll W, r ∈ W := fun r hr => by
        rcases addAll_sub hr with h | h
        · cases h
        · exact h
      have kA : (known (lets (addAll W))).length ≤ 4000 := by
        have h1 := known_len (X := addAll W) fun r hr => (oW r (inA r hr)).1.ans.1
        have h2 := addAll_len W []
        have h3 : (addAll W).length ≤ W.length := by
          have := h2
          simpa [addAll] using this
        omega
      have agA : ∀ r ∈ addAll W, H8 r.1 = none := fun r hr => hW.new r (inA r hr)
      have agZ : ∀ r ∈ Z, ∃ o, H8 r.1 = some o := fun r hr => (hZ.at_ r hr).some
      have agree : Agree Z (addAll W) := agree_new (K := K) (cL := cL) agZ agA
      have z9 : ∀ {Hk : Hp}, Ext H9 Hk → Hk D1 = some (.lst (Z.map fun q => V.ref q.1)) ∧ ∀ r ∈ Z, LetAt K cL Hk r.1 r.2 ∧ r.2.Ok := fun {Hk} e => ⟨(e9.trans e) _ _ hZ.ls, fun r hr => ⟨(hZ.at_ r hr).ext (e9.trans e), (oZ r hr).1⟩⟩
      have w9 : ∀ {Hk : Hp}, Ext H9 Hk → Hk D2 = some (.lst (W.map fun q => V.ref q.1)) ∧ ∀ r ∈ W, LetAt K cL Hk r.1 r.2 ∧ r.2.Ok := fun {Hk} e => ⟨e _ _ hW.ls, fun r hr => ⟨(hW.at_ r hr).ext e, (oW r hr).1⟩⟩
      -- threads and forest
      refine ⟨rfl, _, rfl, D1, Z, rfl, (z9 Ext.rfl').1, (z9 Ext.rfl').2, cons, by omega, fun t Ha DT => ?_⟩
      rw [aZ] at DT
      have ea := DT.old
      refine ⟨rfl, _, rfl, D1, Z, rfl, (z9 ea).1, (z9 ea).2, cons, by omega, fun fo Hb DF => ⟨_, _, rfl, ?_⟩⟩
      rw [aZ] at DF
      have eb := DF.old
      have eab := ea.trans eb
      obtain ⟨dti, dl1, dl2, dl3, hti⟩ := DT.ins
      obtain ⟨dt, fl1, fl2, fl3, fl4, hf⟩ := DF.ins
      have Tb := DT.ext eb
      have htb := eb _ _ hti
      -- equal, both of them
      refine ⟨_, rfl, rfl, _, rfl, D2, W, rfl, (w9 eab).1, (w9 eab).2, consW, by omega, fun t2 Hc DT2 => ?_⟩
      have ec := DT2.old
      obtain ⟨dt2, gl1, gl2, gl3, ht2⟩ := DT2.ins
      have ndA := DT2.nd
      have sL : SameL Z (addAll W) := sameL_of ndZ ndA oldA
      have sF : SameF Z (addAll W) := sameF_of ssA ndZ ndA
      refine ⟨t, dti, _, rfl, ec _ _ htb, ⟨t2, rfl, .inl ⟨cT, dt2, _, ht2, T.fTT⟩⟩, t, t2, Z, H9, rfl, Tb.ext ec, .inl ⟨addAll W, _, Tb, DT2, agree, fun _ => ⟨true, rfl, _, rfl, ?_⟩, fun no => absurd sL no⟩⟩
      have e9c := eab.trans ec
      refine ⟨_, rfl, rfl, _, rfl, D2, W, rfl, (w9 e9c).1, (w9 e9c).2, consW, by omega, fun f2 Hd DF2 => ?_⟩
      have ed := DF2.old
      obtain ⟨df2, kl1, kl2, kl3, kl4, hf2⟩ := DF2.ins
      have Fc := DF.ext ec
      refine ⟨fo, dt, _, rfl, (ec.trans ed) _ _ hf, ⟨f2, rfl, .inl ⟨cF, df2, _, hf2, T.fFF⟩⟩, fo, f2, Z, Ha, rfl, Fc.ext ed, .inl ⟨addAll W, _, Fc, DF2, fun _ => ⟨true, rfl, _, rfl, ?_⟩, fun no => absurd sF no⟩⟩
      -- summaries tell the same
      have e9d := e9c.trans ed
      have ebd := ec.trans ed
      have knZ : ∀ {n : Int}, n ∈ known (lets Z) → NumOk n := fun {n} hn => known_ok hX (by rw [← letsZ]; exact hn)
      have okSum : ∀ L, SumOK (lets Z) L → (∀ e ∈ L, NumOk e.1 ∧ (∀ n ∈ e.2.1, NumOk n) ∧ (∀ n ∈ e.2.2, NumOk n) ∧ e.2.1.length ≤ 144 ∧ e.2.2.length ≤ 144) ∧ L.length ≤ 144 := fun L so => by
        refine ⟨fun e he => ?_, ?_⟩
        · have le := (so.names e.1).mp (List.mem_map.mpr ⟨e, he, rfl⟩)
          have se := so.each e he
          refine ⟨knZ le.1, fun n hn => knZ (come_known ((se.hm n).mp hn).2), fun n hn => knZ ((se.ha n).mp hn).2.1, ?_, ?_⟩
          · exact Nat.le_trans (nodup_le se.me.nodup fun x hx => come_known ((se.hm x).mp hx).2) k144
          · exact Nat.le_trans (nodup_le se.ab.nodup fun x hx => ((se.ha x).mp hx).2.1) k144
        · have := nodup_le (m := known (lets Z)) so.up.nodup fun x hx => ((so.names x).mp hx).1
          rw [List.length_map] at this
          omega
      refine ⟨_, rfl, t, dti, _, rfl, (eb.trans ebd) _ _ hti, rfl, t, Z, H9, rfl, Tb.ext ebd, by omega, fun ps1 He L ee hsum sok => ?_⟩
      obtain ⟨ok1, ok2⟩ := okSum L sok
      obtain ⟨sh1, sh2, sh3⟩ := sum_show fun e he => ⟨(ok1 e he).1, (ok1 e he).2.1, (ok1 e he).2.2.1⟩
      refine ⟨ps1, dSum L, rfl, dp_sum hsum, sh1, sh2, sh3, dSum_ok ok1 ok2, ?_⟩
      have e9e := e9d.trans ee
      refine ⟨rfl, _, rfl, D2, W, rfl, (w9 e9e).1, (w9 e9e).2, consW, by omega, fun t3 Hf DT3 => ?_⟩
      have ef := DT3.old
      obtain ⟨dt3, ml1, ml2, ml3, ht3⟩ := DT3.ins
      refine ⟨t3, dt3, _, rfl, ht3, rfl, t3, addAll W, _, rfl, DT3, kA, fun ps2 Hg L2 eg hsum2 sok2 => ?_⟩
      obtain rfl : L = L2 := SumOK.uniq ssA sok sok2
      refine ⟨ps2, dSum L, rfl, dp_sum hsum2, sh1, sh2, sh3, dSum_ok ok1 ok2, rfl, _, rfl, str_skip rfl ?_⟩
      -- one left out: other threads
      have e9g := (e9e.trans ef).trans eg
      have ebg := ((ebd.trans ee).trans ef).trans eg
      have lZp : 0 < Z.length := by omega
      have dropC : cutV (Z.map fun q => V.ref q.1) (some (1 : Int)) none = (Z.drop 1).map fun q => V.ref q.1 := by
        rw [List.map_drop]
        exact cutV_from _ (j := 1) (by rw [List.length_map]; omega)
      have ndD : (come (lets (Z.drop 1))).Nodup := by
        rw [come_lets, List.map_drop]
        rw [come_lets] at ndZ
        exact (List.drop_sublist _ _).nodup ndZ
      have aD := addAll_id ndD
      have consD : Cons (Z.drop 1) := fun r hr z hz e => cons r (List.mem_of_mem_drop hr) z (List.mem_of_mem_drop hz) e
      refine ⟨_, rfl, rfl, _, rfl, _, rfl, D1, _, rfl, .inl (.inl (z9 e9g).1), fun Ds hDs => ?_⟩
      rw [dropC]
      have xg := Ext.upd (o := .lst ((Z.drop 1).map fun q => V.ref q.1)) hDs
      refine ⟨Ds, Z.drop 1, rfl, upd_same, fun r hr => (z9 (e9g.trans xg)).2 r (List.mem_of_mem_drop hr), consD, by rw [List.length_drop]; omega, fun t4 Hh DT4 => ?_⟩
      rw [aD] at DT4
      have eh := DT4.old
      obtain ⟨dt4, nl1, nl2, nl3, ht4⟩ := DT4.ins
      have xgh := xg.trans eh
      refine ⟨t, dti, _, rfl, ((eb.trans ebg).trans xgh) _ _ hti, ⟨t4, rfl, .inl ⟨cT, dt4, _, ht4, T.fTT⟩⟩, t, t4, Z, H9, rfl, Tb.ext (ebg.trans xgh), .inl ⟨Z.drop 1, _, Tb.ext (ebg.trans xg), DT4, agree_sub hZ.nd (fun q h => h) (fun q h => List.mem_of_mem_drop h), fun same => absurd same.1 (by rw [List.length_drop]; omega), fun _ => ⟨false, rfl, _, rfl, ?_⟩⟩⟩
      -- the walks tell the same
      have e9h := e9g.trans xgh
      have ebh := ebg.trans xgh
      obtain ⟨Fr, iF⟩ := isF_ex Z
      obtain ⟨zs, iw⟩ := walk_whole Fr
      have iFA : IsF (addAll W) Fr := isF_same iF sF
      have lks : Fr.ks.length ≤ 144 := Nat.le_trans (nodup_le Fr.up.nodup fun x hx => (iF.ks x).mp hx) k144
      have lzs : zs.length = Fr.ks.length := iw.len
      have okW : ∀ q ∈ zs, q.1 ≤ 20000 ∧ NumOk q.2 := fun q hq => by
        have hk : q.2 ∈ known (lets Z) := (iF.ks q.2).mp ((iw.mem q.2).mp (List.mem_map.mpr ⟨q, hq, rfl⟩))
        obtain ⟨ps, P1, P2⟩ := iw.deep q hq
        rw [iF.p] at P1
        have := Nat.le_trans (nodup_le P1.nodup fun x hx => path_known (parOf_is _) P1 hk x hx) k144
        exact ⟨by omega, knZ hk⟩
      obtain ⟨wh1, wh2, wh3⟩ := walk_show okW
      have wlen := dWalk_ok okW (by omega)
      refine ⟨rfl, _, rfl, D2, W, rfl, (w9 e9h).1, (w9 e9h).2, consW, by omega, fun f3 Hi DF3 => ?_⟩
      have ei := DF3.old
      obtain ⟨df3, ol1, ol2, ol3, ol4, hf3⟩ := DF3.ins
      refine ⟨f3, df3, _, rfl, hf3, rfl, addAll W, Fr, zs, ⟨⟨_, DF3⟩, iFA⟩, iw, by omega, fun Dw Hj ej hDw it => ?_⟩
      refine ⟨Dw, dWalk zs, rfl, dp_walk it, wh1, wh2, wh3, wlen, ?_⟩
      have ebj := (ebh.trans ei).trans ej
      refine ⟨_, rfl, fo, dt, _, rfl, ebj _ _ hf, rfl, Z, Fr, zs, ⟨⟨_, DF.ext ebj⟩, iF⟩, iw, by omega, fun Dv Hk ek hDv it2 => ?_⟩
      refine ⟨Dv, dWalk zs, rfl, dp_walk it2, wh1, wh2, wh3, wlen, rfl, _, rfl, str_skip rfl ?_⟩
      have e9k := ((e9h.trans ei).trans ej).trans ek
      have ebk := ebj.trans ek
      -- threads are no forest, a forest is no list; the threads fit
      refine ⟨_, rfl, _, rfl, t, dti, _, rfl, (eb.trans ebk) _ _ hti, ⟨fo, rfl, .inl ⟨cF, dt, _, ebk _ _ hf, T.fTF⟩⟩, t, fo, Z, H9, rfl, Tb.ext ebk, .inr ⟨⟨_, _, ebk _ _ hf⟩, false, rfl, _, rfl, ?_⟩⟩
      refine ⟨_, rfl, _, rfl, fo, dt, _, rfl, ebk _ _ hf, rfl, fo, Z, Fr, rfl, ⟨⟨_, DF.ext ebk⟩, iF⟩, fun lp Hl el pa => ?_⟩
      obtain ⟨ws, hws, _⟩ := id pa
      refine ⟨fo, dt, _, rfl, (ebk.trans el) _ _ hf, ⟨lp, rfl, .inr ⟨_, hws, T.fFL⟩⟩, fo, lp, Z, Ha, rfl, DF.ext (ebk.trans el), .inr ⟨⟨_, hws⟩, false, rfl, _, rfl, ?_⟩⟩
      have ebl := ebk.trans el
      have e9l := e9k.trans el
      refine ⟨_, rfl, _, rfl, t, p, X, Z, H9, rfl, Tb.ext ebl, letsZ, hX9.ext e9l, ndX, by omega, fun Hm em => ⟨true, rfl, ?_⟩⟩
      have e9m := e9l.trans em
      have ebm := ebl.trans em
      -- the last row, the forest of fewer
      obtain ⟨Xi, ql, eX⟩ : ∃ Xi ql, X = Xi ++ [ql] := by
        refine ⟨X.dropLast, X.getLast (fun z => by rw [z] at lX; simp at lX; omega), ?_⟩
        exact (List.dropLast_concat_getLast _).symm
      obtain ⟨Zi, zl, eZ⟩ : ∃ Zi zl, Z = Zi ++ [zl] := by
        refine ⟨Z.dropLast, Z.getLast (fun z => by rw [z] at lZp; simp at lZp), ?_⟩
        exact (List.dropLast_concat_getLast _).symm
      have ezl : zl.2 = ql.2 := by
        rw [eX, eZ, List.map_append, List.map_append] at hM
        exact List.singleton_inj.mp (List.append_inj' hM rfl).2
      have hXm := hX9.ext e9m
      have qlm : ql ∈ X := by rw [eX]; simp
      have zlm : zl ∈ Z := by rw [eZ]; simp
      refine ⟨_, rfl, _, rfl, .inl ⟨p, _, _, .ref ql.1, rfl, rfl, .inl (.inl hXm.ls), by rw [eX, List.map_append]; exact atI_last _ _, ?_⟩⟩
      refine ⟨rfl, _, rfl, _, rfl, D1, _, rfl, .inl (.inl (z9 e9m).1), fun Ds2 hDs2 => ?_⟩
      rw [dropC]
      have xm := Ext.upd (o := .lst ((Z.drop 1).map fun q => V.ref q.1)) hDs2
      refine ⟨Ds2, Z.drop 1, rfl, upd_same, fun r hr => (z9 (e9m.trans xm)).2 r (List.mem_of_mem_drop hr), consD, by rw [List.length_drop]; omega, fun f4 Hn DF4 => ⟨_, _, rfl, ?_⟩⟩
      rw [aD] at DF4
      have en := DF4.old
      obtain ⟨df4, pl1, pl2, pl3, pl4, hf4⟩ := DF4.ins
      have e9n := e9m.trans (xm.trans en)
      have ebn := ebm.trans (xm.trans en)
      -- another subject in the last letter
      refine ⟨_, rfl, _, rfl, _, rfl, D1, _, rfl, .inl (.inl (z9 e9n).1), fun m1 hm1 => ?_⟩
      rw [cut_last _ (by rw [List.length_map]; exact lZp)]
      have y1 := Ext.upd (o := .lst (Z.map fun q => V.ref q.1).dropLast) hm1
      obtain ⟨tl, hl1, hl2⟩ := (hX9.ext (e9n.trans y1)).row ql qlm
      have sqr := row_sq (K := K) hl1
      refine ⟨_, rfl, .inr <| .inl ⟨ql.1, _, 0, _, rfl, rfl, sqr, rfl, _, rfl, .inr <| .inl ⟨ql.1, _, 1, _, rfl, rfl, sqr, rfl, _, rfl, .inr <| .inl ⟨ql.1, _, 2, _, rfl, rfl, sqr, rfl, ?_⟩⟩⟩⟩
      refine ⟨_, rfl, .inr <| .inl ⟨ql.1, _, 3, _, rfl, rfl, sqr, rfl, tl, _, rfl, .inr (.inl (.inl hl2)), fun la hla => ?_⟩⟩
      have y2 := Ext.upd (o := .lst (ql.2.ans.map V.int)) hla
      refine ⟨(by show 1 ≤ sizeLine; decide), fun lsb hlsb => ⟨rfl, rfl, fun x dx hx hdx ne => ?_⟩⟩
      have y3 := Ext.upd (o := .lst [V.str "z"]) hlsb
      have lax : la ≠ x := fun z => by rw [← z] at hx; rw [y3 _ _ upd_same] at hx; cases hx
      have ladx : la ≠ dx := fun z => by rw [← z] at hdx; rw [y3 _ _ upd_same] at hdx; cases hdx
      have lsx : lsb ≠ x := fun z => by rw [← z, upd_same] at hx; cases hx
      have lsdx : lsb ≠ dx := fun z => by rw [← z, upd_same] at hdx; cases hdx
      obtain ⟨okl, sub0⟩ := hX.ok ql qlm
      have okL : LD.Ok { ql.2 with subj := ["z"] } := ⟨okl.num, okl.person, okl.house, okl.ans, by show 1 ≤ 8; decide, fun z hz => by
        rw [List.mem_singleton.mp hz]
        exact ⟨by decide +kernel, by decide +kernel, by decide +kernel⟩⟩
      refine ⟨x, dx, la, lsb, e3', { ql.2 with subj := ["z"] }, rfl, upd_same, by rw [upd_ne lax, upd_ne ladx]; exact y3 _ _ upd_same, .inl (by rw [upd_ne lsx, upd_ne lsdx]; exact upd_same), m3, okL, fun Ho hL eL => ⟨rfl, ?_⟩⟩
      have yo : Ext Hn Ho := ext_made hx hdx ((y1.trans y2).trans y3) eL
      have y1o : Ext (upd Hn m1 (.lst (Z.map fun q => V.ref q.1).dropLast)) Ho := ext_made hx hdx (y2.trans y3) eL
      refine ⟨(by show 1 ≤ sizeLine; decide), fun m2 hm2 => ?_⟩
      have y4 := Ext.upd (o := .lst [V.ref x]) hm2
      refine ⟨m1, m2, _, _, rfl, rfl, y4 _ _ (y1o _ _ upd_same), upd_same, by rw [List.length_dropLast, List.length_map, sizeLine_eq]; simp only [List.length_cons, List.length_nil]; omega, fun m4 hm4 => ?_⟩
      have y5 := Ext.upd (o := .lst ((Z.map fun q => V.ref q.1).dropLast ++ [V.ref x])) hm4
      have yy := (yo.trans y4).trans y5
      generalize hHp : upd _ m4 _ = Hp' at yy
      have hm4p : Hp' m4 = some (.lst ((Zi ++ [(x, ({ ql.2 with subj := ["z"] } : LD))]).map fun q => V.ref q.1)) := by
        rw [← hHp, List.map_append, upd_same, eZ, List.map_append]
        simp
      have hLp : LetAt K cL Hp' x { ql.2 with subj := ["z"] } := by
        rw [← hHp]
        exact (hL.ext y4).ext y5
      have e9p := e9n.trans yy
      have ebp := ebn.trans yy
      have ziZ : ∀ r ∈ Zi, r ∈ Z := fun r hr => by rw [eZ]; exact List.mem_append_left _ hr
      have okC : ∀ r ∈ Zi ++ [(x, ({ ql.2 with subj := ["z"] } : LD))], LetAt K cL Hp' r.1 r.2 ∧ r.2.Ok := fun r hr => by
        rcases List.mem_append.mp hr with h | h
        · exact (z9 e9p).2 r (ziZ r h)
        · rw [List.mem_singleton.mp h]; exact ⟨hLp, okL⟩
      have letsC : lets (Zi ++ [(x, ({ ql.2 with subj := ["z"] } : LD))]) = lets Z := by
        rw [eZ]
        unfold lets
        rw [List.map_append, List.map_append, List.map_cons, List.map_cons, ezl]
      have ndC : (come (lets (Zi ++ [(x, ({ ql.2 with subj := ["z"] } : LD))]))).Nodup := by rw [letsC]; exact ndZ
      have aC := addAll_id ndC
      have consC : Cons (Zi ++ [(x, ({ ql.2 with subj := ["z"] } : LD))]) := fun r hr z hz e => by
        rw [come_lets] at ndC
        rw [map_nd_inj ndC hr hz e]
      have lC : (Zi ++ [(x, ({ ql.2 with subj := ["z"] } : LD))]).length ≤ 1300 := by
        have := congrArg List.length eZ
        rw [List.length_append, List.length_singleton] at this ⊢
        omega
      have noL : ¬ SameL Z (Zi ++ [(x, ({ ql.2 with subj := ["z"] } : LD))]) := fun same => by
        obtain ⟨p', hp'⟩ := same.2 zl zlm
        rcases List.mem_append.mp hp' with h | h
        · have nd := ndZ
          rw [come_lets, eZ, List.map_append] at nd
          exact (List.nodup_append.mp nd).2.2 zl.2.num (List.mem_map.mpr ⟨_, h, rfl⟩) zl.2.num (List.mem_singleton.mpr rfl) rfl
        · have e := congrArg (fun q : Addr × LD => q.2.subj) (List.mem_singleton.mp h)
          have e : zl.2.subj = ([("z" : Str)] : List Str) := e
          rw [ezl, sub0] at e
          cases e
      have hxn : Hn x = none := Ext.none (y1.trans (y2.trans y3)) hx
      have agC : Agree Z (Zi ++ [(x, ({ ql.2 with subj := ["z"] } : LD))]) := fun r hr z hz e => by
        rcases List.mem_append.mp hz with h | h
        · rw [map_nd_inj hZ.nd hr (ziZ z h) e]
        · have ez := List.mem_singleton.mp h
          obtain ⟨o, ho⟩ := ((z9 e9n).2 r hr).1.some
          rw [e, ez] at ho
          rw [show ((x, ({ ql.2 with subj := ["z"] } : LD)) : Addr × LD).1 = x from rfl, hxn] at ho
          cases ho
      refine ⟨_, rfl, rfl, _, rfl, m4, _, rfl, hm4p, okC, consC, lC, fun t5 Hq DT5 => ?_⟩
      rw [aC] at DT5
      have eq5 := DT5.old
      obtain ⟨dt5, ql1, ql2, ql3, ht5⟩ := DT5.ins
      refine ⟨t, dti, _, rfl, ((eb.trans ebp).trans eq5) _ _ hti, ⟨t5, rfl, .inl ⟨cT, dt5, _, ht5, T.fTT⟩⟩, t, t5, Z, H9, rfl, Tb.ext (ebp.trans eq5), .inl ⟨_, _, Tb.ext ebp, DT5, agC, fun same => absurd same noL, fun _ => ⟨false, rfl, _, rfl, ?_⟩⟩⟩
      have ebq := ebp.trans eq5
      have e9q := e9p.trans eq5
      refine ⟨_, rfl, rfl, _, rfl, m4, _, rfl, eq5 _ _ hm4p, fun r hr => ⟨(okC r hr).1.ext eq5, (okC r hr).2⟩, consC, lC, fun f5 Hr DF5 => ?_⟩
      rw [aC] at DF5
      have er := DF5.old
      obtain ⟨df5, rl1, rl2, rl3, rl4, hf5⟩ := DF5.ins
      have sFC : SameF Z (Zi ++ [(x, ({ ql.2 with subj := ["z"] } : LD))]) := ⟨fun n => by rw [letsC], by unfold pr; rw [letsC]⟩
      refine ⟨fo, dt, _, rfl, (ebq.trans er) _ _ hf, ⟨f5, rfl, .inl ⟨cF, df5, _, hf5, T.fFF⟩⟩, fo, f5, Z, Ha, rfl, DF.ext (ebq.trans er), .inl ⟨_, _, DF.ext ebq, DF5, fun _ => ⟨true, rfl, _, rfl, ?_⟩, fun no => absurd sFC no⟩⟩
      have ebr := ebq.trans er
      have e9r := e9q.trans er
      -- forests are equal exactly if their summaries are
      have enr : Ext Hn Hr := (yy.trans eq5).trans er
      have DF4r := DF4.ext enr
      obtain ⟨Fq, iFq⟩ := isF_ex (Z.drop 1)
      have iff_ := sameF_iff iF iFq
      have scr : ∀ {Hs : Hp}, Ext Hr Hs → SqL K Hs a (ns.map V.int) := fun {Hs} es => sqL_bag hSi hb0 ((e07.trans (.of (Ext.trans (fun a o h => e8 a o h) e9))).trans (.of ((eab.trans ebr).trans es)))
      refine ⟨_, rfl, _, rfl, fo, dt, _, rfl, ebr _ _ hf, ⟨f4, rfl, .inl ⟨cF, df4, _, enr _ _ hf4, T.fFF⟩⟩, fo, f4, Z, Ha, rfl, DF.ext ebr, .inl ⟨Z.drop 1, _, DF.ext (ebm.trans xm), DF4r, fun same => ⟨true, rfl, ?_⟩, fun no => ⟨false, rfl, ?_⟩⟩⟩
      · refine ⟨_, rfl, fo, dt, _, rfl, ebr _ _ hf, rfl, fo, Z, Fr, rfl, ⟨⟨_, DF.ext ebr⟩, iF⟩, fun lq1 Hs es pa1 => ?_⟩
        refine ⟨_, rfl, f4, df4, _, rfl, (enr.trans es) _ _ hf4, rfl, f4, Z.drop 1, Fq, rfl, ⟨⟨_, DF4r.ext es⟩, iFq⟩, fun lq2 Ht et pa2 => ?_⟩
        refine ⟨sumF Fr, sumF Fq, hd_pairs (pa1.ext et), hd_pairs pa2, rfl, _, rfl, bl_skip (decide_eq_true (iff_.mp same)).symm ?_⟩
        refine ⟨_, rfl, _, rfl, _, rfl, fo, t, p, X, Z, Z, Ha, H9, rfl, DF.ext (ebr.trans (es.trans et)), Tb.ext (ebr.trans (es.trans et)), letsZ, letsZ, hX9.ext (e9r.trans (es.trans et)), ndX, by omega, fun H' e' => ⟨true, rfl, ?_⟩⟩
        exact ⟨_, _, _, _, _, _, _, _, _, _, _, rfl, scr ((es.trans et).trans e')⟩
      · refine ⟨_, rfl, fo, dt, _, rfl, ebr _ _ hf, rfl, fo, Z, Fr, rfl, ⟨⟨_, DF.ext ebr⟩, iF⟩, fun lq1 Hs es pa1 => ?_⟩
        refine ⟨_, rfl, f4, df4, _, rfl, (enr.trans es) _ _ hf4, rfl, f4, Z.drop 1, Fq, rfl, ⟨⟨_, DF4r.ext es⟩, iFq⟩, fun lq2 Ht et pa2 => ?_⟩
        refine ⟨sumF Fr, sumF Fq, hd_pairs (pa1.ext et), hd_pairs pa2, rfl, _, rfl, bl_skip (decide_eq_false fun z => no (iff_.mpr z)).symm ?_⟩
        refine ⟨_, rfl, _, rfl, _, rfl, fo, t, p, X, Z, Z, Ha, H9, rfl, DF.ext (ebr.trans (es.trans et)), Tb.ext (ebr.trans (es.trans et)), letsZ, letsZ, hX9.ext (e9r.trans (es.trans et)), ndX, by omega, fun H' e' => ⟨true, rfl, ?_⟩⟩
        exact ⟨_, _, _, _, _, _, _, _, _, _, _, rfl, scr ((es.trans et).trans e')⟩
end
end K9
set_option Elab.async false
set_option linter.all false
set_option maxRecDepth 100000
set_option maxHeartbeats 16000000
/-! EN: what the top has written, all of it; the law's walk (printed by gen_end.py). -/
namespace K9
open PySem PySem.Spec PyProof.Rows L2 SX
theorem kit_no {K : PySem.W.Frag} {t : Value} {C : Addr} (ne : (t == Value.ref C) = false) (ic : PySem.W.isClsIn K C = true) (ty : PySem.W.typeIn K (.ref C) = some (.type "type")) (su : PySem.W.subIn K t (.ref C) = some false) : PySem.W.kitOne K t (.ref C) = some false := by
  unfold PySem.W.kitOne
  rw [if_neg (by rw [ne]; exact Bool.false_ne_true)]
  unfold PySem.W.kitCls
  have h : ((PySem.W.clsIn K C).isSome && PySem.W.typeIn K (.ref C) == some (.type "type")) = true := by
    rw [ty]
    have z : (PySem.W.clsIn K C).isSome = true := ic
    rw [z]
    decide +kernel
  show (if ((PySem.W.clsIn K C).isSome && PySem.W.typeIn K (.ref C) == some (.type "type")) = true then PySem.W.subIn K t (.ref C) else none) = some false
  rw [if_pos h]
  exact su
theorem all_mk {l : PySem.W.OpenLaw} {w : World} {K : PySem.W.Frag} {h : Heap} {mg : Str → Option Value} {fa cL cG cT cF : Addr} (X : K.In h) (N : h.Ns mainGlobals mg) (hfa : mg "law" = some (.ref fa))
    {sg : Str} {tsg : Tok}
    {i_MOST_SIGNS : Int} {t_MOST_SIGNS : Tok}
    {i_MOST_NUMBER : Int} {t_MOST_NUMBER : Tok}
    {i_ANSWERS_IN_ROW : Int} {t_ANSWERS_IN_ROW : Tok}
    {i_SUBJECT_IN_ROW : Int} {t_SUBJECT_IN_ROW : Tok}
    {i_WORDS_IN_ROW : Int} {t_WORDS_IN_ROW : Tok}
    {vA : Int} {vtA : Tok}
    {vS : Int} {vtS : Tok}
    {vW : Int} {vtW : Tok}
    {pT : Addr} {restT : List Value}
    {pF : Addr} {restF : List Value}
    {fFInit : Addr} {ocFInit dcFInit pmFInit cdFInit ctFInit : Value} {odFInit anFInit : Option Addr} {slFInit : Array (Option Value)}
    {kVFInit : Value}
    {fFOf : Addr} {ocFOf dcFOf pmFOf cdFOf ctFOf : Value} {odFOf anFOf : Option Addr} {slFOf : Array (Option Value)}
    {kVFOf : Value}
    {fFPut : Addr} {ocFPut dcFPut pmFPut cdFPut ctFPut : Value} {odFPut anFPut : Option Addr} {slFPut : Array (Option Value)}
    {kVFPut : Value}
    {fFCr : Addr} {ocFCr dcFCr pmFCr cdFCr ctFCr : Value} {odFCr anFCr : Option Addr} {slFCr : Array (Option Value)}
    {kVFCr : Value}
    {fFCut : Addr} {ocFCut dcFCut pmFCut cdFCut ctFCut : Value} {odFCut anFCut : Option Addr} {slFCut : Array (Option Value)}
    {kVFCut : Value}
    {fFPar : Addr} {ocFPar dcFPar pmFPar cdFPar ctFPar : Value} {odFPar anFPar : Option Addr} {slFPar : Array (Option Value)}
    {kVFPar : Value}
    {fFPath : Addr} {ocFPath dcFPath pmFPath cdFPath ctFPath : Value} {odFPath anFPath : Option Addr} {slFPath : Array (Option Value)}
    {kVFPath : Value}
    {fFRoot : Addr} {ocFRoot dcFRoot pmFRoot cdFRoot ctFRoot : Value} {odFRoot anFRoot : Option Addr} {slFRoot : Array (Option Value)}
    {kVFRoot : Value}
    {fFDep : Addr} {ocFDep dcFDep pmFDep cdFDep ctFDep : Value} {odFDep anFDep : Option Addr} {slFDep : Array (Option Value)}
    {kVFDep : Value}
    {fFChi : Addr} {ocFChi dcFChi pmFChi cdFChi ctFChi : Value} {odFChi anFChi : Option Addr} {slFChi : Array (Option Value)}
    {kVFChi : Value}
    {fFRts : Addr} {ocFRts dcFRts pmFRts cdFRts ctFRts : Value} {odFRts anFRts : Option Addr} {slFRts : Array (Option Value)}
    {kVFRts : Value}
    {fFRing : Addr} {ocFRing dcFRing pmFRing cdFRing ctFRing : Value} {odFRing anFRing : Option Addr} {slFRing : Array (Option Value)}
    {kVFRing : Value}
    {fFSum : Addr} {ocFSum dcFSum pmFSum cdFSum ctFSum : Value} {odFSum anFSum : Option Addr} {slFSum : Array (Option Value)}
    {kVFSum : Value}
    {fFDrw : Addr} {ocFDrw dcFDrw pmFDrw cdFDrw ctFDrw : Value} {odFDrw anFDrw : Option Addr} {slFDrw : Array (Option Value)}
    {kVFDrw : Value}
    {fFLen : Addr} {ocFLen dcFLen pmFLen cdFLen ctFLen : Value} {odFLen anFLen : Option Addr} {slFLen : Array (Option Value)}
    {kVFLen : Value}
    {fFEq : Addr} {ocFEq dcFEq pmFEq cdFEq ctFEq : Value} {odFEq anFEq : Option Addr} {slFEq : Array (Option Value)}
    {kVFEq : Value}
    {fIsName : Addr} {ocIsName dcIsName pmIsName cdIsName ctIsName : Value} {odIsName anIsName : Option Addr} {slIsName : Array (Option Value)}
    {kVIsName : Value}
    {fIsNum : Addr} {ocIsNum dcIsNum pmIsNum cdIsNum ctIsNum : Value} {odIsNum anIsNum : Option Addr} {slIsNum : Array (Option Value)}
    {kVIsNum : Value}
    {fAreN : Addr} {ocAreN dcAreN pmAreN cdAreN ctAreN : Value} {odAreN anAreN : Option Addr} {slAreN : Array (Option Value)}
    {kVAreN : Value}
    {fLInit : Addr} {ocLInit dcLInit pmLInit cdLInit ctLInit : Value} {odLInit anLInit : Option Addr} {slLInit : Array (Option Value)}
    {fLEq : Addr} {ocLEq dcLEq pmLEq cdLEq ctLEq : Value} {odLEq anLEq : Option Addr} {slLEq : Array (Option Value)}
    {kVLEq : Value}
    {fFitsA : Addr} {ocFitsA dcFitsA pmFitsA cdFitsA ctFitsA : Value} {odFitsA anFitsA : Option Addr} {slFitsA : Array (Option Value)}
    {kVFitsA : Value}
    {fWrap : Addr} {ocWrap dcWrap pmWrap cdWrap ctWrap : Value} {odWrap anWrap : Option Addr} {slWrap : Array (Option Value)}
    {kVWrap : Value}
    {fBody : Addr} {ocBody dcBody pmBody cdBody ctBody : Value} {odBody anBody : Option Addr} {slBody : Array (Option Value)}
    {kVBody : Value}
    {fGInit : Addr} {ocGInit dcGInit pmGInit cdGInit ctGInit : Value} {odGInit anGInit : Option Addr} {slGInit : Array (Option Value)}
    {kVGInit : Value}
    {fTInit : Addr} {ocTInit dcTInit pmTInit cdTInit ctTInit : Value} {odTInit anTInit : Option Addr} {slTInit : Array (Option Value)}
    {kVTInit : Value}
    {fTOf : Addr} {ocTOf dcTOf pmTOf cdTOf ctTOf : Value} {odTOf anTOf : Option Addr} {slTOf : Array (Option Value)}
    {kVTOf : Value}
    {fTPut : Addr} {ocTPut dcTPut pmTPut cdTPut ctTPut : Value} {odTPut anTPut : Option Addr} {slTPut : Array (Option Value)}
    {kVTPut : Value}
    {fTHas : Addr} {ocTHas dcTHas pmTHas cdTHas ctTHas : Value} {odTHas anTHas : Option Addr} {slTHas : Array (Option Value)}
    {kVTHas : Value}
    {fTGrp : Addr} {ocTGrp dcTGrp pmTGrp cdTGrp ctTGrp : Value} {odTGrp anTGrp : Option Addr} {slTGrp : Array (Option Value)}
    {kVTGrp : Value}
    {fTMrg : Addr} {ocTMrg dcTMrg pmTMrg cdTMrg ctTMrg : Value} {odTMrg anTMrg : Option Addr} {slTMrg : Array (Option Value)}
    {kVTMrg : Value}
    {fTNam : Addr} {ocTNam dcTNam pmTNam cdTNam ctTNam : Value} {odTNam anTNam : Option Addr} {slTNam : Array (Option Value)}
    {kVTNam : Value}
    {fTMem : Addr} {ocTMem dcTMem pmTMem cdTMem ctTMem : Value} {odTMem anTMem : Option Addr} {slTMem : Array (Option Value)}
    {kVTMem : Value}
    {fTAbs : Addr} {ocTAbs dcTAbs pmTAbs cdTAbs ctTAbs : Value} {odTAbs anTAbs : Option Addr} {slTAbs : Array (Option Value)}
    {kVTAbs : Value}
    {fTNms : Addr} {ocTNms dcTNms pmTNms cdTNms ctTNms : Value} {odTNms anTNms : Option Addr} {slTNms : Array (Option Value)}
    {kVTNms : Value}
    {fTSum : Addr} {ocTSum dcTSum pmTSum cdTSum ctTSum : Value} {odTSum anTSum : Option Addr} {slTSum : Array (Option Value)}
    {kVTSum : Value}
    {fTEq : Addr} {ocTEq dcTEq pmTEq cdTEq ctTEq : Value} {odTEq anTEq : Option Addr} {slTEq : Array (Option Value)}
    {kVTEq : Value}
    {fBag : Addr} {ocBag dcBag pmBag cdBag ctBag : Value} {odBag anBag : Option Addr} {slBag : Array (Option Value)}
    {kVBag : Value}
    {fTake : Addr} {ocTake dcTake pmTake cdTake ctTake : Value} {odTake anTake : Option Addr} {slTake : Array (Option Value)}
    {kVTake : Value}
    {fName : Addr} {ocName dcName pmName cdName ctName : Value} {odName anName : Option Addr} {slName : Array (Option Value)}
    {kVName : Value}
    {fPool : Addr} {ocPool dcPool pmPool cdPool ctPool : Value} {odPool anPool : Option Addr} {slPool : Array (Option Value)}
    {kVPool : Value}
    {fRows : Addr} {ocRows dcRows pmRows cdRows ctRows : Value} {odRows anRows : Option Addr} {slRows : Array (Option Value)}
    {kVRows : Value}
    {fLet : Addr} {ocLet dcLet pmLet cdLet ctLet : Value} {odLet anLet : Option Addr} {slLet : Array (Option Value)}
    {kVLet : Value}
    {fTurn : Addr} {ocTurn dcTurn pmTurn cdTurn ctTurn : Value} {odTurn anTurn : Option Addr} {slTurn : Array (Option Value)}
    {kVTurn : Value}
    {fMix : Addr} {ocMix dcMix pmMix cdMix ctMix : Value} {odMix anMix : Option Addr} {slMix : Array (Option Value)}
    {kVMix : Value}
    {fTFit : Addr} {ocTFit dcTFit pmTFit cdTFit ctTFit : Value} {odTFit anTFit : Option Addr} {slTFit : Array (Option Value)}
    {kVTFit : Value}
    {fHang : Addr} {ocHang dcHang pmHang cdHang ctHang : Value} {odHang anHang : Option Addr} {slHang : Array (Option Value)}
    {kVHang : Value}
    {fFFit : Addr} {ocFFit dcFFit pmFFit cdFFit ctFFit : Value} {odFFit anFFit : Option Addr} {slFFit : Array (Option Value)}
    {kVFFit : Value}
    {fMany : Addr} {ocMany dcMany pmMany cdMany ctMany : Value} {odMany anMany : Option Addr} {slMany : Array (Option Value)}
    {kVMany : Value}
    {fLaw : Addr} {ocLaw dcLaw pmLaw cdLaw ctLaw : Value} {odLaw anLaw : Option Addr} {slLaw : Array (Option Value)}
    {kVLaw : Value}
    {fWalk : Addr} {ocWalk dcWalk pmWalk cdWalk ctWalk : Value} {odWalk anWalk : Option Addr} {slWalk : Array (Option Value)}
    {kVWalk : Value}
    {kD e1 e2 e3 : Addr} {dd2 dd3 : Option Addr} {en2 en3 : Nat} {es2 es3 : Array (Option Value)}
    (mL : PySem.W.nsIn K mainGlobals "Letter" = some (some (.ref cL)))
    (pgL : PySem.W.plainGet K cL Str.empty = true)
    (hdL : PySem.W.hasDictIn K cL = true)
    (poL : PySem.W.plainOver K cL = true)
    (saL : PySem.W.findIn K (.ref cL) "__setattr__" = some (some (.builtin "object.__setattr__")))
    (haL : PySem.W.findIn K (.ref cL) "__class__" = some (some (.builtin "object.__class__")))
    (hmL : PySem.W.mroIn K cL (.type "object") = some true)
    (mkL : PySem.W.makesIn K cL = true)
    (kcL : PySem.W.keepIn K (.ref cL) = true)
    (nL_number : PySem.W.findIn K (.ref cL) "number" = some none)
    (nL_person : PySem.W.findIn K (.ref cL) "person" = some none)
    (nL_house : PySem.W.findIn K (.ref cL) "house" = some none)
    (nL_sender : PySem.W.findIn K (.ref cL) "sender" = some none)
    (nL_answers : PySem.W.findIn K (.ref cL) "answers" = some none)
    (nL_subject : PySem.W.findIn K (.ref cL) "subject" = some none)
    (nL_words : PySem.W.findIn K (.ref cL) "words" = some none)
    (nL_text : PySem.W.findIn K (.ref cL) "text" = some none)
    (mG : PySem.W.nsIn K mainGlobals "Group" = some (some (.ref cG)))
    (pgG : PySem.W.plainGet K cG Str.empty = true)
    (hdG : PySem.W.hasDictIn K cG = true)
    (poG : PySem.W.plainOver K cG = true)
    (saG : PySem.W.findIn K (.ref cG) "__setattr__" = some (some (.builtin "object.__setattr__")))
    (haG : PySem.W.findIn K (.ref cG) "__class__" = some (some (.builtin "object.__class__")))
    (hmG : PySem.W.mroIn K cG (.type "object") = some true)
    (mkG : PySem.W.makesIn K cG = true)
    (kcG : PySem.W.keepIn K (.ref cG) = true)
    (nG_known : PySem.W.findIn K (.ref cG) "known" = some none)
    (nG_lowest : PySem.W.findIn K (.ref cG) "lowest" = some none)
    (mT : PySem.W.nsIn K mainGlobals "Threads" = some (some (.ref cT)))
    (pgT : PySem.W.plainGet K cT Str.empty = true)
    (hdT : PySem.W.hasDictIn K cT = true)
    (poT : PySem.W.plainOver K cT = true)
    (saT : PySem.W.findIn K (.ref cT) "__setattr__" = some (some (.builtin "object.__setattr__")))
    (haT : PySem.W.findIn K (.ref cT) "__class__" = some (some (.builtin "object.__class__")))
    (hmT : PySem.W.mroIn K cT (.type "object") = some true)
    (mkT : PySem.W.makesIn K cT = true)
    (kcT : PySem.W.keepIn K (.ref cT) = true)
    (nT_letters : PySem.W.findIn K (.ref cT) "letters" = some none)
    (nT_order : PySem.W.findIn K (.ref cT) "order" = some none)
    (nT_groups : PySem.W.findIn K (.ref cT) "groups" = some none)
    (mF : PySem.W.nsIn K mainGlobals "Forest" = some (some (.ref cF)))
    (pgF : PySem.W.plainGet K cF Str.empty = true)
    (hdF : PySem.W.hasDictIn K cF = true)
    (poF : PySem.W.plainOver K cF = true)
    (saF : PySem.W.findIn K (.ref cF) "__setattr__" = some (some (.builtin "object.__setattr__")))
    (haF : PySem.W.findIn K (.ref cF) "__class__" = some (some (.builtin "object.__class__")))
    (hmF : PySem.W.mroIn K cF (.type "object") = some true)
    (mkF : PySem.W.makesIn K cF = true)
    (kcF : PySem.W.keepIn K (.ref cF) = true)
    (nF_letters : PySem.W.findIn K (.ref cF) "letters" = some none)
    (nF_above : PySem.W.findIn K (.ref cF) "above" = some none)
    (nF_below : PySem.W.findIn K (.ref cF) "below" = some none)
    (nF_rings : PySem.W.findIn K (.ref cF) "rings" = some none)
    (z_isinstance : PySem.W.nsIn K mainGlobals "isinstance" = some none)
    (z_len : PySem.W.nsIn K mainGlobals "len" = some none)
    (z_all : PySem.W.nsIn K mainGlobals "all" = some none)
    (z_set : PySem.W.nsIn K mainGlobals "set" = some none)
    (z_range : PySem.W.nsIn K mainGlobals "range" = some none)
    (z_enumerate : PySem.W.nsIn K mainGlobals "enumerate" = some none)
    (z_str : PySem.W.nsIn K mainGlobals "str" = some none)
    (z_list : PySem.W.nsIn K mainGlobals "list" = some none)
    (z_tuple : PySem.W.nsIn K mainGlobals "tuple" = some none)
    (z_int : PySem.W.nsIn K mainGlobals "int" = some none)
    (z_bool : PySem.W.nsIn K mainGlobals "bool" = some none)
    (z_max : PySem.W.nsIn K mainGlobals "max" = some none)
    (z_min : PySem.W.nsIn K mainGlobals "min" = some none)
    (z_sorted : PySem.W.nsIn K mainGlobals "sorted" = some none)
    (z_reversed : PySem.W.nsIn K mainGlobals "reversed" = some none)
    (z_sum : PySem.W.nsIn K mainGlobals "sum" = some none)
    (z_abs : PySem.W.nsIn K mainGlobals "abs" = some none)
    (z_repr : PySem.W.nsIn K mainGlobals "repr" = some none)
    (asg : PySem.W.nsIn K mainGlobals "SIGNS" = some (some (.str sg tsg)))
    (a_MOST_SIGNS : PySem.W.nsIn K mainGlobals "MOST_SIGNS" = some (some (.int i_MOST_SIGNS t_MOST_SIGNS)))
    (a_MOST_NUMBER : PySem.W.nsIn K mainGlobals "MOST_NUMBER" = some (some (.int i_MOST_NUMBER t_MOST_NUMBER)))
    (a_ANSWERS_IN_ROW : PySem.W.nsIn K mainGlobals "ANSWERS_IN_ROW" = some (some (.int i_ANSWERS_IN_ROW t_ANSWERS_IN_ROW)))
    (a_SUBJECT_IN_ROW : PySem.W.nsIn K mainGlobals "SUBJECT_IN_ROW" = some (some (.int i_SUBJECT_IN_ROW t_SUBJECT_IN_ROW)))
    (a_WORDS_IN_ROW : PySem.W.nsIn K mainGlobals "WORDS_IN_ROW" = some (some (.int i_WORDS_IN_ROW t_WORDS_IN_ROW)))
    (hn : PySem.W.specialIn K (.builtin "object.__class__") "__get__" = some (some (.builtin "getset_descriptor.__get__")))
    (htk : PySem.W.takesIn K (.builtin "object.__class__") = some true)
    (rdL : PySem.W.readsIn K cL (.type "type") = true)
    (gaL : PySem.W.specialIn K (.ref cL) "__getattribute__" = some (some (.builtin "type.__getattribute__")))
    (rdT : PySem.W.readsIn K cT (.type "type") = true)
    (gaT : PySem.W.specialIn K (.ref cT) "__getattribute__" = some (some (.builtin "type.__getattribute__")))
    (rdF : PySem.W.readsIn K cF (.type "type") = true)
    (gaF : PySem.W.specialIn K (.ref cF) "__getattribute__" = some (some (.builtin "type.__getattribute__")))
    (cvA : PySem.W.findCls K (.ref cL) (.type "type") "MOST_ANSWERS" = some (.val (.int vA vtA)))
    (cvS : PySem.W.findCls K (.ref cL) (.type "type") "MOST_SUBJECT" = some (.val (.int vS vtS)))
    (cvW : PySem.W.findCls K (.ref cL) (.type "type") "MOST_WORDS" = some (.val (.int vW vtW)))
    (icT : PySem.W.isClsIn K cT = true)
    (tyT : PySem.W.typeIn K (.ref cT) = some (.type "type"))
    (icF : PySem.W.isClsIn K cF = true)
    (tyF : PySem.W.typeIn K (.ref cF) = some (.type "type"))
    (suFT : PySem.W.subIn K (.ref cF) (.ref cT) = some false)
    (suLF : PySem.W.subIn K (.type "list") (.ref cF) = some false)
    (fLL : PySem.W.notFirst K cL (.ref cL) = true)
    (fTT : PySem.W.notFirst K cT (.ref cT) = true)
    (fTF : PySem.W.notFirst K cT (.ref cF) = true)
    (fFF : PySem.W.notFirst K cF (.ref cF) = true)
    (fFL : PySem.W.notFirst K cF (.type "list") = true)
    (cmT : PySem.W.findCls K (.ref cT) (.type "type") "of" = some (.get (.builtin "classmethod.__get__") (.ref pT) .none (.ref cT)))
    (rcT : PySem.W.recIn K pT "classmethod" = some (.ref fTOf :: restT))
    (fiT : PySem.W.fnIn K fTOf = true)
    (cmF : PySem.W.findCls K (.ref cF) (.type "type") "of" = some (.get (.builtin "classmethod.__get__") (.ref pF) .none (.ref cF)))
    (rcF : PySem.W.recIn K pF "classmethod" = some (.ref fFOf :: restF))
    (fiF : PySem.W.fnIn K fFOf = true)
    (aFInit : PySem.W.findIn K (.ref cF) "__init__" = some (some (.ref fFInit)))
    (iFInit : PySem.W.isFn K (.ref fFInit) = true)
    (lFInit : K.lookup fFInit = some ⟨ocFInit, odFInit, .func (PySem.W.fnOf "__init__" "Forest.__init__" (defArgs sFInit) (defBody sFInit) (defScope sFInit) .none kVFInit dcFInit pmFInit anFInit cdFInit ctFInit), slFInit⟩)
    (cFInit : PySem.W.codeIn K cdFInit "Forest.__init__" = true)
    (kFInit : PySem.W.keepIn K (.ref fFInit) = true)
    (lFOf : K.lookup fFOf = some ⟨ocFOf, odFOf, .func (PySem.W.fnOf "of" "Forest.of" (defArgs sFOf) (defBody sFOf) (defScope sFOf) .none kVFOf dcFOf pmFOf anFOf cdFOf ctFOf), slFOf⟩)
    (cFOf : PySem.W.codeIn K cdFOf "Forest.of" = true)
    (kFOf : PySem.W.keepIn K (.ref fFOf) = true)
    (aFPut : PySem.W.findIn K (.ref cF) "put" = some (some (.ref fFPut)))
    (iFPut : PySem.W.isFn K (.ref fFPut) = true)
    (lFPut : K.lookup fFPut = some ⟨ocFPut, odFPut, .func (PySem.W.fnOf "put" "Forest.put" (defArgs sFPut) (defBody sFPut) (defScope sFPut) .none kVFPut dcFPut pmFPut anFPut cdFPut ctFPut), slFPut⟩)
    (cFPut : PySem.W.codeIn K cdFPut "Forest.put" = true)
    (kFPut : PySem.W.keepIn K (.ref fFPut) = true)
    (aFCr : PySem.W.findIn K (.ref cF) "closed_ring" = some (some (.ref fFCr)))
    (iFCr : PySem.W.isFn K (.ref fFCr) = true)
    (lFCr : K.lookup fFCr = some ⟨ocFCr, odFCr, .func (PySem.W.fnOf "closed_ring" "Forest.closed_ring" (defArgs sFCr) (defBody sFCr) (defScope sFCr) .none kVFCr dcFCr pmFCr anFCr cdFCr ctFCr), slFCr⟩)
    (cFCr : PySem.W.codeIn K cdFCr "Forest.closed_ring" = true)
    (kFCr : PySem.W.keepIn K (.ref fFCr) = true)
    (aFCut : PySem.W.findIn K (.ref cF) "cut" = some (some (.ref fFCut)))
    (iFCut : PySem.W.isFn K (.ref fFCut) = true)
    (lFCut : K.lookup fFCut = some ⟨ocFCut, odFCut, .func (PySem.W.fnOf "cut" "Forest.cut" (defArgs sFCut) (defBody sFCut) (defScope sFCut) .none kVFCut dcFCut pmFCut anFCut cdFCut ctFCut), slFCut⟩)
    (cFCut : PySem.W.codeIn K cdFCut "Forest.cut" = true)
    (kFCut : PySem.W.keepIn K (.ref fFCut) = true)
    (aFPar : PySem.W.findIn K (.ref cF) "parent" = some (some (.ref fFPar)))
    (iFPar : PySem.W.isFn K (.ref fFPar) = true)
    (lFPar : K.lookup fFPar = some ⟨ocFPar, odFPar, .func (PySem.W.fnOf "parent" "Forest.parent" (defArgs sFPar) (defBody sFPar) (defScope sFPar) .none kVFPar dcFPar pmFPar anFPar cdFPar ctFPar), slFPar⟩)
    (cFPar : PySem.W.codeIn K cdFPar "Forest.parent" = true)
    (kFPar : PySem.W.keepIn K (.ref fFPar) = true)
    (aFPath : PySem.W.findIn K (.ref cF) "path" = some (some (.ref fFPath)))
    (iFPath : PySem.W.isFn K (.ref fFPath) = true)
    (lFPath : K.lookup fFPath = some ⟨ocFPath, odFPath, .func (PySem.W.fnOf "path" "Forest.path" (defArgs sFPath) (defBody sFPath) (defScope sFPath) .none kVFPath dcFPath pmFPath anFPath cdFPath ctFPath), slFPath⟩)
    (cFPath : PySem.W.codeIn K cdFPath "Forest.path" = true)
    (kFPath : PySem.W.keepIn K (.ref fFPath) = true)
    (aFRoot : PySem.W.findIn K (.ref cF) "root" = some (some (.ref fFRoot)))
    (iFRoot : PySem.W.isFn K (.ref fFRoot) = true)
    (lFRoot : K.lookup fFRoot = some ⟨ocFRoot, odFRoot, .func (PySem.W.fnOf "root" "Forest.root" (defArgs sFRoot) (defBody sFRoot) (defScope sFRoot) .none kVFRoot dcFRoot pmFRoot anFRoot cdFRoot ctFRoot), slFRoot⟩)
    (cFRoot : PySem.W.codeIn K cdFRoot "Forest.root" = true)
    (kFRoot : PySem.W.keepIn K (.ref fFRoot) = true)
    (aFDep : PySem.W.findIn K (.ref cF) "depth" = some (some (.ref fFDep)))
    (iFDep : PySem.W.isFn K (.ref fFDep) = true)
    (lFDep : K.lookup fFDep = some ⟨ocFDep, odFDep, .func (PySem.W.fnOf "depth" "Forest.depth" (defArgs sFDep) (defBody sFDep) (defScope sFDep) .none kVFDep dcFDep pmFDep anFDep cdFDep ctFDep), slFDep⟩)
    (cFDep : PySem.W.codeIn K cdFDep "Forest.depth" = true)
    (kFDep : PySem.W.keepIn K (.ref fFDep) = true)
    (aFChi : PySem.W.findIn K (.ref cF) "children" = some (some (.ref fFChi)))
    (iFChi : PySem.W.isFn K (.ref fFChi) = true)
    (lFChi : K.lookup fFChi = some ⟨ocFChi, odFChi, .func (PySem.W.fnOf "children" "Forest.children" (defArgs sFChi) (defBody sFChi) (defScope sFChi) .none kVFChi dcFChi pmFChi anFChi cdFChi ctFChi), slFChi⟩)
    (cFChi : PySem.W.codeIn K cdFChi "Forest.children" = true)
    (kFChi : PySem.W.keepIn K (.ref fFChi) = true)
    (aFRts : PySem.W.findIn K (.ref cF) "roots" = some (some (.ref fFRts)))
    (iFRts : PySem.W.isFn K (.ref fFRts) = true)
    (lFRts : K.lookup fFRts = some ⟨ocFRts, odFRts, .func (PySem.W.fnOf "roots" "Forest.roots" (defArgs sFRts) (defBody sFRts) (defScope sFRts) .none kVFRts dcFRts pmFRts anFRts cdFRts ctFRts), slFRts⟩)
    (cFRts : PySem.W.codeIn K cdFRts "Forest.roots" = true)
    (kFRts : PySem.W.keepIn K (.ref fFRts) = true)
    (aFRing : PySem.W.findIn K (.ref cF) "ring_at" = some (some (.ref fFRing)))
    (iFRing : PySem.W.isFn K (.ref fFRing) = true)
    (lFRing : K.lookup fFRing = some ⟨ocFRing, odFRing, .func (PySem.W.fnOf "ring_at" "Forest.ring_at" (defArgs sFRing) (defBody sFRing) (defScope sFRing) .none kVFRing dcFRing pmFRing anFRing cdFRing ctFRing), slFRing⟩)
    (cFRing : PySem.W.codeIn K cdFRing "Forest.ring_at" = true)
    (kFRing : PySem.W.keepIn K (.ref fFRing) = true)
    (aFSum : PySem.W.findIn K (.ref cF) "summary" = some (some (.ref fFSum)))
    (iFSum : PySem.W.isFn K (.ref fFSum) = true)
    (lFSum : K.lookup fFSum = some ⟨ocFSum, odFSum, .func (PySem.W.fnOf "summary" "Forest.summary" (defArgs sFSum) (defBody sFSum) (defScope sFSum) .none kVFSum dcFSum pmFSum anFSum cdFSum ctFSum), slFSum⟩)
    (cFSum : PySem.W.codeIn K cdFSum "Forest.summary" = true)
    (kFSum : PySem.W.keepIn K (.ref fFSum) = true)
    (aFDrw : PySem.W.findIn K (.ref cF) "drawn" = some (some (.ref fFDrw)))
    (iFDrw : PySem.W.isFn K (.ref fFDrw) = true)
    (lFDrw : K.lookup fFDrw = some ⟨ocFDrw, odFDrw, .func (PySem.W.fnOf "drawn" "Forest.drawn" (defArgs sFDrw) (defBody sFDrw) (defScope sFDrw) .none kVFDrw dcFDrw pmFDrw anFDrw cdFDrw ctFDrw), slFDrw⟩)
    (cFDrw : PySem.W.codeIn K cdFDrw "Forest.drawn" = true)
    (kFDrw : PySem.W.keepIn K (.ref fFDrw) = true)
    (aFLen : PySem.W.findIn K (.ref cF) "__len__" = some (some (.ref fFLen)))
    (iFLen : PySem.W.isFn K (.ref fFLen) = true)
    (lFLen : K.lookup fFLen = some ⟨ocFLen, odFLen, .func (PySem.W.fnOf "__len__" "Forest.__len__" (defArgs sFLen) (defBody sFLen) (defScope sFLen) .none kVFLen dcFLen pmFLen anFLen cdFLen ctFLen), slFLen⟩)
    (cFLen : PySem.W.codeIn K cdFLen "Forest.__len__" = true)
    (kFLen : PySem.W.keepIn K (.ref fFLen) = true)
    (aFEq : PySem.W.findIn K (.ref cF) "__eq__" = some (some (.ref fFEq)))
    (iFEq : PySem.W.isFn K (.ref fFEq) = true)
    (lFEq : K.lookup fFEq = some ⟨ocFEq, odFEq, .func (PySem.W.fnOf "__eq__" "Forest.__eq__" (defArgs sFEq) (defBody sFEq) (defScope sFEq) .none kVFEq dcFEq pmFEq anFEq cdFEq ctFEq), slFEq⟩)
    (cFEq : PySem.W.codeIn K cdFEq "Forest.__eq__" = true)
    (kFEq : PySem.W.keepIn K (.ref fFEq) = true)
    (aIsName : PySem.W.nsIn K mainGlobals "is_name" = some (some (.ref fIsName)))
    (lIsName : K.lookup fIsName = some ⟨ocIsName, odIsName, .func (PySem.W.fnOf "is_name" "is_name" (defArgs sIsName) (defBody sIsName) (defScope sIsName) .none kVIsName dcIsName pmIsName anIsName cdIsName ctIsName), slIsName⟩)
    (cIsName : PySem.W.codeIn K cdIsName "is_name" = true)
    (kIsName : PySem.W.keepIn K (.ref fIsName) = true)
    (aIsNum : PySem.W.nsIn K mainGlobals "is_number" = some (some (.ref fIsNum)))
    (lIsNum : K.lookup fIsNum = some ⟨ocIsNum, odIsNum, .func (PySem.W.fnOf "is_number" "is_number" (defArgs sIsNum) (defBody sIsNum) (defScope sIsNum) .none kVIsNum dcIsNum pmIsNum anIsNum cdIsNum ctIsNum), slIsNum⟩)
    (cIsNum : PySem.W.codeIn K cdIsNum "is_number" = true)
    (kIsNum : PySem.W.keepIn K (.ref fIsNum) = true)
    (aAreN : PySem.W.nsIn K mainGlobals "are_names" = some (some (.ref fAreN)))
    (lAreN : K.lookup fAreN = some ⟨ocAreN, odAreN, .func (PySem.W.fnOf "are_names" "are_names" (defArgs sAreN) (defBody sAreN) (defScope sAreN) .none kVAreN dcAreN pmAreN anAreN cdAreN ctAreN), slAreN⟩)
    (cAreN : PySem.W.codeIn K cdAreN "are_names" = true)
    (kAreN : PySem.W.keepIn K (.ref fAreN) = true)
    (aLInit : PySem.W.findIn K (.ref cL) "__init__" = some (some (.ref fLInit)))
    (iLInit : PySem.W.isFn K (.ref fLInit) = true)
    (lLInit : K.lookup fLInit = some ⟨ocLInit, odLInit, .func (PySem.W.fnOf "__init__" "Letter.__init__" (defArgs sLInit) (defBody sLInit) (defScope sLInit) .none (.ref kD) dcLInit pmLInit anLInit cdLInit ctLInit), slLInit⟩)
    (cLInit : PySem.W.codeIn K cdLInit "Letter.__init__" = true)
    (kLInit : PySem.W.keepIn K (.ref fLInit) = true)
    (aLEq : PySem.W.findIn K (.ref cL) "__eq__" = some (some (.ref fLEq)))
    (iLEq : PySem.W.isFn K (.ref fLEq) = true)
    (lLEq : K.lookup fLEq = some ⟨ocLEq, odLEq, .func (PySem.W.fnOf "__eq__" "Letter.__eq__" (defArgs sLEq) (defBody sLEq) (defScope sLEq) .none kVLEq dcLEq pmLEq anLEq cdLEq ctLEq), slLEq⟩)
    (cLEq : PySem.W.codeIn K cdLEq "Letter.__eq__" = true)
    (kLEq : PySem.W.keepIn K (.ref fLEq) = true)
    (aFitsA : PySem.W.nsIn K mainGlobals "fits_answers" = some (some (.ref fFitsA)))
    (lFitsA : K.lookup fFitsA = some ⟨ocFitsA, odFitsA, .func (PySem.W.fnOf "fits_answers" "fits_answers" (defArgs sFitsA) (defBody sFitsA) (defScope sFitsA) .none kVFitsA dcFitsA pmFitsA anFitsA cdFitsA ctFitsA), slFitsA⟩)
    (cFitsA : PySem.W.codeIn K cdFitsA "fits_answers" = true)
    (kFitsA : PySem.W.keepIn K (.ref fFitsA) = true)
    (aWrap : PySem.W.nsIn K mainGlobals "wrapped" = some (some (.ref fWrap)))
    (lWrap : K.lookup fWrap = some ⟨ocWrap, odWrap, .func (PySem.W.fnOf "wrapped" "wrapped" (defArgs sWrap) (defBody sWrap) (defScope sWrap) .none kVWrap dcWrap pmWrap anWrap cdWrap ctWrap), slWrap⟩)
    (cWrap : PySem.W.codeIn K cdWrap "wrapped" = true)
    (kWrap : PySem.W.keepIn K (.ref fWrap) = true)
    (aBody : PySem.W.nsIn K mainGlobals "body_rows" = some (some (.ref fBody)))
    (lBody : K.lookup fBody = some ⟨ocBody, odBody, .func (PySem.W.fnOf "body_rows" "body_rows" (defArgs sBody) (defBody sBody) (defScope sBody) .none kVBody dcBody pmBody anBody cdBody ctBody), slBody⟩)
    (cBody : PySem.W.codeIn K cdBody "body_rows" = true)
    (kBody : PySem.W.keepIn K (.ref fBody) = true)
    (aGInit : PySem.W.findIn K (.ref cG) "__init__" = some (some (.ref fGInit)))
    (iGInit : PySem.W.isFn K (.ref fGInit) = true)
    (lGInit : K.lookup fGInit = some ⟨ocGInit, odGInit, .func (PySem.W.fnOf "__init__" "Group.__init__" (defArgs sGInit) (defBody sGInit) (defScope sGInit) .none kVGInit dcGInit pmGInit anGInit cdGInit ctGInit), slGInit⟩)
    (cGInit : PySem.W.codeIn K cdGInit "Group.__init__" = true)
    (kGInit : PySem.W.keepIn K (.ref fGInit) = true)
    (aTInit : PySem.W.findIn K (.ref cT) "__init__" = some (some (.ref fTInit)))
    (iTInit : PySem.W.isFn K (.ref fTInit) = true)
    (lTInit : K.lookup fTInit = some ⟨ocTInit, odTInit, .func (PySem.W.fnOf "__init__" "Threads.__init__" (defArgs sTInit) (defBody sTInit) (defScope sTInit) .none kVTInit dcTInit pmTInit anTInit cdTInit ctTInit), slTInit⟩)
    (cTInit : PySem.W.codeIn K cdTInit "Threads.__init__" = true)
    (kTInit : PySem.W.keepIn K (.ref fTInit) = true)
    (lTOf : K.lookup fTOf = some ⟨ocTOf, odTOf, .func (PySem.W.fnOf "of" "Threads.of" (defArgs sTOf) (defBody sTOf) (defScope sTOf) .none kVTOf dcTOf pmTOf anTOf cdTOf ctTOf), slTOf⟩)
    (cTOf : PySem.W.codeIn K cdTOf "Threads.of" = true)
    (kTOf : PySem.W.keepIn K (.ref fTOf) = true)
    (aTPut : PySem.W.findIn K (.ref cT) "put" = some (some (.ref fTPut)))
    (iTPut : PySem.W.isFn K (.ref fTPut) = true)
    (lTPut : K.lookup fTPut = some ⟨ocTPut, odTPut, .func (PySem.W.fnOf "put" "Threads.put" (defArgs sTPut) (defBody sTPut) (defScope sTPut) .none kVTPut dcTPut pmTPut anTPut cdTPut ctTPut), slTPut⟩)
    (cTPut : PySem.W.codeIn K cdTPut "Threads.put" = true)
    (kTPut : PySem.W.keepIn K (.ref fTPut) = true)
    (aTHas : PySem.W.findIn K (.ref cT) "has_come" = some (some (.ref fTHas)))
    (iTHas : PySem.W.isFn K (.ref fTHas) = true)
    (lTHas : K.lookup fTHas = some ⟨ocTHas, odTHas, .func (PySem.W.fnOf "has_come" "Threads.has_come" (defArgs sTHas) (defBody sTHas) (defScope sTHas) .none kVTHas dcTHas pmTHas anTHas cdTHas ctTHas), slTHas⟩)
    (cTHas : PySem.W.codeIn K cdTHas "Threads.has_come" = true)
    (kTHas : PySem.W.keepIn K (.ref fTHas) = true)
    (aTGrp : PySem.W.findIn K (.ref cT) "group_of" = some (some (.ref fTGrp)))
    (iTGrp : PySem.W.isFn K (.ref fTGrp) = true)
    (lTGrp : K.lookup fTGrp = some ⟨ocTGrp, odTGrp, .func (PySem.W.fnOf "group_of" "Threads.group_of" (defArgs sTGrp) (defBody sTGrp) (defScope sTGrp) .none kVTGrp dcTGrp pmTGrp anTGrp cdTGrp ctTGrp), slTGrp⟩)
    (cTGrp : PySem.W.codeIn K cdTGrp "Threads.group_of" = true)
    (kTGrp : PySem.W.keepIn K (.ref fTGrp) = true)
    (aTMrg : PySem.W.findIn K (.ref cT) "merged" = some (some (.ref fTMrg)))
    (iTMrg : PySem.W.isFn K (.ref fTMrg) = true)
    (lTMrg : K.lookup fTMrg = some ⟨ocTMrg, odTMrg, .func (PySem.W.fnOf "merged" "Threads.merged" (defArgs sTMrg) (defBody sTMrg) (defScope sTMrg) .none kVTMrg dcTMrg pmTMrg anTMrg cdTMrg ctTMrg), slTMrg⟩)
    (cTMrg : PySem.W.codeIn K cdTMrg "Threads.merged" = true)
    (kTMrg : PySem.W.keepIn K (.ref fTMrg) = true)
    (aTNam : PySem.W.findIn K (.ref cT) "name_of" = some (some (.ref fTNam)))
    (iTNam : PySem.W.isFn K (.ref fTNam) = true)
    (lTNam : K.lookup fTNam = some ⟨ocTNam, odTNam, .func (PySem.W.fnOf "name_of" "Threads.name_of" (defArgs sTNam) (defBody sTNam) (defScope sTNam) .none kVTNam dcTNam pmTNam anTNam cdTNam ctTNam), slTNam⟩)
    (cTNam : PySem.W.codeIn K cdTNam "Threads.name_of" = true)
    (kTNam : PySem.W.keepIn K (.ref fTNam) = true)
    (aTMem : PySem.W.findIn K (.ref cT) "members" = some (some (.ref fTMem)))
    (iTMem : PySem.W.isFn K (.ref fTMem) = true)
    (lTMem : K.lookup fTMem = some ⟨ocTMem, odTMem, .func (PySem.W.fnOf "members" "Threads.members" (defArgs sTMem) (defBody sTMem) (defScope sTMem) .none kVTMem dcTMem pmTMem anTMem cdTMem ctTMem), slTMem⟩)
    (cTMem : PySem.W.codeIn K cdTMem "Threads.members" = true)
    (kTMem : PySem.W.keepIn K (.ref fTMem) = true)
    (aTAbs : PySem.W.findIn K (.ref cT) "absent" = some (some (.ref fTAbs)))
    (iTAbs : PySem.W.isFn K (.ref fTAbs) = true)
    (lTAbs : K.lookup fTAbs = some ⟨ocTAbs, odTAbs, .func (PySem.W.fnOf "absent" "Threads.absent" (defArgs sTAbs) (defBody sTAbs) (defScope sTAbs) .none kVTAbs dcTAbs pmTAbs anTAbs cdTAbs ctTAbs), slTAbs⟩)
    (cTAbs : PySem.W.codeIn K cdTAbs "Threads.absent" = true)
    (kTAbs : PySem.W.keepIn K (.ref fTAbs) = true)
    (aTNms : PySem.W.findIn K (.ref cT) "names" = some (some (.ref fTNms)))
    (iTNms : PySem.W.isFn K (.ref fTNms) = true)
    (lTNms : K.lookup fTNms = some ⟨ocTNms, odTNms, .func (PySem.W.fnOf "names" "Threads.names" (defArgs sTNms) (defBody sTNms) (defScope sTNms) .none kVTNms dcTNms pmTNms anTNms cdTNms ctTNms), slTNms⟩)
    (cTNms : PySem.W.codeIn K cdTNms "Threads.names" = true)
    (kTNms : PySem.W.keepIn K (.ref fTNms) = true)
    (aTSum : PySem.W.findIn K (.ref cT) "summary" = some (some (.ref fTSum)))
    (iTSum : PySem.W.isFn K (.ref fTSum) = true)
    (lTSum : K.lookup fTSum = some ⟨ocTSum, odTSum, .func (PySem.W.fnOf "summary" "Threads.summary" (defArgs sTSum) (defBody sTSum) (defScope sTSum) .none kVTSum dcTSum pmTSum anTSum cdTSum ctTSum), slTSum⟩)
    (cTSum : PySem.W.codeIn K cdTSum "Threads.summary" = true)
    (kTSum : PySem.W.keepIn K (.ref fTSum) = true)
    (aTEq : PySem.W.findIn K (.ref cT) "__eq__" = some (some (.ref fTEq)))
    (iTEq : PySem.W.isFn K (.ref fTEq) = true)
    (lTEq : K.lookup fTEq = some ⟨ocTEq, odTEq, .func (PySem.W.fnOf "__eq__" "Threads.__eq__" (defArgs sTEq) (defBody sTEq) (defScope sTEq) .none kVTEq dcTEq pmTEq anTEq cdTEq ctTEq), slTEq⟩)
    (cTEq : PySem.W.codeIn K cdTEq "Threads.__eq__" = true)
    (kTEq : PySem.W.keepIn K (.ref fTEq) = true)
    (aBag : PySem.W.nsIn K mainGlobals "_law_bag" = some (some (.ref fBag)))
    (lBag : K.lookup fBag = some ⟨ocBag, odBag, .func (PySem.W.fnOf "_law_bag" "_law_bag" (defArgs sBag) (defBody sBag) (defScope sBag) .none kVBag dcBag pmBag anBag cdBag ctBag), slBag⟩)
    (cBag : PySem.W.codeIn K cdBag "_law_bag" = true)
    (kBag : PySem.W.keepIn K (.ref fBag) = true)
    (aTake : PySem.W.nsIn K mainGlobals "_law_take" = some (some (.ref fTake)))
    (lTake : K.lookup fTake = some ⟨ocTake, odTake, .func (PySem.W.fnOf "_law_take" "_law_take" (defArgs sTake) (defBody sTake) (defScope sTake) .none kVTake dcTake pmTake anTake cdTake ctTake), slTake⟩)
    (cTake : PySem.W.codeIn K cdTake "_law_take" = true)
    (kTake : PySem.W.keepIn K (.ref fTake) = true)
    (aName : PySem.W.nsIn K mainGlobals "_law_name" = some (some (.ref fName)))
    (lName : K.lookup fName = some ⟨ocName, odName, .func (PySem.W.fnOf "_law_name" "_law_name" (defArgs sName) (defBody sName) (defScope sName) .none kVName dcName pmName anName cdName ctName), slName⟩)
    (cName : PySem.W.codeIn K cdName "_law_name" = true)
    (kName : PySem.W.keepIn K (.ref fName) = true)
    (aPool : PySem.W.nsIn K mainGlobals "_law_pool" = some (some (.ref fPool)))
    (lPool : K.lookup fPool = some ⟨ocPool, odPool, .func (PySem.W.fnOf "_law_pool" "_law_pool" (defArgs sPool) (defBody sPool) (defScope sPool) .none kVPool dcPool pmPool anPool cdPool ctPool), slPool⟩)
    (cPool : PySem.W.codeIn K cdPool "_law_pool" = true)
    (kPool : PySem.W.keepIn K (.ref fPool) = true)
    (aRows : PySem.W.nsIn K mainGlobals "_law_rows" = some (some (.ref fRows)))
    (lRows : K.lookup fRows = some ⟨ocRows, odRows, .func (PySem.W.fnOf "_law_rows" "_law_rows" (defArgs sRows) (defBody sRows) (defScope sRows) .none kVRows dcRows pmRows anRows cdRows ctRows), slRows⟩)
    (cRows : PySem.W.codeIn K cdRows "_law_rows" = true)
    (kRows : PySem.W.keepIn K (.ref fRows) = true)
    (aLet : PySem.W.nsIn K mainGlobals "_law_letter" = some (some (.ref fLet)))
    (lLet : K.lookup fLet = some ⟨ocLet, odLet, .func (PySem.W.fnOf "_law_letter" "_law_letter" (defArgs sLet) (defBody sLet) (defScope sLet) .none kVLet dcLet pmLet anLet cdLet ctLet), slLet⟩)
    (cLet : PySem.W.codeIn K cdLet "_law_letter" = true)
    (kLet : PySem.W.keepIn K (.ref fLet) = true)
    (aTurn : PySem.W.nsIn K mainGlobals "_law_turned" = some (some (.ref fTurn)))
    (lTurn : K.lookup fTurn = some ⟨ocTurn, odTurn, .func (PySem.W.fnOf "_law_turned" "_law_turned" (defArgs sTurn) (defBody sTurn) (defScope sTurn) .none kVTurn dcTurn pmTurn anTurn cdTurn ctTurn), slTurn⟩)
    (cTurn : PySem.W.codeIn K cdTurn "_law_turned" = true)
    (kTurn : PySem.W.keepIn K (.ref fTurn) = true)
    (aMix : PySem.W.nsIn K mainGlobals "_law_mixed" = some (some (.ref fMix)))
    (lMix : K.lookup fMix = some ⟨ocMix, odMix, .func (PySem.W.fnOf "_law_mixed" "_law_mixed" (defArgs sMix) (defBody sMix) (defScope sMix) .none kVMix dcMix pmMix anMix cdMix ctMix), slMix⟩)
    (cMix : PySem.W.codeIn K cdMix "_law_mixed" = true)
    (kMix : PySem.W.keepIn K (.ref fMix) = true)
    (aTFit : PySem.W.nsIn K mainGlobals "_law_threads_fit" = some (some (.ref fTFit)))
    (lTFit : K.lookup fTFit = some ⟨ocTFit, odTFit, .func (PySem.W.fnOf "_law_threads_fit" "_law_threads_fit" (defArgs sTFit) (defBody sTFit) (defScope sTFit) .none kVTFit dcTFit pmTFit anTFit cdTFit ctTFit), slTFit⟩)
    (cTFit : PySem.W.codeIn K cdTFit "_law_threads_fit" = true)
    (kTFit : PySem.W.keepIn K (.ref fTFit) = true)
    (aHang : PySem.W.nsIn K mainGlobals "_law_hangs" = some (some (.ref fHang)))
    (lHang : K.lookup fHang = some ⟨ocHang, odHang, .func (PySem.W.fnOf "_law_hangs" "_law_hangs" (defArgs sHang) (defBody sHang) (defScope sHang) .none kVHang dcHang pmHang anHang cdHang ctHang), slHang⟩)
    (cHang : PySem.W.codeIn K cdHang "_law_hangs" = true)
    (kHang : PySem.W.keepIn K (.ref fHang) = true)
    (aFFit : PySem.W.nsIn K mainGlobals "_law_forest_fits" = some (some (.ref fFFit)))
    (lFFit : K.lookup fFFit = some ⟨ocFFit, odFFit, .func (PySem.W.fnOf "_law_forest_fits" "_law_forest_fits" (defArgs sFFit) (defBody sFFit) (defScope sFFit) .none kVFFit dcFFit pmFFit anFFit cdFFit ctFFit), slFFit⟩)
    (cFFit : PySem.W.codeIn K cdFFit "_law_forest_fits" = true)
    (kFFit : PySem.W.keepIn K (.ref fFFit) = true)
    (aMany : PySem.W.nsIn K mainGlobals "_law_row_of_many" = some (some (.ref fMany)))
    (lMany : K.lookup fMany = some ⟨ocMany, odMany, .func (PySem.W.fnOf "_law_row_of_many" "_law_row_of_many" (defArgs sMany) (defBody sMany) (defScope sMany) .none kVMany dcMany pmMany anMany cdMany ctMany), slMany⟩)
    (cMany : PySem.W.codeIn K cdMany "_law_row_of_many" = true)
    (kMany : PySem.W.keepIn K (.ref fMany) = true)
    (aLaw : PySem.W.nsIn K mainGlobals "law" = some (some (.ref fLaw)))
    (lLaw : K.lookup fLaw = some ⟨ocLaw, odLaw, .func (PySem.W.fnOf "law" "law" (defArgs sLaw) (defBody sLaw) (defScope sLaw) .none kVLaw dcLaw pmLaw anLaw cdLaw ctLaw), slLaw⟩)
    (cLaw : PySem.W.codeIn K cdLaw "law" = true)
    (kLaw : PySem.W.keepIn K (.ref fLaw) = true)
    (aWalk : PySem.W.findIn K (.ref cF) "walk_trees" = some (some (.ref fWalk)))
    (iWalk : PySem.W.isFn K (.ref fWalk) = true)
    (lWalk : K.lookup fWalk = some ⟨ocWalk, odWalk, .func (PySem.W.fnOf "walk_trees" "Forest.walk_trees" (defArgs sWalk) (defBody sWalk) (defScope sWalk) .none kVWalk dcWalk pmWalk anWalk cdWalk ctWalk), slWalk⟩)
    (cWalk : PySem.W.codeIn K cdWalk "Forest.walk_trees" = true)
    (kWalk : PySem.W.keepIn K (.ref fWalk) = true)
    (kd1 : PySem.W.nsIn K kD "answers" = some (some (.ref e1)))
    (kd2 : PySem.W.nsIn K kD "subject" = some (some (.ref e2)))
    (kd3 : PySem.W.nsIn K kD "words" = some (some (.ref e3)))
    (em2 : K.lookup e2 = some ⟨.type "tuple", dd2, .seq #[] en2, es2⟩)
    (em3 : K.lookup e3 = some ⟨.type "tuple", dd3, .seq #[] en3, es3⟩)
    (esg : sg = SIGNS) (e_MOST_SIGNS : i_MOST_SIGNS = 8) (e_MOST_NUMBER : i_MOST_NUMBER = 10 ^ 30) (e_ANSWERS_IN_ROW : i_ANSWERS_IN_ROW = 3) (e_SUBJECT_IN_ROW : i_SUBJECT_IN_ROW = 4) (e_WORDS_IN_ROW : i_WORDS_IN_ROW = 8) (evA : vA = 8) (evS : vS = 8) (evW : vW = 40) (neFT : (Value.ref cF == Value.ref cT) = false) (neLF : (Value.type "list" == Value.ref cF) = false) :
    ∃ fd : FuncData, (∀ (s : Shared) (v : Value), BindsTo s fd ⟨[v], []⟩ [("_law_script", v)]) ∧ ∀ base : Heap, K.In base → base.Ns mainGlobals mg → base.NoDigits → RunG l.prog w K mg base 7 fa fd pLaw (spLaw K) := by
  have same := hfa.symm.trans (PySem.W.mg_of X N aLaw)
  cases same
  subst esg e_MOST_SIGNS e_MOST_NUMBER e_ANSWERS_IN_ROW e_SUBJECT_IN_ROW e_WORDS_IN_ROW evA evS evW
  have T : Mo K mg cL cG cT cF := {
    b_isinstance := PySem.W.mg_none_of X N z_isinstance
    b_len := PySem.W.mg_none_of X N z_len
    b_all := PySem.W.mg_none_of X N z_all
    b_set := PySem.W.mg_none_of X N z_set
    b_range := PySem.W.mg_none_of X N z_range
    b_enumerate := PySem.W.mg_none_of X N z_enumerate
    b_str := PySem.W.mg_none_of X N z_str
    b_list := PySem.W.mg_none_of X N z_list
    b_tuple := PySem.W.mg_none_of X N z_tuple
    b_int := PySem.W.mg_none_of X N z_int
    b_bool := PySem.W.mg_none_of X N z_bool
    b_max := PySem.W.mg_none_of X N z_max
    b_min := PySem.W.mg_none_of X N z_min
    b_sorted := PySem.W.mg_none_of X N z_sorted
    b_reversed := PySem.W.mg_none_of X N z_reversed
    b_sum := PySem.W.mg_none_of X N z_sum
    b_abs := PySem.W.mg_none_of X N z_abs
    b_repr := PySem.W.mg_none_of X N z_repr
    signs := ⟨_, PySem.W.mg_of X N asg⟩
    c_MOST_SIGNS := ⟨_, PySem.W.mg_of X N a_MOST_SIGNS⟩
    c_MOST_NUMBER := ⟨_, PySem.W.mg_of X N a_MOST_NUMBER⟩
    c_ANSWERS_IN_ROW := ⟨_, PySem.W.mg_of X N a_ANSWERS_IN_ROW⟩
    c_SUBJECT_IN_ROW := ⟨_, PySem.W.mg_of X N a_SUBJECT_IN_ROW⟩
    c_WORDS_IN_ROW := ⟨_, PySem.W.mg_of X N a_WORDS_IN_ROW⟩
    mL := PySem.W.mg_of X N mL
    kL := ⟨⟨pgL, hdL, poL, saL⟩, haL, hmL⟩
    nL_number := nL_number
    nL_person := nL_person
    nL_house := nL_house
    nL_sender := nL_sender
    nL_answers := nL_answers
    nL_subject := nL_subject
    nL_words := nL_words
    nL_text := nL_text
    mG := PySem.W.mg_of X N mG
    kG := ⟨⟨pgG, hdG, poG, saG⟩, haG, hmG⟩
    nG_known := nG_known
    nG_lowest := nG_lowest
    mT := PySem.W.mg_of X N mT
    kT := ⟨⟨pgT, hdT, poT, saT⟩, haT, hmT⟩
    nT_letters := nT_letters
    nT_order := nT_order
    nT_groups := nT_groups
    mF := PySem.W.mg_of X N mF
    kF := ⟨⟨pgF, hdF, poF, saF⟩, haF, hmF⟩
    nF_letters := nF_letters
    nF_above := nF_above
    nF_below := nF_below
    nF_rings := nF_rings
    hn := hn
    htk := htk
    rL := ⟨rdL, gaL⟩
    rT := ⟨rdT, gaT⟩
    rF := ⟨rdF, gaF⟩
    vA := ⟨_, cvA, ⟨_, rfl⟩⟩
    vS := ⟨_, cvS, ⟨_, rfl⟩⟩
    vW := ⟨_, cvW, ⟨_, rfl⟩⟩
    iFT := kit_no neFT icT tyT suFT
    iLF := kit_no neLF icF tyF suLF
    fLL := fLL
    fTT := fTT
    fTF := fTF
    fFF := fFF
    fFL := fFL }
  have F_FInit := fun_mk (st := sFInit) lFInit cFInit kFInit
  have b_FInit := F_FInit.binds (ps := pFInit) fun _ _ _ _ _ _ us hl => match us, hl with | [_], _ => rfl
  have F_FOf := fun_mk (st := sFOf) lFOf cFOf kFOf
  have b_FOf := F_FOf.binds (ps := pFOf) fun _ _ _ _ _ _ us hl => match us, hl with | [_, _], _ => rfl
  have F_FPut := fun_mk (st := sFPut) lFPut cFPut kFPut
  have b_FPut := F_FPut.binds (ps := pFPut) fun _ _ _ _ _ _ us hl => match us, hl with | [_, _], _ => rfl
  have F_FCr := fun_mk (st := sFCr) lFCr cFCr kFCr
  have b_FCr := F_FCr.binds (ps := pFCr) fun _ _ _ _ _ _ us hl => match us, hl with | [_, _], _ => rfl
  have F_FCut := fun_mk (st := sFCut) lFCut cFCut kFCut
  have b_FCut := F_FCut.binds (ps := pFCut) fun _ _ _ _ _ _ us hl => match us, hl with | [_, _], _ => rfl
  have F_FPar := fun_mk (st := sFPar) lFPar cFPar kFPar
  have b_FPar := F_FPar.binds (ps := pFPar) fun _ _ _ _ _ _ us hl => match us, hl with | [_, _], _ => rfl
  have F_FPath := fun_mk (st := sFPath) lFPath cFPath kFPath
  have b_FPath := F_FPath.binds (ps := pFPath) fun _ _ _ _ _ _ us hl => match us, hl with | [_, _], _ => rfl
  have F_FRoot := fun_mk (st := sFRoot) lFRoot cFRoot kFRoot
  have b_FRoot := F_FRoot.binds (ps := pFRoot) fun _ _ _ _ _ _ us hl => match us, hl with | [_, _], _ => rfl
  have F_FDep := fun_mk (st := sFDep) lFDep cFDep kFDep
  have b_FDep := F_FDep.binds (ps := pFDep) fun _ _ _ _ _ _ us hl => match us, hl with | [_, _], _ => rfl
  have F_FChi := fun_mk (st := sFChi) lFChi cFChi kFChi
  have b_FChi := F_FChi.binds (ps := pFChi) fun _ _ _ _ _ _ us hl => match us, hl with | [_, _], _ => rfl
  have F_FRts := fun_mk (st := sFRts) lFRts cFRts kFRts
  have b_FRts := F_FRts.binds (ps := pFRts) fun _ _ _ _ _ _ us hl => match us, hl with | [_], _ => rfl
  have F_FRing := fun_mk (st := sFRing) lFRing cFRing kFRing
  have b_FRing := F_FRing.binds (ps := pFRing) fun _ _ _ _ _ _ us hl => match us, hl with | [_, _], _ => rfl
  have F_FSum := fun_mk (st := sFSum) lFSum cFSum kFSum
  have b_FSum := F_FSum.binds (ps := pFSum) fun _ _ _ _ _ _ us hl => match us, hl with | [_], _ => rfl
  have F_FDrw := fun_mk (st := sFDrw) lFDrw cFDrw kFDrw
  have b_FDrw := F_FDrw.binds (ps := pFDrw) fun _ _ _ _ _ _ us hl => match us, hl with | [_], _ => rfl
  have F_FLen := fun_mk (st := sFLen) lFLen cFLen kFLen
  have b_FLen := F_FLen.binds (ps := pFLen) fun _ _ _ _ _ _ us hl => match us, hl with | [_], _ => rfl
  have F_FEq := fun_mk (st := sFEq) lFEq cFEq kFEq
  have b_FEq := F_FEq.binds (ps := pFEq) fun _ _ _ _ _ _ us hl => match us, hl with | [_, _], _ => rfl
  have F_IsName := fun_mk (st := sIsName) lIsName cIsName kIsName
  have b_IsName := F_IsName.binds (ps := pIsName) fun _ _ _ _ _ _ us hl => match us, hl with | [_], _ => rfl
  have F_IsNum := fun_mk (st := sIsNum) lIsNum cIsNum kIsNum
  have b_IsNum := F_IsNum.binds (ps := pIsNum) fun _ _ _ _ _ _ us hl => match us, hl with | [_], _ => rfl
  have F_AreN := fun_mk (st := sAreN) lAreN cAreN kAreN
  have b_AreN := F_AreN.binds (ps := pAreN) fun _ _ _ _ _ _ us hl => match us, hl with | [_, _], _ => rfl
  have F_LInit : FunD K "__init__" "Letter.__init__" (defArgs sLInit) (defBody sLInit) (defScope sLInit) [] [("answers", V.ref e1), ("subject", V.ref e2), ("words", V.ref e3)] fLInit _ := ⟨⟨_, _, _, _, _, _, _, _, _, _, rfl, lLInit, cLInit, .inl ⟨rfl, rfl⟩, .inr ⟨kD, rfl, fun q hq => by
    simp only [List.mem_cons, List.not_mem_nil, or_false] at hq
    rcases hq with rfl | rfl | rfl
    · exact ⟨_, kd1, rfl⟩
    · exact ⟨_, kd2, rfl⟩
    · exact ⟨_, kd3, rfl⟩⟩⟩, kLInit⟩
  have F_LEq := fun_mk (st := sLEq) lLEq cLEq kLEq
  have b_LEq := F_LEq.binds (ps := pLEq) fun _ _ _ _ _ _ us hl => match us, hl with | [_, _], _ => rfl
  have F_FitsA := fun_mk (st := sFitsA) lFitsA cFitsA kFitsA
  have b_FitsA := F_FitsA.binds (ps := pFitsA) fun _ _ _ _ _ _ us hl => match us, hl with | [_, _], _ => rfl
  have F_Wrap := fun_mk (st := sWrap) lWrap cWrap kWrap
  have b_Wrap := F_Wrap.binds (ps := pWrap) fun _ _ _ _ _ _ us hl => match us, hl with | [_, _, _], _ => rfl
  have F_Body := fun_mk (st := sBody) lBody cBody kBody
  have b_Body := F_Body.binds (ps := pBody) fun _ _ _ _ _ _ us hl => match us, hl with | [_], _ => rfl
  have F_GInit := fun_mk (st := sGInit) lGInit cGInit kGInit
  have b_GInit := F_GInit.binds (ps := pGInit) fun _ _ _ _ _ _ us hl => match us, hl with | [_, _], _ => rfl
  have F_TInit := fun_mk (st := sTInit) lTInit cTInit kTInit
  have b_TInit := F_TInit.binds (ps := pTInit) fun _ _ _ _ _ _ us hl => match us, hl with | [_], _ => rfl
  have F_TOf := fun_mk (st := sTOf) lTOf cTOf kTOf
  have b_TOf := F_TOf.binds (ps := pTOf) fun _ _ _ _ _ _ us hl => match us, hl with | [_, _], _ => rfl
  have F_TPut := fun_mk (st := sTPut) lTPut cTPut kTPut
  have b_TPut := F_TPut.binds (ps := pTPut) fun _ _ _ _ _ _ us hl => match us, hl with | [_, _], _ => rfl
  have F_THas := fun_mk (st := sTHas) lTHas cTHas kTHas
  have b_THas := F_THas.binds (ps := pTHas) fun _ _ _ _ _ _ us hl => match us, hl with | [_, _], _ => rfl
  have F_TGrp := fun_mk (st := sTGrp) lTGrp cTGrp kTGrp
  have b_TGrp := F_TGrp.binds (ps := pTGrp) fun _ _ _ _ _ _ us hl => match us, hl with | [_, _], _ => rfl
  have F_TMrg := fun_mk (st := sTMrg) lTMrg cTMrg kTMrg
  have b_TMrg := F_TMrg.binds (ps := pTMrg) fun _ _ _ _ _ _ us hl => match us, hl with | [_, _, _], _ => rfl
  have F_TNam := fun_mk (st := sTNam) lTNam cTNam kTNam
  have b_TNam := F_TNam.binds (ps := pTNam) fun _ _ _ _ _ _ us hl => match us, hl with | [_, _], _ => rfl
  have F_TMem := fun_mk (st := sTMem) lTMem cTMem kTMem
  have b_TMem := F_TMem.binds (ps := pTMem) fun _ _ _ _ _ _ us hl => match us, hl with | [_, _], _ => rfl
  have F_TAbs := fun_mk (st := sTAbs) lTAbs cTAbs kTAbs
  have b_TAbs := F_TAbs.binds (ps := pTAbs) fun _ _ _ _ _ _ us hl => match us, hl with | [_, _], _ => rfl
  have F_TNms := fun_mk (st := sTNms) lTNms cTNms kTNms
  have b_TNms := F_TNms.binds (ps := pTNms) fun _ _ _ _ _ _ us hl => match us, hl with | [_], _ => rfl
  have F_TSum := fun_mk (st := sTSum) lTSum cTSum kTSum
  have b_TSum := F_TSum.binds (ps := pTSum) fun _ _ _ _ _ _ us hl => match us, hl with | [_], _ => rfl
  have F_TEq := fun_mk (st := sTEq) lTEq cTEq kTEq
  have b_TEq := F_TEq.binds (ps := pTEq) fun _ _ _ _ _ _ us hl => match us, hl with | [_, _], _ => rfl
  have F_Bag := fun_mk (st := sBag) lBag cBag kBag
  have b_Bag := F_Bag.binds (ps := pBag) fun _ _ _ _ _ _ us hl => match us, hl with | [_, _], _ => rfl
  have F_Take := fun_mk (st := sTake) lTake cTake kTake
  have b_Take := F_Take.binds (ps := pTake) fun _ _ _ _ _ _ us hl => match us, hl with | [_, _], _ => rfl
  have F_Name := fun_mk (st := sName) lName cName kName
  have b_Name := F_Name.binds (ps := pName) fun _ _ _ _ _ _ us hl => match us, hl with | [_], _ => rfl
  have F_Pool := fun_mk (st := sPool) lPool cPool kPool
  have b_Pool := F_Pool.binds (ps := pPool) fun _ _ _ _ _ _ us hl => match us, hl with | [_, _], _ => rfl
  have F_Rows := fun_mk (st := sRows) lRows cRows kRows
  have b_Rows := F_Rows.binds (ps := pRows) fun _ _ _ _ _ _ us hl => match us, hl with | [_, _], _ => rfl
  have F_Let := fun_mk (st := sLet) lLet cLet kLet
  have b_Let := F_Let.binds (ps := pLet) fun _ _ _ _ _ _ us hl => match us, hl with | [_], _ => rfl
  have F_Turn := fun_mk (st := sTurn) lTurn cTurn kTurn
  have b_Turn := F_Turn.binds (ps := pTurn) fun _ _ _ _ _ _ us hl => match us, hl with | [_, _], _ => rfl
  have F_Mix := fun_mk (st := sMix) lMix cMix kMix
  have b_Mix := F_Mix.binds (ps := pMix) fun _ _ _ _ _ _ us hl => match us, hl with | [_, _], _ => rfl
  have F_TFit := fun_mk (st := sTFit) lTFit cTFit kTFit
  have b_TFit := F_TFit.binds (ps := pTFit) fun _ _ _ _ _ _ us hl => match us, hl with | [_, _], _ => rfl
  have F_Hang := fun_mk (st := sHang) lHang cHang kHang
  have b_Hang := F_Hang.binds (ps := pHang) fun _ _ _ _ _ _ us hl => match us, hl with | [_, _], _ => rfl
  have F_FFit := fun_mk (st := sFFit) lFFit cFFit kFFit
  have b_FFit := F_FFit.binds (ps := pFFit) fun _ _ _ _ _ _ us hl => match us, hl with | [_, _, _], _ => rfl
  have F_Many := fun_mk (st := sMany) lMany cMany kMany
  have b_Many := F_Many.binds (ps := pMany) fun _ _ _ _ _ _ us hl => match us, hl with | [_], _ => rfl
  have F_Law := fun_mk (st := sLaw) lLaw cLaw kLaw
  have b_Law := F_Law.binds (ps := pLaw) fun _ _ _ _ _ _ us hl => match us, hl with | [_], _ => rfl
  have F_Walk := fun_mk (st := sWalk) lWalk cWalk kWalk
  have b_Walk := F_Walk.binds (ps := pWalk) fun _ _ _ _ _ _ us hl => match us, hl with | [_], _ => rfl
  refine ⟨PySem.W.fnOf "law" "law" (defArgs sLaw) (defBody sLaw) (defScope sLaw) .none kVLaw dcLaw pmLaw anLaw cdLaw ctLaw, fun s v => .of_eq rfl, fun base inK ns hnd => ?_⟩
  have mWalk : Meth K cF "walk_trees" fWalk := ⟨aWalk, iWalk, kWalk⟩
  have o_IsNum := ok_isnum (P := l.prog) (w := w) (K := K) (mg := mg) (base := base) (cL := cL) (cG := cG) (cT := cT) (cF := cF) F_IsNum T
  have gIsNum : Gd l.prog w K mg base 1 "is_number" pIsNum spIsNum := gd_of F_IsNum o_IsNum (PySem.W.mg_of X N aIsNum) b_IsNum
  have o_IsName := ok_isname (P := l.prog) (w := w) (K := K) (mg := mg) (base := base) (cL := cL) (cG := cG) (cT := cT) (cF := cF) F_IsName T
  have gIsName : Gd l.prog w K mg base 1 "is_name" pIsName spIsName := gd_of F_IsName o_IsName (PySem.W.mg_of X N aIsName) b_IsName
  have o_AreN := ok_aren (P := l.prog) (w := w) (K := K) (mg := mg) (base := base) (cL := cL) (cG := cG) (cT := cT) (cF := cF) F_AreN T gIsName
  have gAreN : Gd l.prog w K mg base 2 "are_names" pAreN (spAreN K) := gd_of F_AreN o_AreN (PySem.W.mg_of X N aAreN) b_AreN
  have o_FitsA := ok_fits (P := l.prog) (w := w) (K := K) (mg := mg) (base := base) (cL := cL) (cG := cG) (cT := cT) (cF := cF) F_FitsA T gIsNum
  have gFitsA : Gd l.prog w K mg base 2 "fits_answers" pFitsA spFits := gd_of F_FitsA o_FitsA (PySem.W.mg_of X N aFitsA) b_FitsA
  have o_Body := ok_body (P := l.prog) (w := w) (K := K) (mg := mg) (base := base) (cL := cL) (cG := cG) (cT := cT) (cF := cF) F_Body T
  have gBody : Gd l.prog w K mg base 1 "body_rows" pBody (spBody K) := gd_of F_Body o_Body (PySem.W.mg_of X N aBody) b_Body
  have o_Wrap := ok_wrap (P := l.prog) (w := w) (K := K) (mg := mg) (base := base) (cL := cL) (cG := cG) (cT := cT) (cF := cF) F_Wrap T
  have gWrap : Gd l.prog w K mg base 1 "wrapped" pWrap spWrap := gd_of F_Wrap o_Wrap (PySem.W.mg_of X N aWrap) b_Wrap
  have o_LInit := ok_linit (P := l.prog) (w := w) (K := K) (mg := mg) (base := base) (cL := cL) (cG := cG) (cT := cT) (cF := cF) F_LInit T gIsNum gIsName gFitsA gAreN gWrap gBody
  have lk : LK l.prog w K mg base cL := lk_of F_LInit o_LInit ⟨mkL, aLInit, iLInit, kcL⟩ ⟨_, _, _, em2⟩ ⟨_, _, _, em3⟩
  have o_LEq := ok_leq (P := l.prog) (w := w) (K := K) (mg := mg) (base := base) (cL := cL) (cG := cG) (cT := cT) (cF := cF) F_LEq T
  have gLEq : Md l.prog w K mg base cL 1 "__eq__" pLEq (spLEq K cL) := md_of o_LEq ⟨aLEq, iLEq, kLEq⟩ b_LEq
  have o_GInit := ok_ginit (P := l.prog) (w := w) (K := K) (mg := mg) (base := base) (cL := cL) (cG := cG) (cT := cT) (cF := cF) F_GInit T
  have gGInit : Id l.prog w K mg base cG 1 pGInit (spGInit cG) := id_of o_GInit ⟨mkG, aGInit, iGInit, kcG⟩ b_GInit
  have o_TInit := ok_tinit (P := l.prog) (w := w) (K := K) (mg := mg) (base := base) (cL := cL) (cG := cG) (cT := cT) (cF := cF) F_TInit T
  have gTInit : Id l.prog w K mg base cT 1 pTInit (spTInit cT) := id_of o_TInit ⟨mkT, aTInit, iTInit, kcT⟩ b_TInit
  have o_TGrp := ok_tgrp (P := l.prog) (w := w) (K := K) (mg := mg) (base := base) (cL := cL) (cG := cG) (cT := cT) (cF := cF) F_TGrp T gGInit
  have gTGrp : Md l.prog w K mg base cT 3 "group_of" pTGrp (spTGrp cG cT) := md_of o_TGrp ⟨aTGrp, iTGrp, kTGrp⟩ b_TGrp
  have o_TMrg := ok_tmrg (P := l.prog) (w := w) (K := K) (mg := mg) (base := base) (cL := cL) (cG := cG) (cT := cT) (cF := cF) F_TMrg T
  have gTMrg : Md l.prog w K mg base cT 1 "merged" pTMrg (spTMrg cG cT) := md_of o_TMrg ⟨aTMrg, iTMrg, kTMrg⟩ b_TMrg
  have o_THas := ok_thas (P := l.prog) (w := w) (K := K) (mg := mg) (base := base) (cL := cL) (cG := cG) (cT := cT) (cF := cF) F_THas T gLEq
  have gTHas : Md l.prog w K mg base cT 2 "has_come" pTHas (spTHas K cL cG cT) := md_of o_THas ⟨aTHas, iTHas, kTHas⟩ b_THas
  have o_TPut := ok_tput (P := l.prog) (w := w) (K := K) (mg := mg) (base := base) (cL := cL) (cG := cG) (cT := cT) (cF := cF) F_TPut T gTHas gTGrp gTMrg
  have gTPut : Md l.prog w K mg base cT 4 "put" pTPut (spTPut K cL cG cT) := md_of o_TPut ⟨aTPut, iTPut, kTPut⟩ b_TPut
  have o_TOf := ok_tof (P := l.prog) (w := w) (K := K) (mg := mg) (base := base) (cL := cL) (cG := cG) (cT := cT) (cF := cF) F_TOf T gTInit gTPut
  have gTOf : CM l.prog w K mg base cT 5 "of" (spTOf K cL cG cT) := cm_of ⟨cmT, ⟨_, rcT⟩, fiT⟩ o_TOf b_TOf
  have o_TNam := ok_tnam (P := l.prog) (w := w) (K := K) (mg := mg) (base := base) (cL := cL) (cG := cG) (cT := cT) (cF := cF) F_TNam T
  have gTNam : Md l.prog w K mg base cT 1 "name_of" pTNam (spTNam K cL cG cT) := md_of o_TNam ⟨aTNam, iTNam, kTNam⟩ b_TNam
  have o_TMem := ok_tmem (P := l.prog) (w := w) (K := K) (mg := mg) (base := base) (cL := cL) (cG := cG) (cT := cT) (cF := cF) F_TMem T
  have gTMem : Md l.prog w K mg base cT 1 "members" pTMem (spTMem K cL cG cT) := md_of o_TMem ⟨aTMem, iTMem, kTMem⟩ b_TMem
  have o_TAbs := ok_tabs (P := l.prog) (w := w) (K := K) (mg := mg) (base := base) (cL := cL) (cG := cG) (cT := cT) (cF := cF) F_TAbs T
  have gTAbs : Md l.prog w K mg base cT 1 "absent" pTAbs (spTAbs K cL cG cT) := md_of o_TAbs ⟨aTAbs, iTAbs, kTAbs⟩ b_TAbs
  have o_TNms := ok_tnms (P := l.prog) (w := w) (K := K) (mg := mg) (base := base) (cL := cL) (cG := cG) (cT := cT) (cF := cF) F_TNms T
  have gTNms : Md l.prog w K mg base cT 1 "names" pTNms (spTNms K cL cG cT) := md_of o_TNms ⟨aTNms, iTNms, kTNms⟩ b_TNms
  have o_TSum := ok_tsum (P := l.prog) (w := w) (K := K) (mg := mg) (base := base) (cL := cL) (cG := cG) (cT := cT) (cF := cF) F_TSum T gTNms gTMem gTAbs
  have gTSum : Md l.prog w K mg base cT 2 "summary" pTSum (spTSum K cL cG cT) := md_of o_TSum ⟨aTSum, iTSum, kTSum⟩ b_TSum
  have o_TEq := ok_teq (P := l.prog) (w := w) (K := K) (mg := mg) (base := base) (cL := cL) (cG := cG) (cT := cT) (cF := cF) F_TEq T gLEq
  have gTEq : Md l.prog w K mg base cT 3 "__eq__" pTEq (spTEq K cL cG cT cF) := md_of o_TEq ⟨aTEq, iTEq, kTEq⟩ b_TEq
  have o_FPath := ok_fpath (P := l.prog) (w := w) (K := K) (mg := mg) (base := base) (cL := cL) (cG := cG) (cT := cT) (cF := cF) F_FPath T
  have gFPath : Md l.prog w K mg base cF 1 "path" pFPath (spFPath cF) := md_of o_FPath ⟨aFPath, iFPath, kFPath⟩ b_FPath
  have o_FRoot := ok_froot (P := l.prog) (w := w) (K := K) (mg := mg) (base := base) (cL := cL) (cG := cG) (cT := cT) (cF := cF) F_FRoot T gFPath
  have gFRoot : Md l.prog w K mg base cF 2 "root" pFRoot (spFRoot cF) := md_of o_FRoot ⟨aFRoot, iFRoot, kFRoot⟩ b_FRoot
  have o_FDep := ok_fdep (P := l.prog) (w := w) (K := K) (mg := mg) (base := base) (cL := cL) (cG := cG) (cT := cT) (cF := cF) F_FDep T gFPath
  have gFDep : Md l.prog w K mg base cF 2 "depth" pFDep (spFDep cF) := md_of o_FDep ⟨aFDep, iFDep, kFDep⟩ b_FDep
  have o_FPar := ok_fpar (P := l.prog) (w := w) (K := K) (mg := mg) (base := base) (cL := cL) (cG := cG) (cT := cT) (cF := cF) F_FPar T
  have gFPar : Md l.prog w K mg base cF 1 "parent" pFPar (spFPar cF) := md_of o_FPar ⟨aFPar, iFPar, kFPar⟩ b_FPar
  have o_FCr := ok_fcr (P := l.prog) (w := w) (K := K) (mg := mg) (base := base) (cL := cL) (cG := cG) (cT := cT) (cF := cF) F_FCr T gFPath
  have gFCr : Md l.prog w K mg base cF 2 "closed_ring" pFCr (spFCr K cL cF) := md_of o_FCr ⟨aFCr, iFCr, kFCr⟩ b_FCr
  have o_FCut := ok_fcut (P := l.prog) (w := w) (K := K) (mg := mg) (base := base) (cL := cL) (cG := cG) (cT := cT) (cF := cF) F_FCut T
  have gFCut : Md l.prog w K mg base cF 1 "cut" pFCut (spFCut cF) := md_of o_FCut ⟨aFCut, iFCut, kFCut⟩ b_FCut
  have o_FPut := ok_fput (P := l.prog) (w := w) (K := K) (mg := mg) (base := base) (cL := cL) (cG := cG) (cT := cT) (cF := cF) F_FPut T gLEq gFCr gFCut
  have gFPut : Md l.prog w K mg base cF 3 "put" pFPut (spFPut K cL cF) := md_of o_FPut ⟨aFPut, iFPut, kFPut⟩ b_FPut
  have o_FInit := ok_finit (P := l.prog) (w := w) (K := K) (mg := mg) (base := base) (cL := cL) (cG := cG) (cT := cT) (cF := cF) F_FInit T
  have gFInit : Id l.prog w K mg base cF 1 pFInit (spFInit cF) := id_of o_FInit ⟨mkF, aFInit, iFInit, kcF⟩ b_FInit
  have o_FOf := ok_fof (P := l.prog) (w := w) (K := K) (mg := mg) (base := base) (cL := cL) (cG := cG) (cT := cT) (cF := cF) F_FOf T gFInit gFPut
  have gFOf : CM l.prog w K mg base cF 4 "of" (spFOf K cL cF) := cm_of ⟨cmF, ⟨_, rcF⟩, fiF⟩ o_FOf b_FOf
  have o_FChi := ok_fchi (P := l.prog) (w := w) (K := K) (mg := mg) (base := base) (cL := cL) (cG := cG) (cT := cT) (cF := cF) F_FChi T
  have gFChi : Md l.prog w K mg base cF 1 "children" pFChi (spFChi K cL cF) := md_of o_FChi ⟨aFChi, iFChi, kFChi⟩ b_FChi
  have o_FRts := ok_frts (P := l.prog) (w := w) (K := K) (mg := mg) (base := base) (cL := cL) (cG := cG) (cT := cT) (cF := cF) F_FRts T
  have gFRts : Md l.prog w K mg base cF 1 "roots" pFRts (spFRts K cL cF) := md_of o_FRts ⟨aFRts, iFRts, kFRts⟩ b_FRts
  have o_FLen := ok_flen (P := l.prog) (w := w) (K := K) (mg := mg) (base := base) (cL := cL) (cG := cG) (cT := cT) (cF := cF) F_FLen T
  have gFLen : Md l.prog w K mg base cF 1 "__len__" pFLen (spFLen K cL cF) := md_of o_FLen ⟨aFLen, iFLen, kFLen⟩ b_FLen
  have o_FSum := ok_fsum (P := l.prog) (w := w) (K := K) (mg := mg) (base := base) (cL := cL) (cG := cG) (cT := cT) (cF := cF) F_FSum T
  have gFSum : Md l.prog w K mg base cF 1 "summary" pFSum (spFSum K cL cF) := md_of o_FSum ⟨aFSum, iFSum, kFSum⟩ b_FSum
  have o_FRing := ok_fring (P := l.prog) (w := w) (K := K) (mg := mg) (base := base) (cL := cL) (cG := cG) (cT := cT) (cF := cF) F_FRing T gFRoot
  have gFRing : Md l.prog w K mg base cF 3 "ring_at" pFRing (spFRing K cL cF) := md_of o_FRing ⟨aFRing, iFRing, kFRing⟩ b_FRing
  have o_FEq := ok_feq (P := l.prog) (w := w) (K := K) (mg := mg) (base := base) (cL := cL) (cG := cG) (cT := cT) (cF := cF) F_FEq T
  have gFEq : Md l.prog w K mg base cF 3 "__eq__" pFEq (spFEq K cL cF) := md_of o_FEq ⟨aFEq, iFEq, kFEq⟩ b_FEq
  have o_FDrw := ok_fdrw (P := l.prog) (w := w) (K := K) (mg := mg) (base := base) (cL := cL) (cG := cG) (cT := cT) (cF := cF) F_FDrw T hnd gFRts gFChi mWalk F_Walk b_Walk
  have gFDrw : Md l.prog w K mg base cF 4 "drawn" pFDrw (spFDrw K cL cF) := md_of o_FDrw ⟨aFDrw, iFDrw, kFDrw⟩ b_FDrw
  have o_Take := ok_take (P := l.prog) (w := w) (K := K) (mg := mg) (base := base) (cL := cL) (cG := cG) (cT := cT) (cF := cF) F_Take T
  have gTake : Gd l.prog w K mg base 1 "_law_take" pTake spTake := gd_of F_Take o_Take (PySem.W.mg_of X N aTake) b_Take
  have o_Bag := ok_bag (P := l.prog) (w := w) (K := K) (mg := mg) (base := base) (cL := cL) (cG := cG) (cT := cT) (cF := cF) F_Bag T
  have gBag : Gd l.prog w K mg base 1 "_law_bag" pBag (spBag K) := gd_of F_Bag o_Bag (PySem.W.mg_of X N aBag) b_Bag
  have o_Name := ok_name (P := l.prog) (w := w) (K := K) (mg := mg) (base := base) (cL := cL) (cG := cG) (cT := cT) (cF := cF) F_Name T gTake
  have gName : Gd l.prog w K mg base 2 "_law_name" pName spName := gd_of F_Name o_Name (PySem.W.mg_of X N aName) b_Name
  have o_Pool := ok_pool (P := l.prog) (w := w) (K := K) (mg := mg) (base := base) (cL := cL) (cG := cG) (cT := cT) (cF := cF) F_Pool T gTake
  have gPool : Gd l.prog w K mg base 2 "_law_pool" pPool spPool := gd_of F_Pool o_Pool (PySem.W.mg_of X N aPool) b_Pool
  have o_Rows := ok_rows (P := l.prog) (w := w) (K := K) (mg := mg) (base := base) (cL := cL) (cG := cG) (cT := cT) (cF := cF) F_Rows T gTake gPool gName
  have gRows : Gd l.prog w K mg base 3 "_law_rows" pRows spRows := gd_of F_Rows o_Rows (PySem.W.mg_of X N aRows) b_Rows
  have o_Let := ok_letter (P := l.prog) (w := w) (K := K) (mg := mg) (base := base) (cL := cL) (cG := cG) (cT := cT) (cF := cF) F_Let T lk
  have gLet : Gd l.prog w K mg base 5 "_law_letter" pLet (spLet K cL) := gd_of F_Let o_Let (PySem.W.mg_of X N aLet) b_Let
  have o_Turn := ok_turned (P := l.prog) (w := w) (K := K) (mg := mg) (base := base) (cL := cL) (cG := cG) (cT := cT) (cF := cF) F_Turn T gTake
  have gTurn : Gd l.prog w K mg base 2 "_law_turned" pTurn spTurned := gd_of F_Turn o_Turn (PySem.W.mg_of X N aTurn) b_Turn
  have o_Mix := ok_mixed (P := l.prog) (w := w) (K := K) (mg := mg) (base := base) (cL := cL) (cG := cG) (cT := cT) (cF := cF) F_Mix T gTake
  have gMix : Gd l.prog w K mg base 2 "_law_mixed" pMix spMixed := gd_of F_Mix o_Mix (PySem.W.mg_of X N aMix) b_Mix
  have o_Hang := ok_hangs (P := l.prog) (w := w) (K := K) (mg := mg) (base := base) (cL := cL) (cG := cG) (cT := cT) (cF := cF) F_Hang T
  have gHang : Gd l.prog w K mg base 1 "_law_hangs" pHang spHang := gd_of F_Hang o_Hang (PySem.W.mg_of X N aHang) b_Hang
  have o_TFit := ok_tfit (P := l.prog) (w := w) (K := K) (mg := mg) (base := base) (cL := cL) (cG := cG) (cT := cT) (cF := cF) F_TFit T gTSum gHang
  have gTFit : Gd l.prog w K mg base 3 "_law_threads_fit" pTFit (spTFit K cL cG cT) := gd_of F_TFit o_TFit (PySem.W.mg_of X N aTFit) b_TFit
  have o_FFit := ok_ffit (P := l.prog) (w := w) (K := K) (mg := mg) (base := base) (cL := cL) (cG := cG) (cT := cT) (cF := cF) F_FFit T gFRts gFChi mWalk F_Walk b_Walk gFPath gFRoot gFPar gFRing gFSum gFLen gFDrw gTSum gTNam
  have gFFit : Gd l.prog w K mg base 5 "_law_forest_fits" pFFit (spFFit K cL cG cT cF) := gd_of F_FFit o_FFit (PySem.W.mg_of X N aFFit) b_FFit
  have o_Many := ok_many (P := l.prog) (w := w) (K := K) (mg := mg) (base := base) (cL := cL) (cG := cG) (cT := cT) (cF := cF) F_Many T gTake lk gFOf gTOf gFEq gTEq gFDep gFDrw gTNms gTNam
  have gMany : Gd l.prog w K mg base 6 "_law_row_of_many" pMany spMany := gd_of F_Many o_Many (PySem.W.mg_of X N aMany) b_Many
  exact ok_law (P := l.prog) (w := w) (K := K) (mg := mg) (base := base) (cL := cL) (cG := cG) (cT := cT) (cF := cF) F_Law T gBag gTake gRows gTurn gMix gMany gLet gTFit gFFit lk gFOf gTOf gFEq gTEq gTSum gFSum gFRts gFChi mWalk F_Walk b_Walk
theorem walk {l : PySem.W.OpenLaw} {q : Program} {loose : List Str} {XP : (Str → Option Value) → Heap → Prop} {YP : World → Heap → Prop} {d : DefRec} {K : Params → PySem.W.Frag} (hn : l.most = some 63) (hdf : d.params.defaults = [])
    (hY : ∀ (w : World) (h : Heap), YP w h → (K w.params).In h)
    (F : ∀ (w : World) (mg : Str → Option Value) (fa : Addr) (h : Heap), (K w.params).In h → h.Ns mainGlobals mg → mg d.name = some (.ref fa) →
      ∃ fd : FuncData, (∀ (s : Shared) (u : Value), BindsTo s fd ⟨[u], []⟩ [("_law_script", u)]) ∧ ∀ base : Heap, (K w.params).In base → base.Ns mainGlobals mg → base.NoDigits → RunG l.prog w (K w.params) mg base 7 fa fd pLaw (spLaw (K w.params))) :
    PySem.W.WalkO q loose XP YP l.row.toRowW d [] (fun f vs => PySem.call f vs) := by
  refine Att.attach_call (n := 63) hn hdf fun w s₀ t mg mb fa o pm cd doc a xs ns G Y ho hd hcd hmg here hxs hlen gens => ?_
  have inK := hY w _ Y
  obtain ⟨fd, binds, run⟩ := F w mg fa _ inK G.T.g hmg
  exact law_run (x := "_law_script") (sp := spLaw (K w.params)) inK G.T.g G.T.b G.T.builtins G.T.nolimit G.T.nodigits gens here hxs (Nat.le_trans hlen (by decide)) ⟨rfl, by decide, by decide⟩ run binds fun J sq => ⟨a, ns, rfl, sq, hlen, fun _ => rfl⟩
end K9
set_option Elab.async false
set_option linter.all false
open PySem PySem.W PyProof.Rows
set_option maxRecDepth 100000 in
set_option maxHeartbeats 0 in
theorem PySem.Challenge.cw_filedalike_k09_whole_threads_of_any_orde_holds : PySem.Challenge.rw_filedalike_k09_whole_threads_of_any_orde.Holds := by
  w_on; o_law; k_head; (case hw => w_witness2)
  k_fill
  refine K9.walk (l := PySem.Challenge.rw_filedalike_k09_whole_threads_of_any_orde) rfl rfl (fun w h Y => PySem.W.kIn_of Y) ?F
  case F =>
    intro w mg fa h KX N hmg
    refine' K9.all_mk KX N hmg ?mL ?pgL ?hdL ?poL ?saL ?haL ?hmL ?mkL ?kcL ?nL_number ?nL_person ?nL_house ?nL_sender ?nL_answers ?nL_subject ?nL_words ?nL_text ?mG ?pgG ?hdG ?poG ?saG ?haG ?hmG ?mkG ?kcG ?nG_known ?nG_lowest ?mT ?pgT ?hdT ?poT ?saT ?haT ?hmT ?mkT ?kcT ?nT_letters ?nT_order ?nT_groups ?mF ?pgF ?hdF ?poF ?saF ?haF ?hmF ?mkF ?kcF ?nF_letters ?nF_above ?nF_below ?nF_rings ?z_isinstance ?z_len ?z_all ?z_set ?z_range ?z_enumerate ?z_str ?z_list ?z_tuple ?z_int ?z_bool ?z_max ?z_min ?z_sorted ?z_reversed ?z_sum ?z_abs ?z_repr ?asg ?a_MOST_SIGNS ?a_MOST_NUMBER ?a_ANSWERS_IN_ROW ?a_SUBJECT_IN_ROW ?a_WORDS_IN_ROW ?hn ?htk ?rdL ?gaL ?rdT ?gaT ?rdF ?gaF ?cvA ?cvS ?cvW ?icT ?tyT ?icF ?tyF ?suFT ?suLF ?fLL ?fTT ?fTF ?fFF ?fFL ?cmT ?rcT ?fiT ?cmF ?rcF ?fiF ?aFInit ?iFInit ?lFInit ?cFInit ?kFInit ?lFOf ?cFOf ?kFOf ?aFPut ?iFPut ?lFPut ?cFPut ?kFPut ?aFCr ?iFCr ?lFCr ?cFCr ?kFCr ?aFCut ?iFCut ?lFCut ?cFCut ?kFCut ?aFPar ?iFPar ?lFPar ?cFPar ?kFPar ?aFPath ?iFPath ?lFPath ?cFPath ?kFPath ?aFRoot ?iFRoot ?lFRoot ?cFRoot ?kFRoot ?aFDep ?iFDep ?lFDep ?cFDep ?kFDep ?aFChi ?iFChi ?lFChi ?cFChi ?kFChi ?aFRts ?iFRts ?lFRts ?cFRts ?kFRts ?aFRing ?iFRing ?lFRing ?cFRing ?kFRing ?aFSum ?iFSum ?lFSum ?cFSum ?kFSum ?aFDrw ?iFDrw ?lFDrw ?cFDrw ?kFDrw ?aFLen ?iFLen ?lFLen ?cFLen ?kFLen ?aFEq ?iFEq ?lFEq ?cFEq ?kFEq ?aIsName ?lIsName ?cIsName ?kIsName ?aIsNum ?lIsNum ?cIsNum ?kIsNum ?aAreN ?lAreN ?cAreN ?kAreN ?aLInit ?iLInit ?lLInit ?cLInit ?kLInit ?aLEq ?iLEq ?lLEq ?cLEq ?kLEq ?aFitsA ?lFitsA ?cFitsA ?kFitsA ?aWrap ?lWrap ?cWrap ?kWrap ?aBody ?lBody ?cBody ?kBody ?aGInit ?iGInit ?lGInit ?cGInit ?kGInit ?aTInit ?iTInit ?lTInit ?cTInit ?kTInit ?lTOf ?cTOf ?kTOf ?aTPut ?iTPut ?lTPut ?cTPut ?kTPut ?aTHas ?iTHas ?lTHas ?cTHas ?kTHas ?aTGrp ?iTGrp ?lTGrp ?cTGrp ?kTGrp ?aTMrg ?iTMrg ?lTMrg ?cTMrg ?kTMrg ?aTNam ?iTNam ?lTNam ?cTNam ?kTNam ?aTMem ?iTMem ?lTMem ?cTMem ?kTMem ?aTAbs ?iTAbs ?lTAbs ?cTAbs ?kTAbs ?aTNms ?iTNms ?lTNms ?cTNms ?kTNms ?aTSum ?iTSum ?lTSum ?cTSum ?kTSum ?aTEq ?iTEq ?lTEq ?cTEq ?kTEq ?aBag ?lBag ?cBag ?kBag ?aTake ?lTake ?cTake ?kTake ?aName ?lName ?cName ?kName ?aPool ?lPool ?cPool ?kPool ?aRows ?lRows ?cRows ?kRows ?aLet ?lLet ?cLet ?kLet ?aTurn ?lTurn ?cTurn ?kTurn ?aMix ?lMix ?cMix ?kMix ?aTFit ?lTFit ?cTFit ?kTFit ?aHang ?lHang ?cHang ?kHang ?aFFit ?lFFit ?cFFit ?kFFit ?aMany ?lMany ?cMany ?kMany ?aLaw ?lLaw ?cLaw ?kLaw ?aWalk ?iWalk ?lWalk ?cWalk ?kWalk ?kd1 ?kd2 ?kd3 ?em2 ?em3 ?esg ?e_MOST_SIGNS ?e_MOST_NUMBER ?e_ANSWERS_IN_ROW ?e_SUBJECT_IN_ROW ?e_WORDS_IN_ROW ?evA ?evS ?evW ?neFT ?neLF
    (case mL => k_is)
    (case pgL => k_is)
    (case hdL => k_is)
    (case poL => k_is)
    (case saL => k_is)
    (case haL => k_is)
    (case hmL => k_is)
    (case mkL => k_is)
    (case kcL => k_is)
    (case nL_number => k_is)
    (case nL_person => k_is)
    (case nL_house => k_is)
    (case nL_sender => k_is)
    (case nL_answers => k_is)
    (case nL_subject => k_is)
    (case nL_words => k_is)
    (case nL_text => k_is)
    (case mG => k_is)
    (case pgG => k_is)
    (case hdG => k_is)
    (case poG => k_is)
    (case saG => k_is)
    (case haG => k_is)
    (case hmG => k_is)
    (case mkG => k_is)
    (case kcG => k_is)
    (case nG_known => k_is)
    (case nG_lowest => k_is)
    (case mT => k_is)
    (case pgT => k_is)
    (case hdT => k_is)
    (case poT => k_is)
    (case saT => k_is)
    (case haT => k_is)
    (case hmT => k_is)
    (case mkT => k_is)
    (case kcT => k_is)
    (case nT_letters => k_is)
    (case nT_order => k_is)
    (case nT_groups => k_is)
    (case mF => k_is)
    (case pgF => k_is)
    (case hdF => k_is)
    (case poF => k_is)
    (case saF => k_is)
    (case haF => k_is)
    (case hmF => k_is)
    (case mkF => k_is)
    (case kcF => k_is)
    (case nF_letters => k_is)
    (case nF_above => k_is)
    (case nF_below => k_is)
    (case nF_rings => k_is)
    (case z_isinstance => k_is)
    (case z_len => k_is)
    (case z_all => k_is)
    (case z_set => k_is)
    (case z_range => k_is)
    (case z_enumerate => k_is)
    (case z_str => k_is)
    (case z_list => k_is)
    (case z_tuple => k_is)
    (case z_int => k_is)
    (case z_bool => k_is)
    (case z_max => k_is)
    (case z_min => k_is)
    (case z_sorted => k_is)
    (case z_reversed => k_is)
    (case z_sum => k_is)
    (case z_abs => k_is)
    (case z_repr => k_is)
    (case asg => k_is)
    (case a_MOST_SIGNS => k_is)
    (case a_MOST_NUMBER => k_is)
    (case a_ANSWERS_IN_ROW => k_is)
    (case a_SUBJECT_IN_ROW => k_is)
    (case a_WORDS_IN_ROW => k_is)
    (case hn => k_is)
    (case htk => k_is)
    (case rdL => k_is)
    (case gaL => k_is)
    (case rdT => k_is)
    (case gaT => k_is)
    (case rdF => k_is)
    (case gaF => k_is)
    (case cvA => k_is)
    (case cvS => k_is)
    (case cvW => k_is)
    (case icT => k_is)
    (case tyT => k_is)
    (case icF => k_is)
    (case tyF => k_is)
    (case suFT => k_is)
    (case suLF => k_is)
    (case fLL => k_is)
    (case fTT => k_is)
    (case fTF => k_is)
    (case fFF => k_is)
    (case fFL => k_is)
    (case cmT => k_is)
    (case rcT => k_is)
    (case fiT => k_is)
    (case cmF => k_is)
    (case rcF => k_is)
    (case fiF => k_is)
    (case aFInit => k_is)
    (case iFInit => k_is)
    (case lFInit => k_is)
    (case cFInit => k_is)
    (case kFInit => k_is)
    (case lFOf => k_is)
    (case cFOf => k_is)
    (case kFOf => k_is)
    (case aFPut => k_is)
    (case iFPut => k_is)
    (case lFPut => k_is)
    (case cFPut => k_is)
    (case kFPut => k_is)
    (case aFCr => k_is)
    (case iFCr => k_is)
    (case lFCr => k_is)
    (case cFCr => k_is)
    (case kFCr => k_is)
    (case aFCut => k_is)
    (case iFCut => k_is)
    (case lFCut => k_is)
    (case cFCut => k_is)
    (case kFCut => k_is)
    (case aFPar => k_is)
    (case iFPar => k_is)
    (case lFPar => k_is)
    (case cFPar => k_is)
    (case kFPar => k_is)
    (case aFPath => k_is)
    (case iFPath => k_is)
    (case lFPath => k_is)
    (case cFPath => k_is)
    (case kFPath => k_is)
    (case aFRoot => k_is)
    (case iFRoot => k_is)
    (case lFRoot => k_is)
    (case cFRoot => k_is)
    (case kFRoot => k_is)
    (case aFDep => k_is)
    (case iFDep => k_is)
    (case lFDep => k_is)
    (case cFDep => k_is)
    (case kFDep => k_is)
    (case aFChi => k_is)
    (case iFChi => k_is)
    (case lFChi => k_is)
    (case cFChi => k_is)
    (case kFChi => k_is)
    (case aFRts => k_is)
    (case iFRts => k_is)
    (case lFRts => k_is)
    (case cFRts => k_is)
    (case kFRts => k_is)
    (case aFRing => k_is)
    (case iFRing => k_is)
    (case lFRing => k_is)
    (case cFRing => k_is)
    (case kFRing => k_is)
    (case aFSum => k_is)
    (case iFSum => k_is)
    (case lFSum => k_is)
    (case cFSum => k_is)
    (case kFSum => k_is)
    (case aFDrw => k_is)
    (case iFDrw => k_is)
    (case lFDrw => k_is)
    (case cFDrw => k_is)
    (case kFDrw => k_is)
    (case aFLen => k_is)
    (case iFLen => k_is)
    (case lFLen => k_is)
    (case cFLen => k_is)
    (case kFLen => k_is)
    (case aFEq => k_is)
    (case iFEq => k_is)
    (case lFEq => k_is)
    (case cFEq => k_is)
    (case kFEq => k_is)
    (case aIsName => k_is)
    (case lIsName => k_is)
    (case cIsName => k_is)
    (case kIsName => k_is)
    (case aIsNum => k_is)
    (case lIsNum => k_is)
    (case cIsNum => k_is)
    (case kIsNum => k_is)
    (case aAreN => k_is)
    (case lAreN => k_is)
    (case cAreN => k_is)
    (case kAreN => k_is)
    (case aLInit => k_is)
    (case iLInit => k_is)
    (case lLInit => k_is)
    (case cLInit => k_is)
    (case kLInit => k_is)
    (case aLEq => k_is)
    (case iLEq => k_is)
    (case lLEq => k_is)
    (case cLEq => k_is)
    (case kLEq => k_is)
    (case aFitsA => k_is)
    (case lFitsA => k_is)
    (case cFitsA => k_is)
    (case kFitsA => k_is)
    (case aWrap => k_is)
    (case lWrap => k_is)
    (case cWrap => k_is)
    (case kWrap => k_is)
    (case aBody => k_is)
    (case lBody => k_is)
    (case cBody => k_is)
    (case kBody => k_is)
    (case aGInit => k_is)
    (case iGInit => k_is)
    (case lGInit => k_is)
    (case cGInit => k_is)
    (case kGInit => k_is)
    (case aTInit => k_is)
    (case iTInit => k_is)
    (case lTInit => k_is)
    (case cTInit => k_is)
    (case kTInit => k_is)
    (case lTOf => k_is)
    (case cTOf => k_is)
    (case kTOf => k_is)
    (case aTPut => k_is)
    (case iTPut => k_is)
    (case lTPut => k_is)
    (case cTPut => k_is)
    (case kTPut => k_is)
    (case aTHas => k_is)
    (case iTHas => k_is)
    (case lTHas => k_is)
    (case cTHas => k_is)
    (case kTHas => k_is)
    (case aTGrp => k_is)
    (case iTGrp => k_is)
    (case lTGrp => k_is)
    (case cTGrp => k_is)
    (case kTGrp => k_is)
    (case aTMrg => k_is)
    (case iTMrg => k_is)
    (case lTMrg => k_is)
    (case cTMrg => k_is)
    (case kTMrg => k_is)
    (case aTNam => k_is)
    (case iTNam => k_is)
    (case lTNam => k_is)
    (case cTNam => k_is)
    (case kTNam => k_is)
    (case aTMem => k_is)
    (case iTMem => k_is)
    (case lTMem => k_is)
    (case cTMem => k_is)
    (case kTMem => k_is)
    (case aTAbs => k_is)
    (case iTAbs => k_is)
    (case lTAbs => k_is)
    (case cTAbs => k_is)
    (case kTAbs => k_is)
    (case aTNms => k_is)
    (case iTNms => k_is)
    (case lTNms => k_is)
    (case cTNms => k_is)
    (case kTNms => k_is)
    (case aTSum => k_is)
    (case iTSum => k_is)
    (case lTSum => k_is)
    (case cTSum => k_is)
    (case kTSum => k_is)
    (case aTEq => k_is)
    (case iTEq => k_is)
    (case lTEq => k_is)
    (case cTEq => k_is)
    (case kTEq => k_is)
    (case aBag => k_is)
    (case lBag => k_is)
    (case cBag => k_is)
    (case kBag => k_is)
    (case aTake => k_is)
    (case lTake => k_is)
    (case cTake => k_is)
    (case kTake => k_is)
    (case aName => k_is)
    (case lName => k_is)
    (case cName => k_is)
    (case kName => k_is)
    (case aPool => k_is)
    (case lPool => k_is)
    (case cPool => k_is)
    (case kPool => k_is)
    (case aRows => k_is)
    (case lRows => k_is)
    (case cRows => k_is)
    (case kRows => k_is)
    (case aLet => k_is)
    (case lLet => k_is)
    (case cLet => k_is)
    (case kLet => k_is)
    (case aTurn => k_is)
    (case lTurn => k_is)
    (case cTurn => k_is)
    (case kTurn => k_is)
    (case aMix => k_is)
    (case lMix => k_is)
    (case cMix => k_is)
    (case kMix => k_is)
    (case aTFit => k_is)
    (case lTFit => k_is)
    (case cTFit => k_is)
    (case kTFit => k_is)
    (case aHang => k_is)
    (case lHang => k_is)
    (case cHang => k_is)
    (case kHang => k_is)
    (case aFFit => k_is)
    (case lFFit => k_is)
    (case cFFit => k_is)
    (case kFFit => k_is)
    (case aMany => k_is)
    (case lMany => k_is)
    (case cMany => k_is)
    (case kMany => k_is)
    (case aLaw => k_is)
    (case lLaw => k_is)
    (case cLaw => k_is)
    (case kLaw => k_is)
    (case aWalk => k_is)
    (case iWalk => k_is)
    (case lWalk => k_is)
    (case cWalk => k_is)
    (case kWalk => k_is)
    (case kd1 => k_is)
    (case kd2 => k_is)
    (case kd3 => k_is)
    (case em2 => k_is)
    (case em3 => k_is)
    (case esg => decide +kernel)
    (case e_MOST_SIGNS => rfl)
    (case e_MOST_NUMBER => rfl)
    (case e_ANSWERS_IN_ROW => rfl)
    (case e_SUBJECT_IN_ROW => rfl)
    (case e_WORDS_IN_ROW => rfl)
    (case evA => rfl)
    (case evS => rfl)
    (case evW => rfl)
    (case neFT => decide +kernel)
    (case neLF => decide +kernel)
