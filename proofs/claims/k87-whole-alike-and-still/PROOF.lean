import PyProof.Rows.All
import Wide.All
import OpenK.AllK
import Wide.FinOn
import HandS.ForMost
import HandS.Property
import HandS.Defaults
import HandS.HeadHook2
import HandS.Style
import HandS.Deep
import HandS.Walk
import HandS.TupAny
import HandS.Conv
import HandS.TupSets
import HandS.SortRule
import KE.GoesEnum
import HandS.SetFor
import HandS.DictComp
import KE.KDictDisplayH
import KE.KDictKeyed
import KE.KDictCopyH
import HandS.SetKeys
import KE.KStateDown
import HandS.Head0
import HandS.Head1
import HandS.Head2
import HandS.HeadEnd
import HandS.HeadHook1
import PySem.Challenge.RW_starward_k87_whole_alike_and_still
set_option Elab.async false
set_option linter.all false
set_option maxRecDepth 100000
set_option maxHeartbeats 1000000
/-! What the defs reckon, as plain functions. -/
namespace Sw
abbrev T3 := Int × Int × Int
abbrev P2 := Int × Int
/-- a sky as data -/
structure SkyD where
  side : Int
  stars : List T3
  reach : Int
  blur : Int
  glare : Int
  limit : Int
/-! numbers, turns -/
def absI (i : Int) : Int := if i < 0 then -i else i
def maxI (i j : Int) : Int := if j > i then j else i
def minI (i j : Int) : Int := if j < i then j else i
def rot (p : P2) : P2 := (-p.2, p.1)
def rotN : Nat → P2 → P2
  | 0, p => p
  | k + 1, p => rot (rotN k p)
def turnM (q : Int) (p : P2) : P2 := rotN (q % 4).toNat p
def nearM (n z : Int) : Int := if 2 * (z % n) ≤ n then z % n else z % n - n
def movePM (n : Int) (p : P2) (m : T3) : P2 := (((rotN m.2.2.toNat p).1 + m.1) % n, ((rotN m.2.2.toNat p).2 + m.2.1) % n)
def upto (n : Nat) : List Int := (List.range n).map fun i : Nat => (i : Int)
/-- all triples, ascending -/
def tripsM (n : Nat) : List T3 := (upto n).flatMap fun x => (upto n).flatMap fun y => (upto 4).map fun q => (x, y, q)
def MotOk (n : Int) (m : T3) : Prop := 0 ≤ m.1 ∧ m.1 < n ∧ 0 ≤ m.2.1 ∧ m.2.1 < n ∧ 0 ≤ m.2.2 ∧ m.2.2 ≤ 3
def StarOk (n : Int) (m : T3) : Prop := 0 ≤ m.1 ∧ m.1 < n ∧ 0 ≤ m.2.1 ∧ m.2.1 < n ∧ 1 ≤ m.2.2 ∧ m.2.2 ≤ 9
structure CamOk (n r b g l : Int) : Prop where
  r0 : 0 ≤ r
  r4 : r ≤ 4
  b0 : 0 ≤ b
  b2 : b ≤ 2
  g0 : 0 ≤ g
  g2 : g ≤ 2
  l1 : 1 ≤ l
  l9 : l ≤ 9
  br : b ≤ r
  room : 2 * (r + b) + 1 ≤ n
structure SkyOk (s : SkyD) : Prop where
  n4 : 4 ≤ s.side
  n9 : s.side ≤ 9
  cam : CamOk s.side s.reach s.blur s.glare s.limit
  few : s.stars.length ≤ 20
  stars : ∀ t ∈ s.stars, StarOk s.side t
  nd : s.stars.Nodup
structure SpotOk (s : SkyD) (p : T3) : Prop where
  x0 : -s.reach ≤ p.1
  x1 : p.1 ≤ s.reach
  y0 : -s.reach ≤ p.2.1
  y1 : p.2.1 ≤ s.reach
  b0 : s.limit ≤ p.2.2
  b1 : p.2.2 ≤ 9 + s.glare
/-! sorting -/
def ltT (a b : T3) : Bool := decide (a.1 < b.1) || (decide (a.1 = b.1) && (decide (a.2.1 < b.2.1) || (decide (a.2.1 = b.2.1) && decide (a.2.2 < b.2.2))))
def insT (a : T3) : List T3 → List T3
  | [] => [a]
  | b :: r => if ltT b a then b :: insT a r else a :: b :: r
def sort3 : List T3 → List T3
  | [] => []
  | a :: r => insT a (sort3 r)
/-! what is seen -/
def offM (s : SkyD) (a t : T3) : Option P2 :=
  if s.reach + s.blur < maxI (absI (nearM s.side (t.1 - a.1))) (absI (nearM s.side (t.2.1 - a.2.1))) then none
  else some (turnM (-a.2.2) (nearM s.side (t.1 - a.1), nearM s.side (t.2.1 - a.2.1)))
def inRoom (s : SkyD) (a : T3) (room least : Int) (t : T3) : Bool :=
  match offM s a t with
  | none => false
  | some o => decide (maxI (absI o.1) (absI o.2) ≤ room) && decide (least ≤ t.2.2)
def withinM (s : SkyD) (a : T3) (room least : Int) : List Int := (s.stars.zipIdx.filter fun p => inRoom s a room least p.1).map fun p => ((p.2 : Nat) : Int)
def seenM (s : SkyD) (a : T3) : List Int := withinM s a (s.reach + s.blur) (s.limit - s.glare)
def sureM (s : SkyD) (a : T3) : List Int := withinM s a (s.reach - s.blur) (s.limit + s.glare)
def starAt (s : SkyD) (i : Int) : T3 := s.stars.getD i.toNat (0, 0, 0)
def offAt (s : SkyD) (a : T3) (i : Int) : P2 := (offM s a (starAt s i)).getD (0, 0)
def seesM (s : SkyD) (a : T3) : List T3 := sort3 ((seenM s a).map fun i => ((offAt s a i).1, (offAt s a i).2, (starAt s i).2.2))
/-! motions -/
def moveM (n : Int) (a m : T3) : T3 := ((movePM n (a.1, a.2.1) m).1, (movePM n (a.1, a.2.1) m).2, (a.2.2 + m.2.2) % 4)
def cmdM (n : Int) (a c : T3) : T3 := ((a.1 + (turnM a.2.2 (c.1, c.2.1)).1) % n, (a.2.1 + (turnM a.2.2 (c.1, c.2.1)).2) % n, (a.2.2 + c.2.2) % 4)
def betwM (n : Int) (a b : T3) : T3 := ((b.1 - (turnM ((b.2.2 - a.2.2) % 4) (a.1, a.2.1)).1) % n, (b.2.1 - (turnM ((b.2.2 - a.2.2) % 4) (a.1, a.2.1)).2) % n, (b.2.2 - a.2.2) % 4)
def revM (n : Int) (m : T3) : T3 := ((turnM (-m.2.2) (-m.1, -m.2.1)).1 % n, (turnM (-m.2.2) (-m.1, -m.2.1)).2 % n, -m.2.2 % 4)
/-! what fits -/
def fitB (s : SkyD) (a t p : T3) : Bool :=
  match offM s a t with
  | none => false
  | some o => decide (maxI (absI (o.1 - p.1)) (absI (o.2 - p.2.1)) ≤ s.blur) && decide (absI (t.2.2 - p.2.2) ≤ s.glare)
def fitM (s : SkyD) (a t : T3) (sg : List T3) : List Int := (sg.zipIdx.filter fun p => fitB s a t p.1).map fun p => ((p.2 : Nat) : Int)
def tableM (s : SkyD) (a : T3) (sg : List T3) : List (List Int) := s.stars.map fun t => fitM s a t sg
/-! still -/
def brightM (s : SkyD) : List T3 := s.stars.filter fun t => decide (s.limit - s.glare ≤ t.2.2)
def movSt (n : Int) (t m : T3) : T3 := ((movePM n (t.1, t.2.1) m).1, (movePM n (t.1, t.2.1) m).2, t.2.2)
def stillB (s : SkyD) (m : T3) : Bool := (brightM s).all fun t => decide (movSt s.side t m ∈ brightM s)
def stillM (s : SkyD) : List T3 := (tripsM s.side.toNat).filter (stillB s)
/-! telling -/
def boundsM (s : SkyD) (v : T3) : List P2 := [(maxI (-s.reach) (v.1 - s.blur), minI s.reach (v.1 + s.blur)), (maxI (-s.reach) (v.2.1 - s.blur), minI s.reach (v.2.1 + s.blur)), (maxI s.limit (v.2.2 - s.glare), v.2.2 + s.glare)]
def liesM (b o : List P2) : Bool := (b.zip o).all fun p => decide (p.2.1 ≤ p.1.1) && decide (p.1.2 ≤ p.2.2)
def outM (b o : List P2) : List Int := (b.zip o).map fun p => if p.1.1 < p.2.1 then p.1.1 else p.1.2
def outT (b o : List P2) : T3 := ((outM b o).getD 0 0, (outM b o).getD 1 0, (outM b o).getD 2 0)
def cnt (v : T3) (l : List T3) : Nat := @List.count T3 instBEqOfDecidableEq v l
def unlikeM (s : SkyD) (f g : List T3) : List (List P2) := ((f ++ g).filter fun v => !decide (cnt v f = cnt v g)).map (boundsM s)
def leastM (s : SkyD) (f g : List T3) : Option (List P2) := (unlikeM s f g).find? fun b => !((unlikeM s f g).any fun o => !decide (o = b) && liesM o b)
def showM (s : SkyD) (v : List T3) (b : List P2) : List T3 := sort3 (v.map fun x => outT (boundsM s x) b)
def cntM (s : SkyD) (v : List T3) (b : List P2) : Nat := (v.filter fun x => !liesM (boundsM s x) b).length
def whichM (s : SkyD) (f g : List T3) (b : List P2) : Int :=
  if f.length = g.length then (if cntM s g b < cntM s f b then 0 else 1) else (if g.length < f.length then 0 else 1)
def placesM (n : Nat) : List T3 := (tripsM n).filter fun a => decide (a.2.2 = 0)
end Sw
/-! Plain: matchings; where numbers lie. -/
namespace Sw
/-! ### matchings -/
/-- l is part of A -/
def Sub {α : Type} (l A : List α) : Prop := ∃ r, (l ++ r).Perm A
def Mt {α β : Type} (R : α → β → Bool) (A : List α) (B : List β) (L : List (α × β)) : Prop := Sub (L.map (·.1)) A ∧ Sub (L.map (·.2)) B ∧ ∀ p ∈ L, R p.1 p.2 = true
def Mx {α β : Type} (R : α → β → Bool) (A : List α) (B : List β) (m : Nat) : Prop := (∃ L, Mt R A B L ∧ L.length = m) ∧ ∀ L, Mt R A B L → L.length ≤ m
theorem Mx.uniq {α β : Type} {R : α → β → Bool} {A : List α} {B : List β} {m n : Nat} (h : Mx R A B m) (k : Mx R A B n) : m = n := by
  obtain ⟨⟨L, h1, h2⟩, h3⟩ := h
  obtain ⟨⟨L', k1, k2⟩, k3⟩ := k
  have a := h3 L' k1
  have b := k3 L h1
  omega
open Classical in
/-- the most pairs -/
noncomputable def mxN {α β : Type} (R : α → β → Bool) (A : List α) (B : List β) : Nat := if h : ∃ m, Mx R A B m then Classical.choose h else 0
theorem mxN_eq {α β : Type} {R : α → β → Bool} {A : List α} {B : List β} {m : Nat} (h : Mx R A B m) : mxN R A B = m := by
  unfold mxN
  rw [dif_pos ⟨m, h⟩]
  exact (Classical.choose_spec (⟨m, h⟩ : ∃ m, Mx R A B m)).uniq h
theorem Sub.len {α : Type} {l A : List α} (h : Sub l A) : l.length ≤ A.length := by
  obtain ⟨r, p⟩ := h
  have := p.length_eq
  rw [List.length_append] at this
  omega
theorem Mt.len {α β : Type} {R : α → β → Bool} {A : List α} {B : List β} {L : List (α × β)} (h : Mt R A B L) : L.length ≤ A.length := by
  have := h.1.len
  rwa [List.length_map] at this
/-- there is a most -/
theorem mx_ex {α β : Type} (R : α → β → Bool) (A : List α) (B : List β) : ∃ m, Mx R A B m := by
  apply Classical.byContradiction
  intro no
  have step : ∀ n, ∃ L, Mt R A B L ∧ n ≤ L.length := by
    intro n
    induction n with
    | zero => exact ⟨[], ⟨⟨A, List.Perm.refl _⟩, ⟨B, List.Perm.refl _⟩, fun _ h => nomatch h⟩, Nat.le_refl _⟩
    | succ n ih =>
      obtain ⟨L, h1, h2⟩ := ih
      apply Classical.byContradiction
      intro q
      refine no ⟨L.length, ⟨L, h1, rfl⟩, fun L' h' => ?_⟩
      apply Classical.byContradiction
      intro z
      exact q ⟨L', h', by omega⟩
  obtain ⟨L, h1, h2⟩ := step (A.length + 1)
  have := h1.len
  omega
theorem mxN_mx {α β : Type} (R : α → β → Bool) (A : List α) (B : List β) : Mx R A B (mxN R A B) := by
  obtain ⟨m, h⟩ := mx_ex R A B
  rw [mxN_eq h]
  exact h
/-- a table's row i; which rows, how many columns -/
def rowT (table : List (List Int)) (i : Int) : List Int := table.getD i.toNat []
noncomputable def matM (table : List (List Int)) (rows : List Int) (c : Nat) : Nat := mxN (fun i j => decide (j ∈ rowT table i)) rows (upto c)
noncomputable def needOf (table : List (List Int)) (sure : List Int) (c : Nat) (many : Int) : P2 := ((sure.length : Int) - matM table sure c, many - matM table (upto table.length) c)
structure TabOk (table : List (List Int)) (c : Nat) : Prop where
  few : table.length ≤ 1000
  cols : c ≤ 1000
  nd : ∀ r ∈ table, r.Nodup
  rg : ∀ r ∈ table, ∀ j ∈ r, 0 ≤ j ∧ j < c
structure RowsOk (n : Nat) (rows : List Int) : Prop where
  nd : rows.Nodup
  rg : ∀ i ∈ rows, 0 ≤ i ∧ i < n
noncomputable def needM (s : SkyD) (a : T3) (sg : List T3) : P2 := needOf (tableM s a sg) (sureM s a) sg.length sg.length
/-! ### numbers of a filtered list -/
def numF {α : Type} (p : α → Bool) (L : List α) : List Int := (L.zipIdx.filter fun q => p q.1).map fun q => ((q.2 : Nat) : Int)
theorem numF_mem {α : Type} {p : α → Bool} {L : List α} {i : Int} (h : i ∈ numF p L) : 0 ≤ i ∧ i < L.length ∧ ∃ a, L[i.toNat]? = some a ∧ p a = true := by
  obtain ⟨q, hq, rfl⟩ := List.mem_map.mp h
  obtain ⟨h1, h2⟩ := List.mem_filter.mp hq
  obtain ⟨a, i⟩ := q
  have h3 := List.mem_zipIdx_iff_getElem?.mp h1
  dsimp only at h3 h2 ⊢
  obtain ⟨h4, _⟩ := List.getElem?_eq_some_iff.mp h3
  exact ⟨by omega, by omega, a, h3, h2⟩
theorem numF_iff {α : Type} {p : α → Bool} {L : List α} {i : Int} : i ∈ numF p L ↔ 0 ≤ i ∧ ∃ a, L[i.toNat]? = some a ∧ p a = true := by
  refine ⟨fun h => ⟨(numF_mem h).1, (numF_mem h).2.2⟩, fun ⟨h0, a, h1, h2⟩ => ?_⟩
  exact List.mem_map.mpr ⟨(a, i.toNat), List.mem_filter.mpr ⟨List.mem_zipIdx_iff_getElem?.mpr h1, h2⟩, by omega⟩
theorem upto_nodup (n : Nat) : (upto n).Nodup := by
  unfold upto
  refine List.pairwise_map.mpr (List.Pairwise.imp_of_mem ?_ List.nodup_range)
  intro a b _ _ h e
  exact h (by omega)
theorem mem_upto {n : Nat} {i : Int} : i ∈ upto n ↔ 0 ≤ i ∧ i < n := by
  unfold upto
  rw [List.mem_map]
  refine ⟨fun ⟨k, h, e⟩ => ?_, fun h => ⟨i.toNat, List.mem_range.mpr (by omega), by omega⟩⟩
  have := List.mem_range.mp h
  omega
theorem numF_nodup {α : Type} (p : α → Bool) (L : List α) : (numF p L).Nodup := by
  have h : (L.zipIdx.map fun q => ((q.2 : Nat) : Int)) = upto L.length := by
    unfold upto
    apply List.ext_getElem?
    intro i
    simp [List.getElem?_zipIdx]
    cases h : L[i]? with
    | none =>
      rw [List.getElem?_eq_none_iff] at h
      rw [List.getElem?_eq_none (by simpa using h)]
      rfl
    | some a =>
      obtain ⟨h4, _⟩ := List.getElem?_eq_some_iff.mp h
      rw [List.getElem?_range h4]
      simp
  have hs : (numF p L).Sublist (upto L.length) := by
    rw [← h]
    exact List.Sublist.map _ List.filter_sublist
  exact hs.nodup (upto_nodup _)
theorem within_num (s : SkyD) (a : T3) (room least : Int) : withinM s a room least = numF (inRoom s a room least) s.stars := rfl
theorem fit_num (s : SkyD) (a t : T3) (sg : List T3) : fitM s a t sg = numF (fitB s a t) sg := rfl
theorem within_at {s : SkyD} {a : T3} {room least : Int} {i : Int} (h : i ∈ withinM s a room least) : 0 ≤ i ∧ i < s.stars.length ∧ offM s a (starAt s i) = some (offAt s a i) ∧ starAt s i ∈ s.stars ∧ inRoom s a room least (starAt s i) = true := by
  obtain ⟨h0, h1, t, ht, hp⟩ := numF_mem h
  have e : starAt s i = t := by
    unfold starAt
    rw [List.getD_eq_getElem?_getD, ht]
    rfl
  refine ⟨h0, h1, ?_, by rw [e]; exact List.mem_of_getElem? ht, by rw [e]; exact hp⟩
  unfold offAt
  rw [e]
  unfold inRoom at hp
  cases q : offM s a t with
  | none => rw [q] at hp; cases hp
  | some o => rfl
theorem within_rows (s : SkyD) (a : T3) (room least : Int) : RowsOk s.stars.length (withinM s a room least) :=
  ⟨numF_nodup _ _, fun i h => ⟨(within_at h).1, (within_at h).2.1⟩⟩
theorem table_ok {s : SkyD} (a : T3) {sg : List T3} (h1 : s.stars.length ≤ 1000) (h2 : sg.length ≤ 1000) : TabOk (tableM s a sg) sg.length where
  few := by rw [tableM, List.length_map]; exact h1
  cols := h2
  nd := fun r hr => by
    obtain ⟨t, _, rfl⟩ := List.mem_map.mp hr
    exact numF_nodup _ _
  rg := fun r hr j hj => by
    obtain ⟨t, _, rfl⟩ := List.mem_map.mp hr
    obtain ⟨h0, h1, _⟩ := numF_mem hj
    exact ⟨h0, h1⟩
theorem upto_rows (n : Nat) : RowsOk n (upto n) := ⟨upto_nodup n, fun i h => mem_upto.mp h⟩
theorem within_len (s : SkyD) (a : T3) (room least : Int) : (withinM s a room least).length ≤ s.stars.length := by
  unfold withinM
  rw [List.length_map]
  refine Nat.le_trans (List.length_filter_le _ _) ?_
  rw [List.length_zipIdx]
  exact Nat.le_refl _
theorem trips_mem {n : Int} {m : T3} (h : m ∈ tripsM n.toNat) : MotOk n m := by
  unfold tripsM at h
  obtain ⟨x, hx, h⟩ := List.mem_flatMap.mp h
  obtain ⟨y, hy, h⟩ := List.mem_flatMap.mp h
  obtain ⟨q, hq, rfl⟩ := List.mem_map.mp h
  have h1 := mem_upto.mp hx
  have h2 := mem_upto.mp hy
  have h3 := mem_upto.mp hq
  unfold MotOk
  dsimp only
  omega
theorem mem_trips {n : Int} {m : T3} (h : MotOk n m) : m ∈ tripsM n.toNat := by
  obtain ⟨x, y, q⟩ := m
  unfold MotOk at h
  dsimp only at h
  refine List.mem_flatMap.mpr ⟨x, mem_upto.mpr (by omega), List.mem_flatMap.mpr ⟨y, mem_upto.mpr (by omega), List.mem_map.mpr ⟨q, mem_upto.mpr (by omega), rfl⟩⟩⟩
theorem flat_le {α β : Type} {f : α → List β} {c : Nat} (h : ∀ x, (f x).length ≤ c) : ∀ l : List α, (l.flatMap f).length ≤ l.length * c
  | [] => by simp
  | a :: l => by
    rw [List.flatMap_cons, List.length_append, List.length_cons, Nat.add_mul]
    have := h a
    have := flat_le h l
    omega
theorem trips_le {n : Nat} (h : n ≤ 9) : (tripsM n).length ≤ 324 := by
  have l0 : (upto n).length ≤ 9 := by simp [upto, h]
  have l1 : ∀ x : Int, ((upto n).flatMap fun y => (upto 4).map fun q => (x, y, q)).length ≤ 36 := fun x =>
    Nat.le_trans (flat_le (c := 4) (fun y => by simp [upto]) _) (Nat.mul_le_mul_right 4 l0)
  exact Nat.le_trans (flat_le (c := 36) l1 _) (Nat.mul_le_mul_right 36 l0)
/-! ### unlikeness -/
def closeL (s : SkyD) (a b : T3) (i j : Int) : Bool :=
  decide (absI ((offAt s a i).1 - (offAt s b j).1) ≤ 2 * s.blur) && (decide (absI ((offAt s a i).2 - (offAt s b j).2) ≤ 2 * s.blur) && decide (absI ((starAt s i).2.2 - (starAt s j).2.2) ≤ 2 * s.glare))
/-- who is near, of those seen from b, to i, seen from a -/
def nearL (s : SkyD) (a b : T3) (i : Int) : List Int := (seenM s b).filter (closeL s a b i)
def linkM (s : SkyD) (a b : T3) : List (List Int) := (upto s.stars.length).map fun i => if i ∈ seenM s a then nearL s a b i else []
noncomputable def lackM (s : SkyD) (a b : T3) : Int := if sureM s a = [] then 0 else (sureM s a).length - matM (linkM s a b) (sureM s a) s.stars.length
noncomputable def unlM (s : SkyD) (a b : T3) : Int := maxI (lackM s a b) (lackM s b a)
theorem link_ok {s : SkyD} (a b : T3) (h : s.stars.length ≤ 1000) : TabOk (linkM s a b) s.stars.length where
  few := by rw [linkM, List.length_map]; simpa [upto] using h
  cols := h
  nd := fun r hr => by
    obtain ⟨i, _, rfl⟩ := List.mem_map.mp hr
    split
    · exact (within_rows s b _ _).nd.filter _
    · exact List.nodup_nil
  rg := fun r hr j hj => by
    obtain ⟨i, _, rfl⟩ := List.mem_map.mp hr
    split at hj
    · exact (within_rows s b _ _).rg j (List.mem_filter.mp hj).1
    · exact nomatch hj
/-- who is sure is seen -/
theorem sure_seen {s : SkyD} (hb : 0 ≤ s.blur) (hg : 0 ≤ s.glare) {a : T3} {i : Int} (h : i ∈ sureM s a) : i ∈ seenM s a := by
  unfold sureM at h
  unfold seenM
  rw [within_num] at h ⊢
  obtain ⟨h0, t, ht, hp⟩ := numF_iff.mp h
  refine numF_iff.mpr ⟨h0, t, ht, ?_⟩
  unfold inRoom at hp ⊢
  cases q : offM s a t with
  | none => rw [q] at hp; cases hp
  | some o =>
    rw [q] at hp
    simp only [Bool.and_eq_true, decide_eq_true_eq] at hp ⊢
    omega
end Sw
/-! Plain: lots by still motions; ways by commands. -/
namespace Sw
def tKey (t : T3) : List Int := [t.1, t.2.1, t.2.2]
theorem tKey_inj {a b : T3} (h : tKey a = tKey b) : a = b := by
  obtain ⟨a1, a2, a3⟩ := a
  obtain ⟨b1, b2, b3⟩ := b
  simpa [tKey] using h
def addK (kn : List T3) (t : T3) : List T3 := if t ∈ kn then kn else kn ++ [t]
def lotM (s : SkyD) (a : T3) : List T3 := sort3 ((stillM s).map fun m => moveM s.side a m)
def slS (s : SkyD) (st : List T3 × List (List T3)) (a : T3) : List T3 × List (List T3) := if a ∈ st.1 then st else ((lotM s a).foldl addK st.1, st.2 ++ [lotM s a])
def slF (s : SkyD) (pre : List T3) : List T3 × List (List T3) := pre.foldl (slS s) ([], [])
def stillLotsM (s : SkyD) : List (List T3) := (slF s (tripsM s.side.toNat)).2
structure KnOk (n : Int) (kn : List T3) : Prop where
  nd : kn.Nodup
  ok : ∀ t ∈ kn, MotOk n t
theorem KnOk.nil {n : Int} : KnOk n [] := ⟨List.nodup_nil, fun _ h => nomatch h⟩
theorem KnOk.add {n : Int} {kn : List T3} (h : KnOk n kn) {t : T3} (ht : MotOk n t) : KnOk n (addK kn t) := by
  unfold addK
  split
  · exact h
  · rename_i hn
    refine ⟨List.nodup_append.mpr ⟨h.nd, by simp, fun a ha b hb e => ?_⟩, fun x hx => ?_⟩
    · rw [List.mem_singleton.mp hb] at e
      exact hn (e ▸ ha)
    · rcases List.mem_append.mp hx with hx | hx
      · exact h.ok x hx
      · rw [List.mem_singleton.mp hx]; exact ht
theorem KnOk.few {n : Int} (hn : n ≤ 9) {kn : List T3} (h : KnOk n kn) : kn.length ≤ 324 := by
  have := List.Nodup.length_le_of_subset h.nd (l₂ := tripsM n.toNat) fun x hx => mem_trips (h.ok x hx)
  exact Nat.le_trans this (trips_le (by omega))
theorem KnOk.adds {n : Int} {kn : List T3} (h : KnOk n kn) : ∀ {l : List T3}, (∀ t ∈ l, MotOk n t) → KnOk n (l.foldl addK kn)
  | [], _ => h
  | t :: l, hl => (h.add (hl t List.mem_cons_self)).adds fun x hx => hl x (List.mem_cons_of_mem _ hx)
theorem addK_mem {kn : List T3} {t x : T3} : x ∈ addK kn t ↔ x ∈ kn ∨ x = t := by
  unfold addK
  split
  · rename_i h
    exact ⟨.inl, fun h' => h'.elim id fun e => e ▸ h⟩
  · simp
theorem adds_mem : ∀ {l kn : List T3} {x : T3}, x ∈ l.foldl addK kn ↔ x ∈ kn ∨ x ∈ l
  | [], kn, x => by simp
  | t :: l, kn, x => by
    rw [List.foldl_cons, adds_mem, addK_mem, List.mem_cons, or_assoc]
theorem movePM_ok {n : Int} (hn : 0 < n) (p : P2) (m : T3) : 0 ≤ (movePM n p m).1 ∧ (movePM n p m).1 < n ∧ 0 ≤ (movePM n p m).2 ∧ (movePM n p m).2 < n :=
  ⟨Int.emod_nonneg _ (by omega), Int.emod_lt_of_pos _ hn, Int.emod_nonneg _ (by omega), Int.emod_lt_of_pos _ hn⟩
theorem moveM_ok {n : Int} (hn : 0 < n) (a m : T3) : MotOk n (moveM n a m) := by
  have h := movePM_ok hn (a.1, a.2.1) m
  refine ⟨h.1, h.2.1, h.2.2.1, h.2.2.2, ?_, ?_⟩
  · exact Int.emod_nonneg _ (by decide)
  · have := Int.emod_lt_of_pos (a.2.2 + m.2.2) (show (0 : Int) < 4 by decide)
    show (a.2.2 + m.2.2) % 4 ≤ 3
    omega
theorem cmdM_ok {n : Int} (hn : 0 < n) (a c : T3) : MotOk n (cmdM n a c) := by
  refine ⟨Int.emod_nonneg _ (by omega), Int.emod_lt_of_pos _ hn, Int.emod_nonneg _ (by omega), Int.emod_lt_of_pos _ hn, Int.emod_nonneg _ (by decide), ?_⟩
  have := Int.emod_lt_of_pos (a.2.2 + c.2.2) (show (0 : Int) < 4 by decide)
  show (a.2.2 + c.2.2) % 4 ≤ 3
  omega
theorem still_ok {s : SkyD} {m : T3} (h : m ∈ stillM s) : MotOk s.side m := trips_mem (List.mem_filter.mp h).1
theorem lot_ok {s : SkyD} (hn : 0 < s.side) (a : T3) : ∀ t ∈ lotM s a, MotOk s.side t := fun t ht => by
  have h2 : ∀ {l : List T3} {x : T3}, x ∈ sort3 l → x ∈ l := by
    intro l x h
    induction l with
    | nil => exact nomatch h
    | cons b l ih =>
      have ins : ∀ {m : List T3} {y : T3}, y ∈ insT b m → y = b ∨ y ∈ m := by
        intro m y hy
        induction m with
        | nil => simpa [insT] using hy
        | cons c m ih2 =>
          unfold insT at hy
          split at hy
          · rcases List.mem_cons.mp hy with e | hy
            · exact .inr (e ▸ List.mem_cons_self)
            · exact (ih2 hy).imp id (List.mem_cons_of_mem _)
          · rcases List.mem_cons.mp hy with e | hy
            · exact .inl e
            · exact .inr hy
      rcases ins h with e | h
      · exact e ▸ List.mem_cons_self
      · exact List.mem_cons_of_mem _ (ih h)
  obtain ⟨m, _, rfl⟩ := List.mem_map.mp (h2 ht)
  exact moveM_ok hn a m
theorem slF_snoc (s : SkyD) (pre : List T3) (a : T3) : slF s (pre ++ [a]) = slS s (slF s pre) a := by
  unfold slF
  rw [List.foldl_append]
  rfl
theorem slF_ok {s : SkyD} (hn : 0 < s.side) (pre : List T3) : KnOk s.side (slF s pre).1 ∧ (slF s pre).2.length ≤ pre.length := by
  have key : ∀ (l : List T3) (st : List T3 × List (List T3)), KnOk s.side st.1 → KnOk s.side (l.foldl (slS s) st).1 ∧ (l.foldl (slS s) st).2.length ≤ st.2.length + l.length := by
    intro l
    induction l with
    | nil => intro st h; exact ⟨h, by simp⟩
    | cons a l ih =>
      intro st h
      rw [List.foldl_cons]
      have h1 : KnOk s.side (slS s st a).1 := by
        unfold slS
        split
        · exact h
        · exact h.adds (lot_ok hn a)
      have h2 : (slS s st a).2.length ≤ st.2.length + 1 := by
        unfold slS
        split <;> simp
      obtain ⟨r1, r2⟩ := ih _ h1
      refine ⟨r1, ?_⟩
      rw [List.length_cons]
      omega
  have := key pre ([], []) KnOk.nil
  simpa [slF] using this
/-! ### ways -/
abbrev Way := T3 × Option (T3 × T3)
structure WI (n : Int) (start : T3) (f : List Way) : Prop where
  nd : (f.map (·.1)).Nodup
  ok : ∀ p ∈ f, MotOk n p.1
  st : start ∈ f.map (·.1)
  tree : ∀ pre t v post, f = pre ++ (t, v) :: post → v = none ∨ ∃ p c, v = some (p, c) ∧ p ∈ pre.map (·.1)
def wS (n : Int) (cur : T3) (f : List Way) (c : T3) : List Way := if cmdM n cur c ∈ f.map (·.1) then f else f ++ [(cmdM n cur c, some (cur, c))]
theorem wi_start {n : Int} {a : T3} (h : MotOk n a) : WI n a [(a, none)] where
  nd := by simp
  ok := fun p hp => by rw [List.mem_singleton.mp hp]; exact h
  st := by simp
  tree := fun pre t v post e => by
    cases pre with
    | nil =>
      have := (List.cons.inj e).1
      cases this
      exact .inl rfl
    | cons p pre =>
      have := congrArg List.length e
      simp at this
theorem WI.step {n : Int} {start cur c : T3} {f : List Way} (hn : 0 < n) (w : WI n start f) (hc : cur ∈ f.map (·.1)) : WI n start (wS n cur f c) := by
  unfold wS
  split
  · exact w
  · rename_i hn'
    refine ⟨?_, fun p hp => ?_, ?_, fun pre t v post e => ?_⟩
    · rw [List.map_append]
      refine List.nodup_append.mpr ⟨w.nd, by simp, fun a ha b hb e => ?_⟩
      have : b = cmdM n cur c := by simpa using hb
      exact hn' (by rw [← this, ← e]; exact ha)
    · rcases List.mem_append.mp hp with hp | hp
      · exact w.ok p hp
      · rw [List.mem_singleton.mp hp]; exact cmdM_ok hn cur c
    · rw [List.map_append]; exact List.mem_append_left _ w.st
    · rcases List.eq_nil_or_concat post with rfl | ⟨post', x, rfl⟩
      · have e' := List.append_inj' e rfl
        obtain ⟨rfl, e2⟩ := e'
        cases e2
        exact .inr ⟨cur, c, rfl, hc⟩
      · have e1 : f ++ [(cmdM n cur c, some (cur, c))] = (pre ++ (t, v) :: post') ++ [x] := by rw [e]; simp
        exact w.tree pre t v post' (List.append_inj' e1 rfl).1
theorem wS_mono {n : Int} {cur c : T3} {f : List Way} : ∃ r, wS n cur f c = f ++ r := by
  unfold wS
  split
  · exact ⟨[], by simp⟩
  · exact ⟨_, rfl⟩
theorem wS_has {n : Int} {cur c : T3} {f : List Way} : cmdM n cur c ∈ (wS n cur f c).map (·.1) := by
  unfold wS
  split
  · assumption
  · simp
theorem WI.few {n : Int} (hn : n ≤ 9) {start : T3} {f : List Way} (w : WI n start f) : f.length ≤ 324 := by
  have h : KnOk n (f.map (·.1)) := ⟨w.nd, fun t ht => by
    obtain ⟨p, hp, rfl⟩ := List.mem_map.mp ht
    exact w.ok p hp⟩
  have := h.few hn
  rwa [List.length_map] at this
/-! ### lots that look alike -/
abbrev ASt := List (List T3 × List T3)
def alS (s : SkyD) (st : ASt) (a : T3) : ASt := if seesM s a ∈ st.map (·.1) then st.map fun p => if p.1 = seesM s a then (p.1, p.2 ++ [a]) else p else st ++ [(seesM s a, [a])]
def alF (s : SkyD) (pre : List T3) : ASt := pre.foldl (alS s) []
def lotsM (s : SkyD) : List (List T3) := (alF s (tripsM s.side.toNat)).map (·.2)
theorem alF_snoc (s : SkyD) (pre : List T3) (a : T3) : alF s (pre ++ [a]) = alS s (alF s pre) a := by
  unfold alF
  rw [List.foldl_append]
  rfl
theorem alS_keys (s : SkyD) (st : ASt) (a : T3) : (alS s st a).map (·.1) = if seesM s a ∈ st.map (·.1) then st.map (·.1) else st.map (·.1) ++ [seesM s a] := by
  unfold alS
  split
  · rw [List.map_map]
    refine List.map_congr_left fun p _ => ?_
    show (if p.1 = seesM s a then (p.1, p.2 ++ [a]) else p).1 = p.1
    split <;> rfl
  · rw [List.map_append]
    rfl
theorem alF_nodup (s : SkyD) (pre : List T3) : ((alF s pre).map (·.1)).Nodup := by
  have key : ∀ (l : List T3) (st : ASt), (st.map (·.1)).Nodup → ((l.foldl (alS s) st).map (·.1)).Nodup := by
    intro l
    induction l with
    | nil => intro st h; exact h
    | cons a l ih =>
      intro st h
      refine ih _ ?_
      rw [alS_keys]
      split
      · exact h
      · rename_i hn
        refine List.nodup_append.mpr ⟨h, by simp, fun x hx y hy e => ?_⟩
        rw [List.mem_singleton.mp hy] at e
        exact hn (e ▸ hx)
  exact key pre [] List.nodup_nil
theorem alF_len (s : SkyD) (pre : List T3) : (alF s pre).length ≤ pre.length := by
  have key : ∀ (l : List T3) (st : ASt), (l.foldl (alS s) st).length ≤ st.length + l.length := by
    intro l
    induction l with
    | nil => intro st; simp
    | cons a l ih =>
      intro st
      rw [List.foldl_cons]
      refine Nat.le_trans (ih _) ?_
      have := congrArg List.length (alS_keys s st a)
      rw [List.length_map] at this
      rw [this]
      split <;> simp <;> omega
  simpa [alF] using key pre []
theorem alF_lots (s : SkyD) (pre : List T3) : ∀ p ∈ alF s pre, p.2.length ≤ pre.length := by
  have key : ∀ (l : List T3) (st : ASt) (n : Nat), (∀ p ∈ st, p.2.length ≤ n) → ∀ p ∈ l.foldl (alS s) st, p.2.length ≤ n + l.length := by
    intro l
    induction l with
    | nil => intro st n h; simpa using h
    | cons a l ih =>
      intro st n h p hp
      rw [List.foldl_cons] at hp
      have := ih (alS s st a) (n + 1) (fun q hq => by
        unfold alS at hq
        split at hq
        · obtain ⟨r, hr, rfl⟩ := List.mem_map.mp hq
          have := h r hr
          split
          · simp; omega
          · omega
        · rcases List.mem_append.mp hq with hq | hq
          · have := h q hq; omega
          · rw [List.mem_singleton.mp hq]; simp) p hp
      rw [List.length_cons]
      omega
  have := key pre [] 0 (fun _ h => nomatch h)
  simpa [alF] using this
theorem alS_old {s : SkyD} {st : ASt} {a : T3} {j : Nat} {lot : List T3} (nd : (st.map (·.1)).Nodup) (hj : st[j]? = some (seesM s a, lot)) : alS s st a = st.set j (seesM s a, lot ++ [a]) := by
  have hm : seesM s a ∈ st.map (·.1) := List.mem_map.mpr ⟨_, List.mem_of_getElem? hj, rfl⟩
  unfold alS
  rw [if_pos hm]
  apply List.ext_getElem?
  intro i
  rw [List.getElem?_map]
  by_cases e : j = i
  · subst e
    rw [hj, List.getElem?_set_self (List.getElem?_eq_some_iff.mp hj).1]
    simp
  · rw [List.getElem?_set_ne e]
    cases hi : st[i]? with
    | none => rfl
    | some p =>
      have hne : p.1 ≠ seesM s a := fun z => by
        have h1 : (st.map (·.1))[i]? = some (seesM s a) := by rw [List.getElem?_map, hi]; exact congrArg some z
        have h2 : (st.map (·.1))[j]? = some (seesM s a) := by rw [List.getElem?_map, hj]; rfl
        exact e ((List.getElem?_inj (by simpa using (List.getElem?_eq_some_iff.mp hj).1) nd).mp (h2.trans h1.symm))
      show some (if p.1 = seesM s a then (p.1, p.2 ++ [a]) else p) = some p
      rw [if_neg hne]
end Sw
/-! The text by places (printed by genhead.py). -/
namespace Sw
open PySem PySem.Spec PyProof.Rows L2
def top (i : Nat) : Stmt := PySem.Challenge.pw_starward_k87_whole_alike_and_still.main.body.getD i (.Pass ⟨0, 0, 0, 0⟩)
abbrev s_is_camera : Stmt := top 12
abbrev s_is_star : Stmt := top 13
abbrev s_moved_place : Stmt := top 14
abbrev s_is_motion : Stmt := top 15
abbrev s_is_spot : Stmt := top 17
abbrev s_check_sighting : Stmt := top 18
abbrev s_attitudes : Stmt := top 20
abbrev s_motions : Stmt := top 21
abbrev s_all_triples : Stmt := top 22
abbrev s_check_attitude : Stmt := top 23
abbrev s_check_command : Stmt := top 24
abbrev s_check_motion : Stmt := top 25
abbrev s_turned : Stmt := top 26
abbrev s_nearest : Stmt := top 27
abbrev s_offset_of : Stmt := top 28
abbrev s_offset : Stmt := top 29
abbrev s_within : Stmt := top 30
abbrev s_seen_stars : Stmt := top 31
abbrev s_sure_stars : Stmt := top 32
abbrev s_commanded : Stmt := top 33
abbrev s_moved : Stmt := top 34
abbrev s_motion_between : Stmt := top 35
abbrev s_reversed_motion : Stmt := top 36
abbrev s_give : Stmt := top 38
abbrev s_extend : Stmt := top 39
abbrev s_covering : Stmt := top 40
abbrev s_most : Stmt := top 41
abbrev s_fitting : Stmt := top 43
abbrev s_table_in : Stmt := top 44
abbrev s_need_of : Stmt := top 45
abbrev s_need_in : Stmt := top 46
abbrev s_check_both : Stmt := top 47
abbrev s_need : Stmt := top 48
abbrev s_sees : Stmt := top 50
abbrev s_alike_lots : Stmt := top 51
abbrev s_spots_of : Stmt := top 52
abbrev s_lies_in : Stmt := top 53
abbrev s_spot_outside : Stmt := top 54
abbrev s_least_unlike : Stmt := top 55
abbrev s_showing_outside : Stmt := top 56
abbrev s_count_outside : Stmt := top 57
abbrev s_telling_sighting : Stmt := top 58
abbrev s_check_telling : Stmt := top 59
abbrev s_still_motions : Stmt := top 60
abbrev s_still_lots : Stmt := top 61
abbrev s_sight : Stmt := top 63
abbrev s_link_table : Stmt := top 64
abbrev s_lack_by : Stmt := top 65
abbrev s_unlikeness_by : Stmt := top 66
abbrev s_unlikeness : Stmt := top 67
abbrev s_are_confusable : Stmt := top 68
abbrev s_check_commands : Stmt := top 70
abbrev s_ways_from : Stmt := top 71
abbrev s_row_along : Stmt := top 72
abbrev s_check_two : Stmt := top 75
abbrev s_row_to_teller : Stmt := top 76
abbrev s_telling_row : Stmt := top 77
abbrev s_places_of : Stmt := top 78
abbrev s_telling_places : Stmt := top 79
abbrev s_is_hidden : Stmt := top 80
abbrev s_hidden_motions : Stmt := top 81
abbrev s__law_row : Stmt := top 83
abbrev s__law_numbers : Stmt := top 84
abbrev s__law_turned : Stmt := top 85
abbrev s__law_near : Stmt := top 86
abbrev s__law_sky : Stmt := top 87
abbrev s__law_motion : Stmt := top 88
abbrev s__law_star : Stmt := top 89
abbrev s__law_made : Stmt := top 90
abbrev s__law_all : Stmt := top 91
abbrev s__law_attitude : Stmt := top 92
abbrev s__law_offset : Stmt := top 93
abbrev s__law_seen : Stmt := top 94
abbrev s__law_close : Stmt := top 95
abbrev s__law_give : Stmt := top 96
abbrev s__law_most : Stmt := top 97
abbrev s__law_need : Stmt := top 98
abbrev s__law_moved : Stmt := top 99
abbrev s__law_spot : Stmt := top 100
abbrev s__law_sighting : Stmt := top 101
abbrev s_law : Stmt := top 102
abbrev s_Sky_init : Stmt := inClass (top 16) 0
abbrev s_Sky_star_at : Stmt := inClass (top 16) 8
abbrev s_Chart_init : Stmt := inClass (top 74) 0
abbrev s_Chart_tells : Stmt := inClass (top 74) 1
abbrev s_Sky_side : Stmt := inClass (top 16) 1
abbrev s_Sky_stars : Stmt := inClass (top 16) 2
abbrev s_Sky_reach : Stmt := inClass (top 16) 4
abbrev s_Sky_blur : Stmt := inClass (top 16) 5
abbrev s_Sky_glare : Stmt := inClass (top 16) 6
abbrev s_Sky_limit : Stmt := inClass (top 16) 7
end Sw
/-! The data layer: values that stand for data (Dat), a frozen part F of the heap, a ledger O of what may change. -/
namespace Sw
open PySem PySem.Spec L2
/-- data: what a value stands for; loc p is the thing at p that may change -/
inductive Dat where
  | non | bl (b : Bool) | int (i : Int) | tup (xs : List Dat) | lst (xs : List Dat) | fzl (xs : List Dat) | loc (p : Addr) | sky (s : SkyD)
  | dic (ks : List Int) (ds : List Dat) | dct (ks : List (List Int)) (ds : List Dat) | obj (c : Addr) (fs : List Str) (ds : List Dat)
def t3 (a : T3) : Dat := .tup [.int a.1, .int a.2.1, .int a.2.2]
def t2 (a : P2) : Dat := .tup [.int a.1, .int a.2]
def keyT (k : List Int) : List Key := k.map Sum.inl
/-- the attributes of a Sky in their order -/
def skyF (n : Int) (p q : Addr) : List (Str × V) := putF "_camera" (.ref q) (putF "_stars" (.ref p) (putF "_side" (.int n) []))
mutual
inductive Dv (K : PySem.W.Frag) (C : Addr) (F : Hp) : V → Dat → Prop
  | non : Dv K C F .non .non
  | bl (b : Bool) : Dv K C F (.bl b) (.bl b)
  | int (i : Int) : Dv K C F (.int i) (.int i)
  | loc (p : Addr) : Dv K C F (.ref p) (.loc p)
  | tup {a : Addr} {xs : List V} {ds : List Dat} : F a = some (.tup xs) → DvAll K C F xs ds → Dv K C F (.ref a) (.tup ds)
  | lst {a : Addr} {xs : List V} {ds : List Dat} : F a = some (.lst xs) → DvAll K C F xs ds → Dv K C F (.ref a) (.lst ds)
  | fzl {a : Addr} {xs : List V} {ds : List Dat} : SqL K F a xs → DvAll K C F xs ds → Dv K C F (.ref a) (.fzl ds)
  | sky {a dx p q : Addr} {xs : List V} {s : SkyD} : F a = some (.ins C dx (skyF s.side p q)) → F p = some (.tup xs) → DvAll K C F xs (s.stars.map t3) →
      F q = some (.tup [.int s.reach, .int s.blur, .int s.glare, .int s.limit]) → Dv K C F (.ref a) (.sky s)
  | dic {a : Addr} {od : Obj} {zs : List (Key × V)} {ks : List Int} {ds : List Dat} : F a = some (.frz od (.dK zs)) → zs.map (·.1) = ks.map Sum.inl → DvAll K C F (zs.map (·.2)) ds → Dv K C F (.ref a) (.dic ks ds)
  | dct {a : Addr} {od : Obj} {zs : List (List Key × V)} {ks : List (List Int)} {ds : List Dat} : F a = some (.frz od (.dT zs)) → zs.map (·.1) = ks.map keyT → DvAll K C F (zs.map (·.2)) ds → Dv K C F (.ref a) (.dct ks ds)
  | obj {a c dx : Addr} {zs : List (Str × V)} {fs : List Str} {ds : List Dat} : F a = some (.ins c dx zs) → zs.map (·.1) = fs → DvAll K C F (zs.map (·.2)) ds → Dv K C F (.ref a) (.obj c fs ds)
inductive DvAll (K : PySem.W.Frag) (C : Addr) (F : Hp) : List V → List Dat → Prop
  | nil : DvAll K C F [] []
  | cons {v : V} {vs : List V} {d : Dat} {ds : List Dat} : Dv K C F v d → DvAll K C F vs ds → DvAll K C F (v :: vs) (d :: ds)
end
/-! ### more of the heap -/
def Ex (H H' : Hp) : Prop := ∀ a o, H a = some o → H' a = some o
theorem Ex.refl (H : Hp) : Ex H H := fun _ _ h => h
theorem Ex.trans {H H1 H2 : Hp} (a : Ex H H1) (b : Ex H1 H2) : Ex H H2 := fun x o h => b x o (a x o h)
theorem Ex.new {H : Hp} {p : Addr} {o : HO} (h : H p = none) : Ex H (upd H p o) := fun a u e => by
  rw [upd_ne (ne_of_none e h)]
  exact e
theorem Ex.upd2 {F H : Hp} {p : Addr} {o : HO} (e : Ex F H) : Ex (upd F p o) (upd H p o) := fun a u h => by
  by_cases q : a = p
  · subst q
    rw [upd_same] at h ⊢
    exact h
  · rw [upd_ne q] at h ⊢
    exact e a u h
theorem Ex.side {F H : Hp} {p : Addr} {o : HO} (e : Ex F H) (h : F p = none) : Ex F (upd H p o) := fun a u ha => by
  rw [upd_ne (ne_of_none ha h)]
  exact e a u ha
theorem Ex.free {F H : Hp} {p : Addr} (e : Ex F H) (h : H p = none) : F p = none := by
  cases q : F p with
  | none => rfl
  | some o =>
    rw [e p o q] at h
    cases h
section
variable {K : PySem.W.Frag} {C : Addr} {F F' H : Hp} {a : Addr} {xs : List V}
theorem rdE {u : HO} (e : Ex F F') (h : Rd F a u) : Rd F' a u := by
  rcases h with h | ⟨o, h⟩
  · exact .inl (e _ _ h)
  · exact .inr ⟨o, e _ _ h⟩
theorem seqE (e : Ex F F') (h : SqL K F a xs) : SqL K F' a xs := by
  rcases h with h | h
  · exact .inl (rdE e h)
  · exact .inr h
theorem tupE (e : Ex F F') (h : SqT K F a xs) : SqT K F' a xs := by
  rcases h with h | h
  · exact .inl (rdE e h)
  · exact .inr h
mutual
theorem Dv.mono (e : Ex F F') : ∀ {v : V} {d : Dat}, Dv K C F v d → Dv K C F' v d
  | _, _, .non => .non
  | _, _, .bl b => .bl b
  | _, _, .int i => .int i
  | _, _, .loc p => .loc p
  | _, _, .tup h1 h2 => .tup (e _ _ h1) (DvAll.mono e h2)
  | _, _, .lst h1 h2 => .lst (e _ _ h1) (DvAll.mono e h2)
  | _, _, .fzl h1 h2 => .fzl (seqE e h1) (DvAll.mono e h2)
  | _, _, .sky h1 h2 h3 h4 => .sky (e _ _ h1) (e _ _ h2) (DvAll.mono e h3) (e _ _ h4)
  | _, _, .dic h1 h2 h3 => .dic (e _ _ h1) h2 (DvAll.mono e h3)
  | _, _, .dct h1 h2 h3 => .dct (e _ _ h1) h2 (DvAll.mono e h3)
  | _, _, .obj h1 h2 h3 => .obj (e _ _ h1) h2 (DvAll.mono e h3)
theorem DvAll.mono (e : Ex F F') : ∀ {vs : List V} {ds : List Dat}, DvAll K C F vs ds → DvAll K C F' vs ds
  | _, _, .nil => .nil
  | _, _, .cons h1 h2 => .cons (Dv.mono e h1) (DvAll.mono e h2)
end
theorem DvAll.length : ∀ {vs : List V} {ds : List Dat}, DvAll K C F vs ds → vs.length = ds.length
  | _, _, .nil => rfl
  | _, _, .cons _ h => congrArg (· + 1) (DvAll.length h)
theorem DvAll.get : ∀ {vs : List V} {ds : List Dat} {i : Nat} {d : Dat}, DvAll K C F vs ds → ds[i]? = some d → ∃ v, vs[i]? = some v ∧ Dv K C F v d
  | _, _, _, _, .nil, e => by simp at e
  | _, _, 0, _, .cons h _, e => by
    simp at e
    subst e
    exact ⟨_, rfl, h⟩
  | _, _, i + 1, d, .cons _ h, e => by
    obtain ⟨v, h1, h2⟩ := DvAll.get (i := i) (d := d) h (by simpa using e)
    exact ⟨v, by simpa using h1, h2⟩
theorem DvAll.get' {vs : List V} {ds : List Dat} {i : Nat} {v : V} (h : DvAll K C F vs ds) (e : vs[i]? = some v) : ∃ d, ds[i]? = some d ∧ Dv K C F v d := by
  have hl := h.length
  obtain ⟨hi, _⟩ := List.getElem?_eq_some_iff.mp e
  obtain ⟨v', e1, h1⟩ := h.get (i := i) (d := ds[i]'(by omega)) (List.getElem?_eq_getElem (by omega))
  rw [e] at e1
  cases e1
  exact ⟨_, List.getElem?_eq_getElem (by omega), h1⟩
theorem DvAll.append : ∀ {vs ws : List V} {ds es : List Dat}, DvAll K C F vs ds → DvAll K C F ws es → DvAll K C F (vs ++ ws) (ds ++ es)
  | _, _, _, _, .nil, h => h
  | _, _, _, _, .cons h1 h2, h => .cons h1 (DvAll.append h2 h)
theorem DvAll.take : ∀ {vs : List V} {ds : List Dat} (n : Nat), DvAll K C F vs ds → DvAll K C F (vs.take n) (ds.take n)
  | _, _, 0, _ => .nil
  | _, _, n + 1, .nil => .nil
  | _, _, n + 1, .cons h1 h2 => .cons h1 (DvAll.take n h2)
theorem DvAll.drop : ∀ {vs : List V} {ds : List Dat} (n : Nat), DvAll K C F vs ds → DvAll K C F (vs.drop n) (ds.drop n)
  | _, _, 0, h => h
  | _, _, n + 1, .nil => .nil
  | _, _, n + 1, .cons _ h2 => DvAll.drop n h2
theorem DvAll.set : ∀ {vs : List V} {ds : List Dat} (i : Nat) {v : V} {d : Dat}, DvAll K C F vs ds → Dv K C F v d → DvAll K C F (vs.set i v) (ds.set i d)
  | _, _, _, _, _, .nil, _ => .nil
  | _, _, 0, _, _, .cons _ h2, h => .cons h h2
  | _, _, i + 1, _, _, .cons h1 h2, h => .cons h1 (DvAll.set i h2 h)
theorem DvAll.one {v : V} {d : Dat} (h : Dv K C F v d) : DvAll K C F [v] [d] := .cons h .nil
end
/-! ### what may change -/
/-- a thing that may change: a list, a dict by ints, a dict by tuples of ints, another -/
inductive MO where
  | lst (xs : List Dat)
  | dI (kvs : List (Int × Dat))
  | dT (kvs : List (List Int × Dat))
  | ex (φ : Hp → HO → Prop)
abbrev Led := List (Addr × MO)
def MOk (K : PySem.W.Frag) (C : Addr) (F H : Hp) (p : Addr) : MO → Prop
  | .lst xs => ∃ vs, H p = some (.lst vs) ∧ DvAll K C F vs xs
  | .dI kvs => ∃ zs : List (Key × V), H p = some (.dK zs) ∧ zs.map (·.1) = kvs.map (fun q => Sum.inl q.1) ∧ DvAll K C F (zs.map (·.2)) (kvs.map (·.2))
  | .dT kvs => ∃ zs : List (List Key × V), H p = some (.dT zs) ∧ zs.map (·.1) = kvs.map (fun q => keyT q.1) ∧ DvAll K C F (zs.map (·.2)) (kvs.map (·.2))
  | .ex φ => ∃ o, H p = some o ∧ (∀ xs, o ≠ .tup xs) ∧ (∀ F', Ex F F' → φ F' o)
structure Ok (K : PySem.W.Frag) (C : Addr) (F : Hp) (O : Led) (H : Hp) : Prop where
  ex : Ex F H
  fr : ∀ e ∈ O, F e.1 = none
  nd : (O.map (·.1)).Nodup
  at_ : ∀ e ∈ O, MOk K C F H e.1 e.2
/-- from (F, H) to (F', H'), nothing but what stands at D changed -/
structure Grow (D : List Addr) (F H F' H' : Hp) : Prop where
  ex : Ex F F'
  keep : ∀ b o, H b = some o → b ∉ D → H' b = some o
  there : ∀ b, H b ≠ none → H' b ≠ none
  new : ∀ b, H b ≠ none → F b = none → (∀ xs, H b ≠ some (.tup xs)) → F' b = none
  ty : ∀ b, H b ≠ none → (∀ xs, H b ≠ some (.tup xs)) → ∀ xs, H' b ≠ some (.tup xs)
section
variable {K : PySem.W.Frag} {C : Addr} {F F' F1 F2 H H' H1 H2 : Hp} {O O' : Led} {D D' : List Addr}
theorem MOk.some {p : Addr} {m : MO} (h : MOk K C F H p m) : H p ≠ none := by
  cases m with
  | lst xs => obtain ⟨vs, e, _⟩ := h; rw [e]; simp
  | dI kvs => obtain ⟨vs, e, _⟩ := h; rw [e]; simp
  | dT kvs => obtain ⟨vs, e, _⟩ := h; rw [e]; simp
  | ex φ => obtain ⟨o, e, _⟩ := h; rw [e]; simp
theorem MOk.nt {p : Addr} {m : MO} (h : MOk K C F H p m) : ∀ xs : List V, H p ≠ Option.some (HO.tup xs) := fun xs z => by
  cases m with
  | lst xs => obtain ⟨vs, e, _⟩ := h; rw [e] at z; cases z
  | dI kvs => obtain ⟨vs, e, _⟩ := h; rw [e] at z; cases z
  | dT kvs => obtain ⟨vs, e, _⟩ := h; rw [e] at z; cases z
  | ex φ => obtain ⟨o, e, n, _⟩ := h; rw [e] at z; cases z; exact n _ rfl
theorem MOk.mono {p : Addr} {m : MO} (h : MOk K C F H p m) (e : Ex F F') (k : H' p = H p) : MOk K C F' H' p m := by
  cases m with
  | lst xs => obtain ⟨vs, e1, h1⟩ := h; exact ⟨vs, k.trans e1, h1.mono e⟩
  | dI kvs => obtain ⟨vs, e1, h0, h1⟩ := h; exact ⟨vs, k.trans e1, h0, h1.mono e⟩
  | dT kvs => obtain ⟨vs, e1, h0, h1⟩ := h; exact ⟨vs, k.trans e1, h0, h1.mono e⟩
  | ex φ => obtain ⟨o, e1, n, h1⟩ := h; exact ⟨o, k.trans e1, n, fun F'' e' => h1 F'' (e.trans e')⟩
theorem Grow.refl : Grow D F H F H := ⟨Ex.refl F, fun _ _ h _ => h, fun _ h => h, fun _ _ h _ => h, fun _ _ h => h⟩
theorem Grow.mono (g : Grow D F H F' H') (h : ∀ b ∈ D, b ∈ D') : Grow D' F H F' H' := ⟨g.ex, fun b o e n => g.keep b o e fun m => n (h b m), g.there, g.new, g.ty⟩
/-- D' : in D, or new behind H -/
theorem Grow.trans (g : Grow D F H F1 H1) (g' : Grow D' F1 H1 F2 H2) (h : ∀ b ∈ D', b ∈ D ∨ H b = none) : Grow D F H F2 H2 where
  ex := g.ex.trans g'.ex
  keep := fun b o e n => g'.keep b o (g.keep b o e n) fun m => by
    rcases h b m with q | q
    · exact n q
    · rw [q] at e; cases e
  there := fun b n => g'.there b (g.there b n)
  new := fun b n e t => g'.new b (g.there b n) (g.new b n e t) (g.ty b n t)
  ty := fun b n t => g'.ty b (g.there b n) (g.ty b n t)
theorem Grow.keepE (g : Grow [] F H F' H') : Ex H H' := fun b o e => g.keep b o e (by simp)
theorem Ok.empty (h : Ex F H) : Ok K C F [] H := ⟨h, fun _ z => by simp at z, List.nodup_nil, fun _ z => by simp at z⟩
/-- the ledger stands where nothing of it was touched -/
theorem Ok.grow (h : Ok K C F O H) (g : Grow D F H F' H') (e : Ex F' H') (hd : ∀ x ∈ O, x.1 ∉ D) : Ok K C F' O H' where
  ex := e
  fr := fun x hx => g.new _ (h.at_ x hx).some (h.fr x hx) (h.at_ x hx).nt
  nd := h.nd
  at_ := fun x hx => (h.at_ x hx).mono g.ex (by
    cases q : H x.1 with
    | none => exact absurd q (h.at_ x hx).some
    | some o => exact g.keep _ o q (hd x hx))
theorem Ok.grow0 (h : Ok K C F O H) (g : Grow [] F H F' H') (e : Ex F' H') : Ok K C F' O H' := h.grow g e fun _ _ => by simp
theorem Ok.nil (h : Ok K C F O H) : Ok K C F [] H := Ok.empty h.ex
/-- a new frozen thing -/
theorem Grow.frz {p : Addr} {o : HO} (hp : H p = none) (hF : F p = none) : Grow D F H (upd F p o) (upd H p o) where
  ex := Ex.new hF
  keep := fun b u e _ => by rw [upd_ne (ne_of_none e hp)]; exact e
  there := fun b n => by
    by_cases q : b = p
    · subst q; rw [upd_same]; simp
    · rw [upd_ne q]; exact n
  new := fun b n e _ => by
    by_cases q : b = p
    · subst q; exact absurd hp n
    · rw [upd_ne q]; exact e
  ty := fun b n t xs => by
    rw [upd_ne (fun q => n (by rw [q]; exact hp))]
    exact t xs
/-- a new thing that may change -/
theorem Grow.own {p : Addr} {o : HO} (hp : H p = none) : Grow D F H F (upd H p o) where
  ex := Ex.refl F
  keep := fun b u e _ => by rw [upd_ne (ne_of_none e hp)]; exact e
  there := fun b n => by
    by_cases q : b = p
    · subst q; rw [upd_same]; simp
    · rw [upd_ne q]; exact n
  new := fun b n e _ => e
  ty := fun b n t xs => by
    rw [upd_ne (fun q => n (by rw [q]; exact hp))]
    exact t xs
/-- a thing that may change, changed -/
theorem Grow.put {p : Addr} {o : HO} (hD : p ∈ D) (ht : ∀ xs, o ≠ .tup xs := by intro xs h; cases h) : Grow D F H F (upd H p o) where
  ex := Ex.refl F
  keep := fun b u e n => by rw [upd_ne (fun q => n (by rw [q]; exact hD))]; exact e
  there := fun b n => by
    by_cases q : b = p
    · subst q; rw [upd_same]; simp
    · rw [upd_ne q]; exact n
  new := fun b n e _ => e
  ty := fun b n t xs => by
    by_cases q : b = p
    · rw [q, upd_same]; exact fun z => ht xs (Option.some.inj z)
    · rw [upd_ne q]; exact t xs
end
end Sw
/-! The data layer: what evaluates to which data; statements from assertion to assertion. -/
namespace Sw
open PySem PySem.Spec L2
abbrev Dsl := List (Option Dat)
def EnvOk (K : PySem.W.Frag) (C : Addr) (F : Hp) (σ : St) (ds : Dsl) : Prop :=
  ds.length = σ.length ∧ ∀ (i : Nat) (d : Dat), ds[i]? = some (some d) → ∃ v, σ[i]? = some (some v) ∧ Dv K C F v d
theorem EnvOk.mono {K : PySem.W.Frag} {C : Addr} {F F' : Hp} {σ : St} {ds : Dsl} (h : EnvOk K C F σ ds) (e : Ex F F') : EnvOk K C F' σ ds :=
  ⟨h.1, fun i d q => let ⟨v, h1, h2⟩ := h.2 i d q; ⟨v, h1, h2.mono e⟩⟩
theorem EnvOk.set {K : PySem.W.Frag} {C : Addr} {F : Hp} {σ : St} {ds : Dsl} (h : EnvOk K C F σ ds) (i : Nat) {v : V} {d : Dat} (hd : Dv K C F v d) : EnvOk K C F (σ.set i (some v)) (ds.set i (some d)) := by
  refine ⟨by simp [h.1], fun j e q => ?_⟩
  by_cases hj : i = j
  · subst hj
    by_cases hi : i < ds.length
    · rw [List.getElem?_set_self hi] at q
      cases q
      rw [List.getElem?_set_self (by rw [← h.1]; exact hi)]
      exact ⟨v, rfl, hd⟩
    · rw [List.getElem?_eq_none (by simpa using hi)] at q
      cases q
  · rw [List.getElem?_set_ne hj] at q ⊢
    exact h.2 j e q
/-- the slots of ds' are known to hold no more than those of ds -/
def Wk : Dsl → Dsl → Prop
  | [], [] => True
  | _ :: as, none :: bs => Wk as bs
  | a :: as, some d :: bs => a = some d ∧ Wk as bs
  | _, _ => False
theorem Wk.length : ∀ {as bs : Dsl}, Wk as bs → as.length = bs.length
  | [], [], _ => rfl
  | _ :: as, none :: bs, h => congrArg (· + 1) (Wk.length (as := as) (bs := bs) h)
  | a :: as, some d :: bs, h => congrArg (· + 1) (Wk.length (as := as) (bs := bs) h.2)
  | [], _ :: _, h => h.elim
theorem Wk.get : ∀ {as bs : Dsl}, Wk as bs → ∀ {i : Nat} {d : Dat}, bs[i]? = some (some d) → as[i]? = some (some d)
  | [], [], _, _, _, q => by simp at q
  | _ :: as, none :: bs, h, 0, d, q => by simp at q
  | _ :: as, none :: bs, h, i + 1, d, q => by
    have := Wk.get (as := as) (bs := bs) h (i := i) (d := d) (by simpa using q)
    simpa using this
  | a :: as, some e :: bs, h, 0, d, q => by
    simp at q
    subst q
    simp [h.1]
  | a :: as, some e :: bs, h, i + 1, d, q => by
    have := Wk.get (as := as) (bs := bs) h.2 (i := i) (d := d) (by simpa using q)
    simpa using this
  | [], _ :: _, h, _, _, _ => h.elim
theorem Wk.refl : ∀ (as : Dsl), Wk as as
  | [] => trivial
  | none :: as => Wk.refl as
  | some d :: as => ⟨rfl, Wk.refl as⟩
theorem EnvOk.weak {K : PySem.W.Frag} {C : Addr} {F : Hp} {σ : St} {ds ds' : Dsl} (h : EnvOk K C F σ ds) (w : Wk ds ds') : EnvOk K C F σ ds' :=
  ⟨w.length ▸ h.1, fun i d q => h.2 i d (w.get q)⟩
/-! ### the weakest readings -/
section
variable (X : Cx)
def wE (e : Expr) : TE := fun σ H Q => ∀ pins s, Inv X pins σ H s → wpAny (model X.prog X.w) X.A (eval e X.env) (EP X pins σ Q) X.xe s
def wT (e : Expr) : TT := fun σ H Q => ∀ pins s, Inv X pins σ H s → wpAny (model X.prog X.w) X.A (isTrue e X.env (eval e X.env)) (TP X pins σ Q) X.xe s
def wA (es : List Expr) : TA := fun σ H Q => ∀ pos pins s, Inv X pins σ H s → wpAny (model X.prog X.w) X.A (spliced (backTo pos (starEach es X.env))) (AP X pins σ Q) X.xe s
def wSs (st : List Stmt) : TS := fun D σ H => ∀ pins s, Inv X pins σ H s → wpAny (model X.prog X.w) X.A (execs st X.env) (SP X pins D) X.xe s
variable {X}
theorem pe_w {e : Expr} : PE X e (wE X e) := ⟨fun pins s _ _ _ I h => h pins s I⟩
theorem pt_w {e : Expr} : PT X e (wT X e) := ⟨fun pins s _ _ _ I h => h pins s I⟩
theorem pa_w {es : List Expr} : PA X es (wA X es) := ⟨fun pos pins s _ _ _ I h => h pos pins s I⟩
theorem pss_w {st : List Stmt} : PSs X st (wSs X st) := ⟨fun pins s _ _ _ I h => h pins s I⟩
end
abbrev dom (O : Led) : List Addr := O.map (·.1)
/-- e gives the data d, from the slots ds and the ledger O; behind it the ledger O' -/
structure ED (X : Cx) (C : Addr) (ds : Dsl) (O : Led) (e : Expr) (d : Dat) (O' : Led) : Prop where
  dm : dom O' = dom O
  run : ∀ (σ : St) (H F : Hp), Ok X.K C F O H → EnvOk X.K C F σ ds → ∀ Q : VK, (∀ v H' F', Grow (dom O) F H F' H' → Ok X.K C F' O' H' → Dv X.K C F' v d → Q v H') → wE X e σ H Q
structure BD (X : Cx) (C : Addr) (ds : Dsl) (O : Led) (e : Expr) (b : Bool) (O' : Led) : Prop where
  dm : dom O' = dom O
  run : ∀ (σ : St) (H F : Hp), Ok X.K C F O H → EnvOk X.K C F σ ds → ∀ Q : Bool → Hp → Prop, (∀ H' F', Grow (dom O) F H F' H' → Ok X.K C F' O' H' → Q b H') → wT X e σ H Q
structure AD (X : Cx) (C : Addr) (ds : Dsl) (O : Led) (es : List Expr) (xs : List Dat) (O' : Led) : Prop where
  dm : dom O' = dom O
  run : ∀ (σ : St) (H F : Hp), Ok X.K C F O H → EnvOk X.K C F σ ds → ∀ Q : List V → Hp → Prop, (∀ vs H' F', Grow (dom O) F H F' H' → Ok X.K C F' O' H' → DvAll X.K C F' vs xs → Q vs H') → wA X es σ H Q
/-- where a body began -/
structure En where
  D : List Addr
  F : Hp
  H : Hp
structure AtF (X : Cx) (C : Addr) (E : En) (ds : Dsl) (O : Led) (F : Hp) (σ : St) (H : Hp) : Prop where
  g : Grow E.D E.F E.H F H
  dm : ∀ e ∈ O, e.1 ∈ E.D ∨ E.H e.1 = none
  ok : Ok X.K C F O H
  env : EnvOk X.K C F σ ds
def At (X : Cx) (C : Addr) (E : En) (ds : Dsl) (O : Led) : St → Hp → Prop := fun σ H => ∃ F, AtF X C E ds O F σ H
/-- what is wanted of a value handed back -/
def Rt (X : Cx) (C : Addr) (E : En) (post : Dat → Led → Prop) : VK := fun v H => ∃ F d O, Grow E.D E.F E.H F H ∧ Ok X.K C F O H ∧ Dv X.K C F v d ∧ post d O
def SDs (X : Cx) (P : St → Hp → Prop) (st : List Stmt) (D : Ends) : Prop := ∀ σ H, P σ H → wSs X st D σ H
section
variable {X : Cx} {C : Addr} {ds ds' : Dsl} {O O' O1 O2 O3 : Led} {e a b c : Expr} {d x y z : Dat} {E : En} {D : Ends} {F F' H H' : Hp} {σ : St}
theorem AtF.step (h : AtF X C E ds O F σ H) (g : Grow (dom O) F H F' H') (ok : Ok X.K C F' O' H') (dm : dom O' = dom O) : AtF X C E ds O' F' σ H' where
  g := h.g.trans g fun b hb => by
    obtain ⟨e, he, rfl⟩ := List.mem_map.mp hb
    exact h.dm e he
  dm := fun e he => by
    have h1 : e.1 ∈ dom O' := List.mem_map.mpr ⟨e, he, rfl⟩
    rw [dm] at h1
    obtain ⟨e', he', q⟩ := List.mem_map.mp h1
    rw [← q]
    exact h.dm e' he'
  ok := ok
  env := h.env.mono g.ex
theorem AtF.set (h : AtF X C E ds O F σ H) (i : Nat) {v : V} (hd : Dv X.K C F v d) : AtF X C E (ds.set i (some d)) O F (σ.set i (some v)) H := ⟨h.g, h.dm, h.ok, h.env.set i hd⟩
theorem AtF.weak (h : AtF X C E ds O F σ H) (w : Wk ds ds') : AtF X C E ds' O F σ H := ⟨h.g, h.dm, h.ok, h.env.weak w⟩
/-- by a reading -/
theorem ed_of {t : TE} (h : PE X e t) (dm : dom O' = dom O) (ht : ∀ (σ : St) (H F : Hp), Ok X.K C F O H → EnvOk X.K C F σ ds → ∀ Q : VK, (∀ v H' F', Grow (dom O) F H F' H' → Ok X.K C F' O' H' → Dv X.K C F' v d → Q v H') → t σ H Q) : ED X C ds O e d O' :=
  ⟨dm, fun σ H F ok env Q q pins s I => h.run pins s σ H Q I (ht σ H F ok env Q q)⟩
theorem bd_of {t : TT} {k : Bool} (h : PT X e t) (dm : dom O' = dom O) (ht : ∀ (σ : St) (H F : Hp), Ok X.K C F O H → EnvOk X.K C F σ ds → ∀ Q : Bool → Hp → Prop, (∀ H' F', Grow (dom O) F H F' H' → Ok X.K C F' O' H' → Q k H') → t σ H Q) : BD X C ds O e k O' :=
  ⟨dm, fun σ H F ok env Q q pins s I => h.run pins s σ H Q I (ht σ H F ok env Q q)⟩
theorem ad_of {t : TA} {es : List Expr} {xs : List Dat} (h : PA X es t) (dm : dom O' = dom O) (ht : ∀ (σ : St) (H F : Hp), Ok X.K C F O H → EnvOk X.K C F σ ds → ∀ Q : List V → Hp → Prop, (∀ vs H' F', Grow (dom O) F H F' H' → Ok X.K C F' O' H' → DvAll X.K C F' vs xs → Q vs H') → t σ H Q) : AD X C ds O es xs O' :=
  ⟨dm, fun σ H F ok env Q q pos pins s I => h.run pos pins s σ H Q I (ht σ H F ok env Q q)⟩
/-! ### names, constants -/
theorem ed_var (i : Nat) {n : Str} {pos : Pos} (hd : ds[i]? = some (some d) := by rfl) (hN : X.N[i]? = some n := by rfl) (hv : Vis X.env.scope n := by first | exact Or.inl rfl | exact Or.inr (Or.inl rfl) | exact Or.inr (Or.inr rfl))
    (h1 : (n == ("__debug__" : Str)) = false := by decide) (h2 : (n == ("__classdict__" : Str)) = false := by decide) : ED X C ds O (.Name n pos) d O :=
  ed_of (pe_var hN hv h1 h2) rfl fun σ H F ok env Q q => by
    obtain ⟨v, e, h⟩ := env.2 i d hd
    exact ⟨v, e, q v H F Grow.refl ok h⟩
theorem ed_int {i : Int} {j pos} : ED X C ds O (.Constant (.int i) j pos) (.int i) O := ed_of pe_int rfl fun _ H F ok _ Q q => q _ H F Grow.refl ok (.int i)
theorem ed_bl {k : Bool} {j pos} : ED X C ds O (.Constant (.bool k) j pos) (.bl k) O := ed_of pe_bl rfl fun _ H F ok _ Q q => q _ H F Grow.refl ok (.bl k)
theorem ed_non {j pos} : ED X C ds O (.Constant .none j pos) .non O := ed_of pe_non rfl fun _ H F ok _ Q q => q _ H F Grow.refl ok .non
theorem ed_conv (h : ED X C ds O e d O') (q : d = z) : ED X C ds O e z O' := q ▸ h
theorem bd_conv {k k' : Bool} (h : BD X C ds O e k O') (q : k = k') : BD X C ds O e k' O' := q ▸ h
/-- a module's int -/
theorem ed_gint {n : Str} {i : Int} {pos : Pos} (hg : Gl X n) (hm : ∃ t, X.mg n = some (.int i t)) (h1 : (n == ("__debug__" : Str)) = false := by decide) : ED X C ds O (.Name n pos) (.int i) O := by
  obtain ⟨t, hm⟩ := hm
  exact ed_of (pe_glob (v := .int i) hg hm ⟨t, rfl⟩ h1) rfl fun _ H F ok _ Q q => q _ H F Grow.refl ok (.int i)
/-! ### two parts, one behind another -/
theorem td2 (ha : ED X C ds O a x O1) (hb : ED X C ds O1 b y O2) (ok : Ok X.K C F O H) (env : EnvOk X.K C F σ ds) {R : V → V → Hp → Prop}
    (h : ∀ v u H' F', Grow (dom O) F H F' H' → Ok X.K C F' O2 H' → Dv X.K C F' v x → Dv X.K C F' u y → R v u H') : wE X a σ H fun v H1 => wE X b σ H1 fun u H2 => R v u H2 := by
  refine ha.run σ H F ok env _ fun v H1 F1 g1 ok1 d1 => ?_
  refine hb.run σ H1 F1 ok1 (env.mono g1.ex) _ fun u H2 F2 g2 ok2 d2 => ?_
  rw [ha.dm] at g2
  exact h v u H2 F2 (g1.trans g2 fun _ m => .inl m) ok2 (d1.mono g2.ex) d2
theorem ed_op {op : Operator} {r : R2} {pos : Pos} (ho : OpR X (binaryOp op) r) (ha : ED X C ds O a x O1) (hb : ED X C ds O1 b y O2)
    (hr : ∀ H F v u, Ok X.K C F O2 H → Dv X.K C F v x → Dv X.K C F u y → ∀ Q : VK, (∀ w H' F', Grow [] F H F' H' → Ex F' H' → Dv X.K C F' w z → Q w H') → r v u H Q) : ED X C ds O (.BinOp a op b pos) z O2 :=
  ed_of (pe_op ho pe_w pe_w) (hb.dm.trans ha.dm) fun σ H F ok env Q q => td2 ha hb ok env fun v u H' F' g ok' d1 d2 => hr H' F' v u ok' d1 d2 Q fun w H2 F2 g2 e2 d3 =>
    q w H2 F2 (g.trans g2 fun _ m => by simp at m) (ok'.grow0 g2 e2) d3
section
variable {i j : Int} {pos : Pos}
theorem ed_opI {op : Operator} {g : Int → Int → Int} (ho : OpR X (binaryOp op) (rI0 fun i j => .int (g i j))) (ha : ED X C ds O a (.int i) O1) (hb : ED X C ds O1 b (.int j) O2) : ED X C ds O (.BinOp a op b pos) (.int (g i j)) O2 :=
  ed_op ho ha hb fun H F v u ok d1 d2 Q q => by
    cases d1
    cases d2
    exact ⟨i, j, rfl, rfl, q _ H F Grow.refl ok.ex (.int _)⟩
theorem ed_opC {op : Operator} {c : Int → Int → Prop} {g : Int → Int → Int} (ho : OpR X (binaryOp op) (rI c fun i j => .int (g i j))) (ha : ED X C ds O a (.int i) O1) (hb : ED X C ds O1 b (.int j) O2) (hc : c i j) : ED X C ds O (.BinOp a op b pos) (.int (g i j)) O2 :=
  ed_op ho ha hb fun H F v u ok d1 d2 Q q => by
    cases d1
    cases d2
    exact ⟨i, j, rfl, rfl, hc, q _ H F Grow.refl ok.ex (.int _)⟩
theorem ed_add (ha : ED X C ds O a (.int i) O1) (hb : ED X C ds O1 b (.int j) O2) : ED X C ds O (.BinOp a .Add b pos) (.int (i + j)) O2 := ed_opI (g := fun i j => i + j) op_add ha hb
theorem ed_sub (ha : ED X C ds O a (.int i) O1) (hb : ED X C ds O1 b (.int j) O2) : ED X C ds O (.BinOp a .Sub b pos) (.int (i - j)) O2 := ed_opI (g := fun i j => i - j) op_sub ha hb
theorem ed_mul (ha : ED X C ds O a (.int i) O1) (hb : ED X C ds O1 b (.int j) O2) (hc : CMul i j) : ED X C ds O (.BinOp a .Mult b pos) (.int (i * j)) O2 := ed_opC (g := fun i j => i * j) op_mul ha hb hc
theorem ed_mod (ha : ED X C ds O a (.int i) O1) (hb : ED X C ds O1 b (.int j) O2) (hc : 0 < j) : ED X C ds O (.BinOp a .Mod b pos) (.int (i % j)) O2 := ed_opC (c := fun _ j => 0 < j) (g := fun i j => i % j) op_mod ha hb hc
theorem ed_fdiv (ha : ED X C ds O a (.int i) O1) (hb : ED X C ds O1 b (.int j) O2) (hc : CDiv i j) : ED X C ds O (.BinOp a .FloorDiv b pos) (.int (i / j)) O2 := ed_opC (g := fun i j => i / j) op_fdiv ha hb hc
theorem ed_pow (ha : ED X C ds O a (.int i) O1) (hb : ED X C ds O1 b (.int j) O2) (hc : CPow i j) : ED X C ds O (.BinOp a .Pow b pos) (.int (i ^ j.toNat)) O2 := ed_opC (g := fun i j => i ^ j.toNat) op_pow ha hb hc
theorem ed_neg (ha : ED X C ds O a (.int i) O1) : ED X C ds O (.UnaryOp .USub a pos) (.int (-i)) O1 :=
  ed_of (pe_un un_neg pe_w) ha.dm fun σ H F ok env Q q => ha.run σ H F ok env _ fun v H1 F1 g1 ok1 d1 => by
    cases d1
    exact ⟨i, rfl, q _ H1 F1 g1 ok1 (.int _)⟩
end
/-! ### arguments, displays, calls -/
theorem ad_nil : AD X C ds O [] [] O := ad_of pa_nil rfl fun _ H F ok _ Q q => q [] H F Grow.refl ok .nil
theorem ad_cons {es : List Expr} {xs : List Dat} (h : ED X C ds O e x O1) (hr : AD X C ds O1 es xs O2) (hs : starEach (e :: es) X.env = (false, eval e X.env) :: starEach es X.env := by rfl) : AD X C ds O (e :: es) (x :: xs) O2 :=
  ad_of (pa_cons pe_w pa_w hs) (hr.dm.trans h.dm) fun σ H F ok env Q q => h.run σ H F ok env _ fun v H1 F1 g1 ok1 d1 => hr.run σ H1 F1 ok1 (env.mono g1.ex) _ fun vs H2 F2 g2 ok2 d2 => by
    rw [h.dm] at g2
    exact q (v :: vs) H2 F2 (g1.trans g2 fun _ m => .inl m) ok2 (.cons (d1.mono g2.ex) d2)
theorem sz {n : Nat} (h : n ≤ 100000) : n ≤ sizeLine := Nat.le_trans h (by decide)
theorem szl {n : Nat} (h : n < 100000) : n < sizeLine := Nat.lt_of_lt_of_le h (by decide)
/-- a new frozen tuple, list -/
theorem dv_newT {p : Addr} {vs : List V} {xs : List Dat} (hF : F p = none) (h : DvAll X.K C F vs xs) : Dv X.K C (upd F p (.tup vs)) (.ref p) (.tup xs) := .tup upd_same (h.mono (Ex.new hF))
theorem dv_newL {p : Addr} {vs : List V} {xs : List Dat} (hF : F p = none) (h : DvAll X.K C F vs xs) : Dv X.K C (upd F p (.lst vs)) (.ref p) (.lst xs) := .lst upd_same (h.mono (Ex.new hF))
theorem ed_tup {es : List Expr} {xs : List Dat} {k pos} (h : AD X C ds O es xs O1) (hl : xs.length ≤ 100000 := by exact Nat.le_of_ble_eq_true rfl) : ED X C ds O (.Tuple es k pos) (.tup xs) O1 :=
  ed_of (pe_tup pa_w) h.dm fun σ H F ok env Q q => h.run σ H F ok env _ fun vs H1 F1 g1 ok1 d1 => ⟨sz (d1.length ▸ hl), fun p hp => by
    have hF := ok1.ex.free hp
    have gf : Grow (dom O) F1 H1 (upd F1 p (.tup vs)) (upd H1 p (.tup vs)) := Grow.frz hp hF
    exact q (.ref p) _ _ (g1.trans gf fun _ m => .inl m) (ok1.grow0 (Grow.frz hp hF) (ok1.ex.upd2)) (dv_newT hF d1)⟩
theorem ed_lst {es : List Expr} {xs : List Dat} {pos} (h : AD X C ds O es xs O1) (hl : xs.length ≤ 100000 := by exact Nat.le_of_ble_eq_true rfl) : ED X C ds O (.List es pos) (.lst xs) O1 :=
  ed_of (pe_lst pa_w) h.dm fun σ H F ok env Q q => h.run σ H F ok env _ fun vs H1 F1 g1 ok1 d1 => ⟨sz (d1.length ▸ hl), fun p hp => by
    have hF := ok1.ex.free hp
    have gf : Grow (dom O) F1 H1 (upd F1 p (.lst vs)) (upd H1 p (.lst vs)) := Grow.frz hp hF
    exact q (.ref p) _ _ (g1.trans gf fun _ m => .inl m) (ok1.grow0 (Grow.frz hp hF) (ok1.ex.upd2)) (dv_newL hF d1)⟩
/-- no star among the arguments -/
def Pl (X : Cx) (e : Expr) (es : List Expr) (pos : Pos) : Prop := starEach (e :: es) X.env = (false, eval e X.env) :: starEach es X.env ∧ (backTo pos (starEach es X.env)).any (·.1) = false
/-- a built-in's call, by what it does with data -/
theorem ed_cb {es : List Expr} {id : String} {n : Str} {xs : List Dat} {r : List V → Hp → VK → Prop} {p pos : Pos} (hc : CallR X (.builtin id) r) (hg : Gl X n) (hm : X.mg n = none) (hv : bootBuiltins n = some (.builtin id)) (h : AD X C ds O (e :: es) xs O1) (hp : Pl X e es pos)
    (hr : ∀ H F vs, Ok X.K C F O1 H → DvAll X.K C F vs xs → ∀ Q : VK, (∀ w H' F', Grow [] F H F' H' → Ex F' H' → Dv X.K C F' w z → Q w H') → r vs H Q)
    (hn : n ≠ "__name__" := by decide) (hdb : (n == ("__debug__" : Str)) = false := by decide) : ED X C ds O (.Call (.Name n p) (e :: es) [] pos) z O1 :=
  ed_of (pe_callB hc hg hm hv pa_w hn hdb hp.1 hp.2) h.dm fun σ H F ok env Q q => h.run σ H F ok env _ fun vs H1 F1 g1 ok1 d1 => hr H1 F1 vs ok1 d1 Q fun w H2 F2 g2 e2 d2 =>
    q w H2 F2 (g1.trans g2 fun _ m => by simp at m) (ok1.grow0 g2 e2) d2
theorem ed_ct {es : List Expr} {T : String} {n : Str} {xs : List Dat} {r : List V → Hp → VK → Prop} {p pos : Pos} (hc : CallR X (.type T) r) (hg : Gl X n) (hm : X.mg n = none) (hv : bootBuiltins n = some (.type T)) (h : AD X C ds O (e :: es) xs O1) (hp : Pl X e es pos)
    (hr : ∀ H F vs, Ok X.K C F O1 H → DvAll X.K C F vs xs → ∀ Q : VK, (∀ w H' F', Grow [] F H F' H' → Ex F' H' → Dv X.K C F' w z → Q w H') → r vs H Q)
    (hn : n ≠ "__name__" := by decide) (hdb : (n == ("__debug__" : Str)) = false := by decide) : ED X C ds O (.Call (.Name n p) (e :: es) [] pos) z O1 :=
  ed_of (pe_callTy hc hg hm hv pa_w hn hdb hp.1 hp.2) h.dm fun σ H F ok env Q q => h.run σ H F ok env _ fun vs H1 F1 g1 ok1 d1 => hr H1 F1 vs ok1 d1 Q fun w H2 F2 g2 e2 d2 =>
    q w H2 F2 (g1.trans g2 fun _ m => by simp at m) (ok1.grow0 g2 e2) d2
theorem all1 {K : PySem.W.Frag} {vs : List V} {x : Dat} (h : DvAll K C F vs [x]) : ∃ v, vs = [v] ∧ Dv K C F v x := by
  cases h with
  | cons h1 h2 => cases h2; exact ⟨_, rfl, h1⟩
theorem all2 {K : PySem.W.Frag} {vs : List V} {x y : Dat} (h : DvAll K C F vs [x, y]) : ∃ v u, vs = [v, u] ∧ Dv K C F v x ∧ Dv K C F u y := by
  cases h with
  | cons h1 h2 => cases h2 with
    | cons h2 h3 => cases h3; exact ⟨_, _, rfl, h1, h2⟩
theorem lookM {O : Led} {p : Addr} {m : MO} (h : O.lookup p = some m) : (p, m) ∈ O := by
  induction O with
  | nil => cases h
  | cons q r ih =>
    obtain ⟨b, u⟩ := q
    rw [List.lookup_cons] at h
    cases hb : p == b with
    | true =>
      rw [hb] at h
      cases h
      rw [beq_iff_eq.mp hb]
      exact List.mem_cons_self
    | false =>
      rw [hb] at h
      exact List.mem_cons_of_mem _ (ih h)
section
variable {i j : Int} {p pos : Pos} {es : List Expr}
theorem ed_abs (hm : X.mg "abs" = none) (h : AD X C ds O (e :: es) [.int i] O1) (hp : Pl X e es pos := by exact ⟨rfl, rfl⟩) (hg : Gl X "abs" := by rfl) : ED X C ds O (.Call (.Name "abs" p) (e :: es) [] pos) (.int (if i < 0 then -i else i)) O1 :=
  ed_cb call_abs hg hm (by decide +kernel) h hp fun H F vs ok d Q q => by
    obtain ⟨v, rfl, dv⟩ := all1 d
    cases dv
    exact ⟨i, rfl, q _ H F Grow.refl ok.ex (.int _)⟩
theorem ed_max2 (hm : X.mg "max" = none) (h : AD X C ds O (e :: es) [.int i, .int j] O1) (hp : Pl X e es pos := by exact ⟨rfl, rfl⟩) (hg : Gl X "max" := by rfl) (hc : X.calm = true := by rfl) : ED X C ds O (.Call (.Name "max" p) (e :: es) [] pos) (.int (if j > i then j else i)) O1 :=
  ed_cb (call_max2 hc) hg hm (by decide +kernel) h hp fun H F vs ok d Q q => by
    obtain ⟨v, u, rfl, dv, du⟩ := all2 d
    cases dv
    cases du
    exact ⟨i, j, rfl, q _ H F Grow.refl ok.ex (.int _)⟩
theorem ed_min2 (hm : X.mg "min" = none) (h : AD X C ds O (e :: es) [.int i, .int j] O1) (hp : Pl X e es pos := by exact ⟨rfl, rfl⟩) (hg : Gl X "min" := by rfl) (hc : X.calm = true := by rfl) : ED X C ds O (.Call (.Name "min" p) (e :: es) [] pos) (.int (if j < i then j else i)) O1 :=
  ed_cb (call_min2 hc) hg hm (by decide +kernel) h hp fun H F vs ok d Q q => by
    obtain ⟨v, u, rfl, dv, du⟩ := all2 d
    cases dv
    cases du
    exact ⟨i, j, rfl, q _ H F Grow.refl ok.ex (.int _)⟩
theorem ed_toint (hm : X.mg "int" = none) (h : AD X C ds O (e :: es) [.int i] O1) (hp : Pl X e es pos := by exact ⟨rfl, rfl⟩) (hg : Gl X "int" := by rfl) : ED X C ds O (.Call (.Name "int" p) (e :: es) [] pos) (.int i) O1 :=
  ed_ct call_int1 hg hm (by decide +kernel) h hp fun H F vs ok d Q q => by
    obtain ⟨v, rfl, dv⟩ := all1 d
    cases dv
    exact .inl ⟨i, rfl, q _ H F Grow.refl ok.ex (.int _)⟩
/-- how many: of a frozen list, a tuple, a list that may change -/
inductive LenD (O : Led) : Dat → Nat → Prop
  | fzl (xs : List Dat) : LenD O (.fzl xs) xs.length
  | lst (xs : List Dat) : LenD O (.lst xs) xs.length
  | tup (xs : List Dat) : LenD O (.tup xs) xs.length
  | loc {p : Addr} {xs : List Dat} (h : (p, .lst xs) ∈ O) : LenD O (.loc p) xs.length
theorem ed_len {n : Nat} (hm : X.mg "len" = none) (h : AD X C ds O (e :: es) [x] O1) (hn : LenD O1 x n) (hp : Pl X e es pos := by exact ⟨rfl, rfl⟩) (hg : Gl X "len" := by rfl) : ED X C ds O (.Call (.Name "len" p) (e :: es) [] pos) (.int n) O1 :=
  ed_cb call_len hg hm PySem.boot_len h hp fun H F vs ok d Q q => by
    obtain ⟨v, rfl, dv⟩ := all1 d
    have go := q (.int n) H F Grow.refl ok.ex (.int _)
    cases hn with
    | fzl xs =>
      cases dv with
      | fzl h1 h2 => exact ⟨_, _, rfl, .inl ⟨_, seqE ok.ex h1, h2.length.symm⟩, go⟩
    | lst xs =>
      cases dv with
      | lst h1 h2 => exact ⟨_, _, rfl, .inl ⟨_, SqL.of (ok.ex _ _ h1), h2.length.symm⟩, go⟩
    | tup xs =>
      cases dv with
      | tup h1 h2 => exact ⟨_, _, rfl, .inr ⟨_, SqT.of (ok.ex _ _ h1), h2.length.symm⟩, go⟩
    | loc hm' =>
      cases dv with
      | loc p =>
        obtain ⟨vs, e1, e2⟩ := ok.at_ _ hm'
        exact ⟨_, _, rfl, .inl ⟨_, SqL.of e1, e2.length.symm⟩, go⟩
end
end
end Sw
/-! The data layer: data compared, tests, items, slices, sums of lists and tuples. -/
namespace Sw
open PySem PySem.Spec L2
/-! ### data that == compares -/
mutual
def py : Dat → PyData
  | .non => .none
  | .bl b => .bool b
  | .int i => .int i
  | .tup xs => .tuple (pyAll xs)
  | .lst xs => .list (pyAll xs)
  | .fzl _ | .loc _ | .sky _ | .dic _ _ | .dct _ _ | .obj _ _ _ => .none
def pyAll : List Dat → List PyData
  | [] => []
  | x :: xs => py x :: pyAll xs
end
mutual
def plain : Dat → Bool
  | .non | .bl _ | .int _ => true
  | .tup xs | .lst xs => plainAll xs
  | .fzl _ | .loc _ | .sky _ | .dic _ _ | .dct _ _ | .obj _ _ _ => false
def plainAll : List Dat → Bool
  | [] => true
  | x :: xs => plain x && plainAll xs
end
section
variable {K : PySem.W.Frag} {C : Addr} {F H : Hp}
mutual
theorem Dv.dp (e : Ex F H) : ∀ {d : Dat} {v : V}, Dv K C F v d → plain d = true → Dp K H v (py d)
  | .non, _, .non, _ => .non
  | .bl b, _, .bl _, _ => .bl b
  | .int i, _, .int _, _ => .int i
  | .tup xs, _, .tup h1 h2, p => .tup (SqT.of (e _ _ h1)) (DvAll.dp e h2 p)
  | .lst xs, _, .lst h1 h2, p => .lst (SqL.of (e _ _ h1)) (DvAll.dp e h2 p)
  | .fzl _, _, _, p => nomatch p
  | .loc _, _, _, p => nomatch p
  | .sky _, _, _, p => nomatch p
  | .dic _ _, _, _, p => nomatch p
  | .dct _ _, _, _, p => nomatch p
  | .obj _ _ _, _, _, p => nomatch p
theorem DvAll.dp (e : Ex F H) : ∀ {ds : List Dat} {vs : List V}, DvAll K C F vs ds → plainAll ds = true → DpAll K H vs (pyAll ds)
  | [], _, .nil, _ => .nil
  | d :: ds, _, .cons h1 h2, p => by
    have p' : plain d = true ∧ plainAll ds = true := Bool.and_eq_true_iff.mp p
    exact .cons (Dv.dp e h1 p'.1) (DvAll.dp e h2 p'.2)
end
end
/-- a kind of data that == decides, at most k deep -/
structure EqC {α : Type} [DecidableEq α] (enc : α → Dat) (k : Nat) : Prop where
  plain : ∀ a, plain (enc a) = true
  lay : ∀ a, (py (enc a)).canLay0 = true
  deep : ∀ a, (py (enc a)).depth ≤ k
  eq : ∀ a b, PyData.eqv (py (enc a)) (py (enc b)) = decide (a = b)
theorem EqC.shaped {α : Type} [DecidableEq α] {enc : α → Dat} {k : Nat} (h : EqC enc k) (hk : k ≤ 60) (a : α) : SeqAt.shaped (py (enc a)) = true := by
  unfold SeqAt.shaped
  rw [h.lay, decide_eq_true (Nat.le_trans (h.deep a) (by omega))]
  rfl
theorem eqc_int : EqC (α := Int) Dat.int 0 := ⟨fun _ => rfl, fun _ => by simp [py, PyData.canLay0], fun _ => by simp [py, PyData.depth], fun a b => by
  simp only [py, PyData.eqv]
  by_cases h : a = b
  · subst h; simp
  · simp [h]⟩
theorem eqc_t3 : EqC (α := T3) t3 1 where
  plain := fun _ => rfl
  lay := fun _ => by simp [t3, py, pyAll, PyData.canLay0, PyData.canLayAll0]
  deep := fun _ => by simp [t3, py, pyAll, PyData.depth, PyData.depthAll]
  eq := fun ⟨a, b, c⟩ ⟨a', b', c'⟩ => by
    simp only [t3, py, pyAll, PyData.eqv, PyData.eqvAll, Bool.and_true]
    rw [Bool.eq_iff_iff]
    simp
theorem eqc_t2 : EqC (α := Int × Int) t2 1 where
  plain := fun _ => rfl
  lay := fun _ => by simp [t2, py, pyAll, PyData.canLay0, PyData.canLayAll0]
  deep := fun _ => by simp [t2, py, pyAll, PyData.depth, PyData.depthAll]
  eq := fun ⟨a, b⟩ ⟨a', b'⟩ => by
    simp only [t2, py, pyAll, PyData.eqv, PyData.eqvAll, Bool.and_true]
    rw [Bool.eq_iff_iff]
    simp
def encL {α : Type} (enc : α → Dat) (xs : List α) : Dat := .lst (xs.map enc)
def encT {α : Type} (enc : α → Dat) (xs : List α) : Dat := .tup (xs.map enc)
section
variable {α : Type} [DecidableEq α] {enc : α → Dat} {k : Nat}
theorem EqC.plains (h : EqC enc k) : ∀ xs : List α, plainAll (xs.map enc) = true
  | [] => rfl
  | x :: xs => by
    show (Sw.plain (enc x) && plainAll (xs.map enc)) = true
    rw [h.plain, EqC.plains h xs]
    rfl
theorem EqC.lays (h : EqC enc k) : ∀ xs : List α, PyData.canLayAll0 (pyAll (xs.map enc)) = true
  | [] => by simp [pyAll, PyData.canLayAll0]
  | x :: xs => by simp [pyAll, PyData.canLayAll0, h.lay, EqC.lays h xs]
theorem EqC.deeps (h : EqC enc k) : ∀ xs : List α, PyData.depthAll (pyAll (xs.map enc)) ≤ k
  | [] => by simp [pyAll, PyData.depthAll]
  | x :: xs => by
    simp only [List.map_cons, pyAll, PyData.depthAll]
    exact Nat.max_le.mpr ⟨h.deep x, EqC.deeps h xs⟩
theorem EqC.eqs (h : EqC enc k) : ∀ xs ys : List α, PyData.eqvAll (pyAll (xs.map enc)) (pyAll (ys.map enc)) = decide (xs = ys)
  | [], [] => by simp [pyAll, PyData.eqvAll]
  | [], _ :: _ => by simp [pyAll, PyData.eqvAll]
  | _ :: _, [] => by simp [pyAll, PyData.eqvAll]
  | x :: xs, y :: ys => by
    simp only [List.map_cons, pyAll, PyData.eqvAll, h.eq, EqC.eqs h xs ys]
    rw [Bool.eq_iff_iff]
    simp
theorem EqC.lst (h : EqC enc k) : EqC (encL enc) (k + 1) where
  plain := fun xs => h.plains xs
  lay := fun xs => by simp [encL, py, PyData.canLay0, h.lays]
  deep := fun xs => by
    have := h.deeps xs
    simp only [encL, py, PyData.depth]
    omega
  eq := fun xs ys => by simp only [encL, py, PyData.eqv, h.eqs]
theorem EqC.tup (h : EqC enc k) : EqC (encT enc) (k + 1) where
  plain := fun xs => h.plains xs
  lay := fun xs => by simp [encT, py, PyData.canLay0, h.lays]
  deep := fun xs => by
    have := h.deeps xs
    simp only [encT, py, PyData.depth]
    omega
  eq := fun xs ys => by simp only [encT, py, PyData.eqv, h.eqs]
end
/-! ### comparisons by what they say of data -/
section
variable {X : Cx} {C : Addr} {ds ds' : Dsl} {O O' O1 O2 O3 : Led} {e a b c : Expr} {d x y z : Dat} {E : En} {D : Ends} {F F' H H' : Hp} {σ : L2.St} {pos : Pos} {k k' : Bool}
/-- x op y is k -/
def CmpOk (X : Cx) (C : Addr) (op : CmpOp) (x y : Dat) (O : Led) (k : Bool) : Prop := ∃ r, OpR X (compareOp op) r ∧ ∀ H F v u, Ok X.K C F O H → Dv X.K C F v x → Dv X.K C F u y → ∀ Q : VK, Q (.bl k) H → r v u H Q
theorem ed_cmp {op : CmpOp} (ha : ED X C ds O a x O1) (hb : ED X C ds O1 b y O2) (hc : CmpOk X C op x y O2 k) (hm : behindInMarks op b = false := by first | exact nobehind _ (by decide) (by decide) | rfl) :
    ED X C ds O (.Compare a [op] [b] pos) (.bl k) O2 := by
  obtain ⟨r, ho, hr⟩ := hc
  exact ed_of (pe_cmpR ho pe_w pe_w hm) (hb.dm.trans ha.dm) fun σ H F ok env Q q => td2 ha hb ok env fun v u H' F' g ok' d1 d2 => hr H' F' v u ok' d1 d2 Q (q _ H' F' g ok' (.bl k))
theorem bd_cmp {op : CmpOp} (ha : ED X C ds O a x O1) (hb : ED X C ds O1 b y O2) (hc : CmpOk X C op x y O2 k) (hm : behindInMarks op b = false := by first | exact nobehind _ (by decide) (by decide) | rfl) :
    BD X C ds O (.Compare a [op] [b] pos) k O2 := by
  obtain ⟨r, ho, hr⟩ := hc
  exact bd_of (pt_cmpR ho pe_w pe_w hm) (hb.dm.trans ha.dm) fun σ H F ok env Q q => td2 ha hb ok env fun v u H' F' g ok' d1 d2 => hr H' F' v u ok' d1 d2 _ ⟨k, rfl, q H' F' g ok'⟩
/-- two comparisons in a chain -/
theorem td3 {r r' : R2} (ha : ED X C ds O a x O1) (hb : ED X C ds O1 b y O2) (hc : ED X C ds O2 c z O2) (ok : Ok X.K C F O H) (env : EnvOk X.K C F σ ds)
    (h1 : ∀ H F v u, Ok X.K C F O2 H → Dv X.K C F v x → Dv X.K C F u y → ∀ Q : VK, Q (.bl k) H → r v u H Q)
    (h2 : ∀ H F v u, Ok X.K C F O2 H → Dv X.K C F v y → Dv X.K C F u z → ∀ Q : VK, Q (.bl k') H → r' v u H Q)
    {Q : VK} (q : ∀ H' F', Grow (dom O) F H F' H' → Ok X.K C F' O2 H' → Q (.bl (k && k')) H') : tChain r r' (wE X a) (wE X b) (wE X c) σ H Q :=
  td2 ha hb ok env fun v u H' F' g ok' d1 d2 => h1 H' F' v u ok' d1 d2 _ ⟨k, rfl, by
    cases k with
    | false => exact q H' F' g ok'
    | true =>
      have env' := env.mono g.ex
      refine hc.run σ H' F' ok' env' _ fun w H3 F3 g3 ok3 d3 => ?_
      refine h2 H3 F3 u w ok3 (d2.mono g3.ex) d3 Q (q H3 F3 (g.trans g3 fun b m => .inl ?_) ok3)
      rw [hb.dm.trans ha.dm] at m
      exact m⟩
theorem ed_chain {op op' : CmpOp} (ha : ED X C ds O a x O1) (hb : ED X C ds O1 b y O2) (hc : ED X C ds O2 c z O2) (h1 : CmpOk X C op x y O2 k) (h2 : CmpOk X C op' y z O2 k')
    (hm : lastMarks [op, op'] [b, c] = false := by with_unfolding_all rfl) : ED X C ds O (.Compare a [op, op'] [b, c] pos) (.bl (k && k')) O2 := by
  obtain ⟨r, ho, hr⟩ := h1
  obtain ⟨r', ho', hr'⟩ := h2
  exact ed_of (pe_chain ho ho' pe_w pe_w pe_w hm) (hb.dm.trans ha.dm) fun σ H F ok env Q q => td3 ha hb hc ok env hr hr' fun H' F' g ok' => q _ H' F' g ok' (.bl _)
theorem bd_chain {op op' : CmpOp} (ha : ED X C ds O a x O1) (hb : ED X C ds O1 b y O2) (hc : ED X C ds O2 c z O2) (h1 : CmpOk X C op x y O2 k) (h2 : CmpOk X C op' y z O2 k')
    (hm : lastMarks [op, op'] [b, c] = false := by with_unfolding_all rfl) : BD X C ds O (.Compare a [op, op'] [b, c] pos) (k && k') O2 := by
  obtain ⟨r, ho, hr⟩ := h1
  obtain ⟨r', ho', hr'⟩ := h2
  exact bd_of (pt_chain ho ho' pe_w pe_w pe_w hm) (hb.dm.trans ha.dm) fun σ H F ok env Q q => td3 ha hb hc ok env hr hr' fun H' F' g ok' => ⟨_, rfl, q H' F' g ok'⟩
/-! the comparisons -/
theorem c_int {op : CmpOp} {p : Int → Int → Bool} {i j : Int} (ho : OpR X (compareOp op) (rI0 fun i j => .bl (p i j))) : CmpOk X C op (.int i) (.int j) O (p i j) :=
  ⟨_, ho, fun H F v u ok d1 d2 Q q => by cases d1; cases d2; exact ⟨i, j, rfl, rfl, q⟩⟩
theorem c_lt {i j : Int} : CmpOk X C .Lt (.int i) (.int j) O (decide (i < j)) := c_int (p := fun i j => decide (i < j)) op_lt
theorem c_le {i j : Int} : CmpOk X C .LtE (.int i) (.int j) O (decide (i ≤ j)) := c_int (p := fun i j => decide (i ≤ j)) op_le
theorem c_gt {i j : Int} : CmpOk X C .Gt (.int i) (.int j) O (decide (j < i)) := c_int (p := fun i j => decide (j < i)) op_gt
theorem c_ge {i j : Int} : CmpOk X C .GtE (.int i) (.int j) O (decide (j ≤ i)) := c_int (p := fun i j => decide (j ≤ i)) op_ge
theorem dec_vint {i j : Int} : decide (V.int i = V.int j) = decide (i = j) := by
  rw [Bool.eq_iff_iff]
  simp
theorem c_eq {i j : Int} : CmpOk X C .Eq (.int i) (.int j) O (decide (i = j)) :=
  ⟨_, op_eq, fun H F v u ok d1 d2 Q q => by cases d1; cases d2; exact ⟨rfl, by rw [dec_vint]; exact q⟩⟩
theorem c_ne {i j : Int} : CmpOk X C .NotEq (.int i) (.int j) O (!decide (i = j)) :=
  ⟨_, op_ne, fun H F v u ok d1 d2 Q q => by cases d1; cases d2; exact ⟨rfl, by rw [dec_vint]; exact q⟩⟩
theorem c_eqB {i j : Bool} : CmpOk X C .Eq (.bl i) (.bl j) O (decide (i = j)) :=
  ⟨_, op_eq, fun H F v u ok d1 d2 Q q => by
    cases d1; cases d2
    refine ⟨rfl, ?_⟩
    have e : decide (V.bl i = V.bl j) = decide (i = j) := by cases i <;> cases j <;> rfl
    rw [e]
    exact q⟩
/-- is None -/
def isNon : Dat → Bool
  | .non => true
  | _ => false
theorem Dv.non_iff {K : PySem.W.Frag} {v : V} (h : Dv K C F v x) : decide (v = .non) = isNon x := by
  cases h <;> rfl
theorem c_isN : CmpOk X C .Is x .non O (isNon x) := ⟨_, op_isN, fun H F v u ok d1 d2 Q q => by cases d2; exact ⟨rfl, by rw [d1.non_iff]; exact q⟩⟩
theorem c_notN : CmpOk X C .IsNot x .non O (!isNon x) := ⟨_, op_notN, fun H F v u ok d1 d2 Q q => by cases d2; exact ⟨rfl, by rw [d1.non_iff]; exact q⟩⟩
theorem c_isntB {i j : Bool} : CmpOk X C .IsNot (.bl i) (.bl j) O (!decide (i = j)) := ⟨_, op_notBl, fun H F v u ok d1 d2 Q q => by cases d1; cases d2; exact ⟨i, j, rfl, rfl, q⟩⟩
/-- data -/
theorem c_eqD {α : Type} [DecidableEq α] {enc : α → Dat} {n : Nat} {a b : α} (h : EqC enc n) (hu : X.A.units + 64 < cLine) (hn : n ≤ 60 := by decide) : CmpOk X C .Eq (enc a) (enc b) O (decide (a = b)) :=
  ⟨_, op_eqD hu, fun H F v u ok d1 d2 Q q => ⟨_, _, d1.dp ok.ex (h.plain a), d2.dp ok.ex (h.plain b), h.shaped hn a, h.shaped hn b, by rw [h.eq]; exact q⟩⟩
theorem c_neD {α : Type} [DecidableEq α] {enc : α → Dat} {n : Nat} {a b : α} (h : EqC enc n) (hu : X.A.units + 64 < cLine) (hn : n ≤ 60 := by decide) : CmpOk X C .NotEq (enc a) (enc b) O (!decide (a = b)) :=
  ⟨_, op_neD hu, fun H F v u ok d1 d2 Q q => ⟨_, _, d1.dp ok.ex (h.plain a), d2.dp ok.ex (h.plain b), h.shaped hn a, h.shaped hn b, by rw [h.eq]; exact q⟩⟩
theorem any_eqv {α : Type} [DecidableEq α] {enc : α → Dat} {n : Nat} (h : EqC enc n) (a : α) : ∀ xs : List α, (pyAll (xs.map enc)).any (fun z => PyData.eqv z (py (enc a))) = decide (a ∈ xs)
  | [] => by simp [pyAll]
  | x :: xs => by
    rw [List.map_cons, pyAll, List.any_cons, any_eqv h a xs, h.eq, Bool.eq_iff_iff, Bool.or_eq_true, decide_eq_true_iff, decide_eq_true_iff, decide_eq_true_iff, List.mem_cons]
    exact or_congr_left eq_comm
/-- a list that stands frozen, or in the ledger -/
inductive LstD (O : Led) : Dat → List Dat → Prop
  | lst (xs : List Dat) : LstD O (.lst xs) xs
  | loc {p : Addr} {xs : List Dat} (h : (p, .lst xs) ∈ O) : LstD O (.loc p) xs
theorem LstD.at_ {K : PySem.W.Frag} {v : V} {xs : List Dat} (h : LstD O x xs) (ok : Ok K C F O H) (hd : Dv K C F v x) : ∃ p vs, v = .ref p ∧ H p = some (.lst vs) ∧ DvAll K C F vs xs := by
  cases h with
  | lst xs => cases hd with
    | lst h1 h2 => exact ⟨_, _, rfl, ok.ex _ _ h1, h2⟩
  | loc hm => cases hd with
    | loc p =>
      obtain ⟨vs, e1, e2⟩ := ok.at_ _ hm
      exact ⟨_, _, rfl, e1, e2⟩
theorem c_inD {α : Type} [DecidableEq α] {enc : α → Dat} {n : Nat} {a : α} {xs : List α} (h : EqC enc n) (hy : LstD O y (xs.map enc)) (hu : X.A.units + 65 < cLine) (hn : n ≤ 50 := by decide) : CmpOk X C .In (enc a) y O (decide (a ∈ xs)) :=
  ⟨_, op_inD hu, fun H F v u ok d1 d2 Q q => by
    obtain ⟨p, vs, rfl, e1, e2⟩ := hy.at_ ok d2
    exact ⟨_, _, d1.dp ok.ex (h.plain a), .lst (SqL.of e1) (e2.dp ok.ex (h.plains xs)), h.shaped (by omega) a, h.lst.shaped (by omega) xs, by rw [any_eqv h]; exact q⟩⟩
theorem c_ninD {α : Type} [DecidableEq α] {enc : α → Dat} {n : Nat} {a : α} {xs : List α} (h : EqC enc n) (hy : LstD O y (xs.map enc)) (hu : X.A.units + 65 < cLine) (hn : n ≤ 50 := by decide) : CmpOk X C .NotIn (enc a) y O (!decide (a ∈ xs)) :=
  ⟨_, op_notInD hu, fun H F v u ok d1 d2 Q q => by
    obtain ⟨p, vs, rfl, e1, e2⟩ := hy.at_ ok d2
    exact ⟨_, _, d1.dp ok.ex (h.plain a), .lst (SqL.of e1) (e2.dp ok.ex (h.plains xs)), h.shaped (by omega) a, h.lst.shaped (by omega) xs, by rw [any_eqv h]; exact q⟩⟩
/-! ### tests: and, or, not; a value that is True or False -/
theorem bd_val (h : ED X C ds O e (.bl k) O') (he : ∀ whole, isTrue e X.env whole = (do let v ← whole; standAt e.pos; holding [v] (truthy v)) := by intro _; rfl) : BD X C ds O e k O' :=
  bd_of (pt_val pe_w he) h.dm fun σ H F ok env Q q => h.run σ H F ok env _ fun v H1 F1 g1 ok1 d1 => by
    cases d1
    exact ⟨k, rfl, q H1 F1 g1 ok1⟩
theorem bd_not (h : BD X C ds O e k O') : BD X C ds O (.UnaryOp .Not e pos) (!k) O' :=
  bd_of (pt_not pt_w) h.dm fun σ H F ok env Q q => h.run σ H F ok env _ fun H1 F1 g1 ok1 => q H1 F1 g1 ok1
def wW (X : Cx) (e : Expr) : TT := fun σ H Q => ∀ wh pins s, Inv X pins σ H s → wpAny (model X.prog X.w) X.A (isTrue e X.env wh) (TP X pins σ Q) X.xe s
theorem pw_w : PW X e (wW X e) := ⟨fun wh pins s _ _ _ I h => h wh pins s I⟩
structure BW (X : Cx) (C : Addr) (ds : Dsl) (O : Led) (e : Expr) (k : Bool) (O' : Led) : Prop where
  dm : dom O' = dom O
  ex : ∃ t, PW X e t ∧ ∀ (σ : L2.St) (H F : Hp), Ok X.K C F O H → EnvOk X.K C F σ ds → ∀ Q : Bool → Hp → Prop, (∀ H' F', Grow (dom O) F H F' H' → Ok X.K C F' O' H' → Q k H') → t σ H Q
theorem BW.bd (h : BW X C ds O e k O') : BD X C ds O e k O' := let ⟨_, p, q⟩ := h.ex; bd_of p.pt h.dm q
theorem bw_and1 (h : BD X C ds O a k O') : BW X C ds O (.BoolOp .And [a] pos) k O' := ⟨h.dm, _, pw_and1 pt_w, fun σ H F ok env Q q => h.run σ H F ok env Q q⟩
theorem bw_or1 (h : BD X C ds O a k O') : BW X C ds O (.BoolOp .Or [a] pos) k O' := ⟨h.dm, _, pw_or1 pt_w, fun σ H F ok env Q q => h.run σ H F ok env Q q⟩
theorem bw_and {rest : List Expr} (h : BD X C ds O a k O1) (h2 : k = true → BW X C ds O1 (.BoolOp .And (b :: rest) pos) k' O1) : BW X C ds O (.BoolOp .And (a :: b :: rest) pos) (k && k') O1 := by
  cases k with
  | true =>
    obtain ⟨dm, t, p, q2⟩ := h2 rfl
    exact ⟨h.dm, _, pw_and pt_w p, fun σ H F ok env Q q => h.run σ H F ok env _ fun H1 F1 g1 ok1 => q2 σ H1 F1 ok1 (env.mono g1.ex) Q fun H2 F2 g2 ok2 => by
      rw [h.dm] at g2
      exact q H2 F2 (g1.trans g2 fun _ m => .inl m) ok2⟩
  | false =>
    exact ⟨h.dm, _, pw_and pt_w pw_w, fun σ H F ok env Q q => h.run σ H F ok env _ fun H1 F1 g1 ok1 => q H1 F1 g1 ok1⟩
theorem bw_or {rest : List Expr} (h : BD X C ds O a k O1) (h2 : k = false → BW X C ds O1 (.BoolOp .Or (b :: rest) pos) k' O1) : BW X C ds O (.BoolOp .Or (a :: b :: rest) pos) (k || k') O1 := by
  cases k with
  | false =>
    obtain ⟨dm, t, p, q2⟩ := h2 rfl
    exact ⟨h.dm, _, pw_or pt_w p, fun σ H F ok env Q q => h.run σ H F ok env _ fun H1 F1 g1 ok1 => q2 σ H1 F1 ok1 (env.mono g1.ex) Q fun H2 F2 g2 ok2 => by
      rw [h.dm] at g2
      exact q H2 F2 (g1.trans g2 fun _ m => .inl m) ok2⟩
  | true =>
    exact ⟨h.dm, _, pw_or pt_w pw_w, fun σ H F ok env Q q => h.run σ H F ok env _ fun H1 F1 g1 ok1 => q H1 F1 g1 ok1⟩
/-- as values -/
theorem ed_one {op} (h : ED X C ds O a x O') : ED X C ds O (.BoolOp op [a] pos) x O' := ed_of (pe_one pe_w) h.dm h.run
theorem ed_and {rest : List Expr} (h : ED X C ds O a (.bl k) O1) (h2 : k = true → ED X C ds O1 (.BoolOp .And (b :: rest) pos) (.bl k') O1) : ED X C ds O (.BoolOp .And (a :: b :: rest) pos) (.bl (k && k')) O1 :=
  ed_of (pe_and pe_w pe_w) h.dm fun σ H F ok env Q q => h.run σ H F ok env _ fun v H1 F1 g1 ok1 d1 => by
    cases d1
    refine ⟨k, rfl, ?_⟩
    cases k with
    | false => exact q _ H1 F1 g1 ok1 (.bl _)
    | true =>
      exact (h2 rfl).run σ H1 F1 ok1 (env.mono g1.ex) Q fun w H2 F2 g2 ok2 d2 => by
        rw [h.dm] at g2
        exact q w H2 F2 (g1.trans g2 fun _ m => .inl m) ok2 d2
theorem ed_or {rest : List Expr} (h : ED X C ds O a (.bl k) O1) (h2 : k = false → ED X C ds O1 (.BoolOp .Or (b :: rest) pos) (.bl k') O1) : ED X C ds O (.BoolOp .Or (a :: b :: rest) pos) (.bl (k || k')) O1 :=
  ed_of (pe_or pe_w pe_w) h.dm fun σ H F ok env Q q => h.run σ H F ok env _ fun v H1 F1 g1 ok1 d1 => by
    cases d1
    refine ⟨k, rfl, ?_⟩
    cases k with
    | true => exact q _ H1 F1 g1 ok1 (.bl _)
    | false =>
      exact (h2 rfl).run σ H1 F1 ok1 (env.mono g1.ex) Q fun w H2 F2 g2 ok2 d2 => by
        rw [h.dm] at g2
        exact q w H2 F2 (g1.trans g2 fun _ m => .inl m) ok2 d2
theorem ed_not (h : ED X C ds O e (.bl k) O') : ED X C ds O (.UnaryOp .Not e pos) (.bl (!k)) O' :=
  ed_of (pe_not pe_w) h.dm fun σ H F ok env Q q => h.run σ H F ok env _ fun v H1 F1 g1 ok1 d1 => by
    cases d1
    exact ⟨k, rfl, q _ H1 F1 g1 ok1 (.bl _)⟩
theorem ed_if (h : BD X C ds O c k O1) (h1 : k = true → ED X C ds O1 a x O1) (h2 : k = false → ED X C ds O1 b y O1) : ED X C ds O (.IfExp c a b pos) (if k = true then x else y) O1 :=
  ed_of (pe_ifExp pt_w pe_w pe_w) h.dm fun σ H F ok env Q q => h.run σ H F ok env _ fun H1 F1 g1 ok1 => by
    cases k with
    | true =>
      exact (h1 rfl).run σ H1 F1 ok1 (env.mono g1.ex) Q fun w H2 F2 g2 ok2 d2 => by
        rw [h.dm] at g2
        exact q w H2 F2 (g1.trans g2 fun _ m => .inl m) ok2 d2
    | false =>
      exact (h2 rfl).run σ H1 F1 ok1 (env.mono g1.ex) Q fun w H2 F2 g2 ok2 d2 => by
        rw [h.dm] at g2
        exact q w H2 F2 (g1.trans g2 fun _ m => .inl m) ok2 d2
/-- a list's truth -/
theorem bd_lst {xs : List Dat} (h : ED X C ds O e x O') (hx : LstD O' x xs) (he : ∀ whole, isTrue e X.env whole = (do let v ← whole; standAt e.pos; holding [v] (truthy v)) := by intro _; rfl) : BD X C ds O e (!xs.isEmpty) O' :=
  bd_of (pt_truth pe_w he) h.dm fun σ H F ok env Q q => h.run σ H F ok env _ fun v H1 F1 g1 ok1 d1 => by
    obtain ⟨p, vs, rfl, e1, e2⟩ := hx.at_ ok1 d1
    have hl : vs.isEmpty = xs.isEmpty := by
      have := e2.length
      cases vs <;> cases xs <;> simp_all
    exact ⟨!xs.isEmpty, .inl ⟨vs, SqL.of e1, by rw [hl]⟩, q H1 F1 g1 ok1⟩
/-! ### items, slices, sums -/
theorem ed_ixT {xs : List Dat} {n : Nat} (ha : ED X C ds O a (.tup xs) O1) (hb : ED X C ds O1 b (.int n) O2) (hx : xs[n]? = some z) (hs : PlainIx b := by exact fun _ _ => rfl) : ED X C ds O (.Subscript a b pos) z O2 :=
  ed_of (pe_ix ix_tup pe_w pe_w hs) (hb.dm.trans ha.dm) fun σ H F ok env Q q => td2 ha hb ok env fun v u H' F' g ok' d1 d2 => by
    cases d2
    cases d1 with
    | tup h1 h2 =>
      obtain ⟨w, e1, e2⟩ := h2.get hx
      exact ⟨_, _, _, w, rfl, rfl, SqT.of (ok'.ex _ _ h1), atI_nat e1, q w H' F' g ok' e2⟩
theorem ed_ixL {xs : List Dat} {n : Nat} (ha : ED X C ds O a x O1) (hb : ED X C ds O1 b (.int n) O2) (hl : LstD O2 x xs) (hx : xs[n]? = some z) (hs : PlainIx b := by exact fun _ _ => rfl) : ED X C ds O (.Subscript a b pos) z O2 :=
  ed_of (pe_ix ix_list pe_w pe_w hs) (hb.dm.trans ha.dm) fun σ H F ok env Q q => td2 ha hb ok env fun v u H' F' g ok' d1 d2 => by
    cases d2
    obtain ⟨p, vs, rfl, h1, h2⟩ := hl.at_ ok' d1
    obtain ⟨w, e1, e2⟩ := h2.get hx
    exact ⟨_, _, _, w, rfl, rfl, SqL.of h1, atI_nat e1, q w H' F' g ok' e2⟩
/-- xs[i], i an int of known bounds -/
theorem ed_ixLi {xs : List Dat} {i : Int} (ha : ED X C ds O a x O1) (hb : ED X C ds O1 b (.int i) O2) (hl : LstD O2 x xs) (h0 : 0 ≤ i) (hx : xs[i.toNat]? = some z) (hs : PlainIx b := by exact fun _ _ => rfl) : ED X C ds O (.Subscript a b pos) z O2 := by
  have e : ((i.toNat : Nat) : Int) = i := Int.toNat_of_nonneg h0
  rw [← e] at hb
  exact ed_ixL ha hb hl hx hs
theorem ed_ixTi {xs : List Dat} {i : Int} (ha : ED X C ds O a (.tup xs) O1) (hb : ED X C ds O1 b (.int i) O2) (h0 : 0 ≤ i) (hx : xs[i.toNat]? = some z) (hs : PlainIx b := by exact fun _ _ => rfl) : ED X C ds O (.Subscript a b pos) z O2 := by
  have e : ((i.toNat : Nat) : Int) = i := Int.toNat_of_nonneg h0
  rw [← e] at hb
  exact ed_ixT ha hb hx hs
/-- xs[-1] -/
theorem ed_ixLast {xs : List Dat} (ha : ED X C ds O a x O1) (hb : ED X C ds O1 b (.int (-1)) O2) (hl : LstD O2 x (xs ++ [z])) (hs : PlainIx b := by exact fun _ _ => rfl) : ED X C ds O (.Subscript a b pos) z O2 :=
  ed_of (pe_ix ix_list pe_w pe_w hs) (hb.dm.trans ha.dm) fun σ H F ok env Q q => td2 ha hb ok env fun v u H' F' g ok' d1 d2 => by
    cases d2
    obtain ⟨p, vs, rfl, h1, h2⟩ := hl.at_ ok' d1
    obtain ⟨w, e1, e2⟩ := h2.get (i := xs.length) (d := z) (by simp)
    have hlen := h2.length
    rw [List.length_append] at hlen
    have ev : vs = vs.take xs.length ++ [w] := by
      have := List.take_append_drop xs.length vs
      have hd : vs.drop xs.length = [w] := by
        apply List.ext_getElem?
        intro j
        rw [List.getElem?_drop]
        cases j with
        | zero => simpa using e1
        | succ j =>
          rw [List.getElem?_eq_none (by simp at hlen; omega)]
          simp
      rw [hd] at this
      exact this.symm
    refine ⟨_, _, _, w, rfl, rfl, SqL.of h1, ?_, q w H' F' g ok' e2⟩
    rw [ev]
    exact atI_last _ _
end
end Sw
/-! The data layer: slices, sums, conversions, any and all, sorted, properties, calls. -/
namespace Sw
open PySem PySem.Spec L2
section
variable {X : Cx} {C : Addr} {ds ds' : Dsl} {O O' O1 O2 O3 : Led} {e a b c : Expr} {d x y z : Dat} {E : En} {D : Ends} {F F' H H' : Hp} {σ : L2.St} {p p2 q pos : Pos} {k k' : Bool} {es : List Expr}
/-! ### slices -/
structure PD (X : Cx) (C : Addr) (ds : Dsl) (O : Led) (e : Option Expr) (i : Option Int) (O' : Led) : Prop where
  dm : dom O' = dom O
  ex : ∃ t, PO X e t ∧ ∀ (σ : L2.St) (H F : Hp), Ok X.K C F O H → EnvOk X.K C F σ ds → ∀ Q : Option Int → Hp → Prop, (∀ H' F', Grow (dom O) F H F' H' → Ok X.K C F' O' H' → Q i H') → t σ H Q
theorem pd_none : PD X C ds O none none O := ⟨rfl, _, po_none, fun σ H F ok env Q q => q H F Grow.refl ok⟩
theorem pd_some {i : Int} (h : ED X C ds O e (.int i) O1) : PD X C ds O (some e) (some i) O1 :=
  ⟨h.dm, _, po_some pe_w, fun σ H F ok env Q q => h.run σ H F ok env _ fun v H1 F1 g1 ok1 d1 => by
    cases d1
    exact ⟨i, rfl, q H1 F1 g1 ok1⟩⟩
def cutD (xs : List Dat) (lo hi : Option Int) : List Dat := (xs.drop (HT.sIx xs.length 0 lo)).take (HT.sIx xs.length xs.length hi - HT.sIx xs.length 0 lo)
theorem DvAll.cut {K : PySem.W.Frag} {vs : List V} {xs : List Dat} {lo hi : Option Int} (h : DvAll K C F vs xs) : DvAll K C F (cutV vs lo hi) (cutD xs lo hi) := by
  unfold cutV cutD
  rw [h.length]
  exact (h.drop _).take _
theorem td_sl {lo hi : Option Expr} {i j : Option Int} (ha : ED X C ds O e x O1) (hl : PD X C ds O1 lo i O2) (hh : PD X C ds O2 hi j O3) {r : V → Option Int → Option Int → Hp → VK → Prop} (hr : SlR X r)
    (h : ∀ H F v, Ok X.K C F O3 H → Dv X.K C F v x → ∀ Q : VK, (∀ w H' F', Grow [] F H F' H' → Ex F' H' → Dv X.K C F' w z → Q w H') → r v i j H Q) : ED X C ds O (.Subscript e (.Slice lo hi none p2) pos) z O3 := by
  obtain ⟨t1, q1, w1⟩ := hl.ex
  obtain ⟨t2, q2, w2⟩ := hh.ex
  refine ed_of (pe_slice hr pe_w q1 q2) (hh.dm.trans (hl.dm.trans ha.dm)) fun σ H F ok env Q q => ?_
  refine ha.run σ H F ok env _ fun v H1 F1 g1 ok1 d1 => ?_
  refine w1 σ H1 F1 ok1 (env.mono g1.ex) _ fun H2 F2 g2 ok2 => ?_
  refine w2 σ H2 F2 ok2 ((env.mono g1.ex).mono g2.ex) _ fun H3 F3 g3 ok3 => ?_
  refine h H3 F3 v ok3 ((d1.mono g2.ex).mono g3.ex) Q fun w H4 F4 g4 e4 d4 => ?_
  rw [hl.dm, ha.dm] at g3
  rw [ha.dm] at g2
  exact q w H4 F4 (((g1.trans g2 fun _ m => .inl m).trans g3 fun _ m => .inl m).trans g4 fun _ m => by simp at m) (ok3.grow0 g4 e4) d4
/-- a tuple's part, not the whole -/
theorem ed_slT {lo hi : Option Expr} {i j : Option Int} {xs zs : List Dat} (ha : ED X C ds O e (.tup xs) O1) (hl : PD X C ds O1 lo i O2) (hh : PD X C ds O2 hi j O3) (hz : cutD xs i j = zs := by rfl)
    (hp : ¬ (HT.sIx xs.length 0 i = 0 ∧ HT.sIx xs.length xs.length j = xs.length) := by exact of_decide_eq_true rfl) : ED X C ds O (.Subscript e (.Slice lo hi none p2) pos) (.tup zs) O3 :=
  td_sl ha hl hh sl_tup fun H F v ok d1 Q q => by
    cases d1 with
    | tup h1 h2 =>
      refine ⟨_, _, rfl, SqT.of (ok.ex _ _ h1), by rw [h2.length]; exact hp, fun p hp => ?_⟩
      have hF := ok.ex.free hp
      exact q (.ref p) _ _ (Grow.frz hp hF) ok.ex.upd2 (by rw [← hz]; exact dv_newT (X := X) hF h2.cut)
/-- a list's part: a new list -/
inductive LstS (O : Led) : Dat → List Dat → Prop
  | fzl (xs : List Dat) : LstS O (.fzl xs) xs
  | ls {x : Dat} {xs : List Dat} (h : LstD O x xs) : LstS O x xs
theorem LstS.at_ {K : PySem.W.Frag} {v : V} {xs : List Dat} (h : LstS O x xs) (ok : Ok K C F O H) (hd : Dv K C F v x) : ∃ p vs, v = .ref p ∧ SqL K H p vs ∧ DvAll K C F vs xs := by
  cases h with
  | fzl xs => cases hd with
    | fzl h1 h2 => exact ⟨_, _, rfl, seqE ok.ex h1, h2⟩
  | ls h =>
    obtain ⟨p, vs, e, h1, h2⟩ := h.at_ ok hd
    exact ⟨p, vs, e, SqL.of h1, h2⟩
theorem ed_slL {lo hi : Option Expr} {i j : Option Int} {xs : List Dat} (ha : ED X C ds O e x O1) (hl : PD X C ds O1 lo i O2) (hh : PD X C ds O2 hi j O3) (hx : LstS O3 x xs) : ED X C ds O (.Subscript e (.Slice lo hi none p2) pos) (.lst (cutD xs i j)) O3 :=
  td_sl ha hl hh sl_list fun H F v ok d1 Q q => by
    obtain ⟨a, vs, rfl, h1, h2⟩ := hx.at_ ok d1
    refine ⟨_, _, rfl, h1, fun p hp => ?_⟩
    have hF := ok.ex.free hp
    exact q (.ref p) _ _ (Grow.frz hp hF) ok.ex.upd2 (dv_newL (X := X) hF h2.cut)
theorem cut_take (xs : List Dat) (n : Nat) : cutD xs none (some (n : Int)) = xs.take n := by
  unfold cutD
  rw [HT.sIx_nat, HT.sIx_none, List.drop_zero, Nat.sub_zero, List.take_eq_take_iff]
  omega
theorem cut_mid (xs : List Dat) (m n : Nat) : cutD xs (some (m : Int)) (some (n : Int)) = (xs.drop m).take (n - m) := by
  unfold cutD
  rw [HT.sIx_nat, HT.sIx_nat]
  by_cases h : m ≤ xs.length
  · rw [Nat.min_eq_left h, List.take_eq_take_iff, List.length_drop]
    omega
  · rw [List.drop_eq_nil_of_le (by omega), List.drop_eq_nil_of_le (by omega), List.take_nil, List.take_nil]
/-! ### sums -/
theorem ed_catT {xs ys zs : List Dat} (ha : ED X C ds O a (.tup xs) O1) (hb : ED X C ds O1 b (.tup ys) O2) (hx : xs ≠ [] := by exact fun h => nomatch h) (hy : ys ≠ [] := by exact fun h => nomatch h) (hl : xs.length + ys.length ≤ 100000 := by exact Nat.le_of_ble_eq_true rfl) (hz : xs ++ ys = zs := by rfl) : ED X C ds O (.BinOp a .Add b pos) (.tup zs) O2 :=
  ed_op op_catT ha hb fun H F v u ok d1 d2 Q q => by
    cases d1 with
    | tup h1 h2 =>
      cases d2 with
      | tup h3 h4 =>
        have e1 := h2.length
        have e2 := h4.length
        refine ⟨_, _, _, _, rfl, rfl, SqT.of (ok.ex _ _ h1), SqT.of (ok.ex _ _ h3), fun h => hx ?_, sz (by omega), fun h => absurd ?_ hy, fun _ p hp => ?_⟩
        · rw [h] at e1
          exact List.eq_nil_of_length_eq_zero e1.symm
        · rw [h] at e2
          exact List.eq_nil_of_length_eq_zero e2.symm
        · have hF := ok.ex.free hp
          exact q (.ref p) _ _ (Grow.frz hp hF) ok.ex.upd2 (by rw [← hz]; exact dv_newT (X := X) hF (h2.append h4))
theorem ed_catL {xs ys : List Dat} (ha : ED X C ds O a x O1) (hb : ED X C ds O1 b y O2) (hx : LstD O2 x xs) (hy : LstD O2 y ys) (hl : xs.length + ys.length ≤ 100000) : ED X C ds O (.BinOp a .Add b pos) (.lst (xs ++ ys)) O2 :=
  ed_op op_cat ha hb fun H F v u ok d1 d2 Q q => by
    obtain ⟨p1, vs, rfl, h1, h2⟩ := hx.at_ ok d1
    obtain ⟨p2, us, rfl, h3, h4⟩ := hy.at_ ok d2
    have e1 := h2.length
    have e2 := h4.length
    refine ⟨_, _, _, _, rfl, rfl, h1, h3, sz (by omega), fun p hp => ?_⟩
    have hF := ok.ex.free hp
    exact q (.ref p) _ _ (Grow.frz hp hF) ok.ex.upd2 (dv_newL (X := X) hF (h2.append h4))
/-! ### list(..), tuple(..) -/
theorem ed_listOf {xs : List Dat} (hm : X.mg "list" = none) (h : AD X C ds O (e :: es) [x] O1) (hx : LstD O1 x xs ∨ x = .tup xs) (hp : Pl X e es pos := by exact ⟨rfl, rfl⟩) (hg : Gl X "list" := by rfl) : ED X C ds O (.Call (.Name "list" p) (e :: es) [] pos) (.lst xs) O1 :=
  ed_ct call_list_of hg hm (by decide +kernel) h hp fun H F vs ok d Q q => by
    obtain ⟨v, rfl, dv⟩ := all1 d
    rcases hx with hx | rfl
    · obtain ⟨p1, us, rfl, h1, h2⟩ := hx.at_ ok dv
      refine ⟨_, _, rfl, .inl (SqL.of h1), fun l hl => ?_⟩
      have hF := ok.ex.free hl
      exact q (.ref l) _ _ (Grow.frz hl hF) ok.ex.upd2 (dv_newL (X := X) hF h2)
    · cases dv with
      | tup h1 h2 =>
        refine ⟨_, _, rfl, .inr (SqT.of (ok.ex _ _ h1)), fun l hl => ?_⟩
        have hF := ok.ex.free hl
        exact q (.ref l) _ _ (Grow.frz hl hF) ok.ex.upd2 (dv_newL (X := X) hF h2)
theorem ed_tupleOf {xs : List Dat} (hm : X.mg "tuple" = none) (h : AD X C ds O (e :: es) [x] O1) (hx : LstD O1 x xs) (hp : Pl X e es pos := by exact ⟨rfl, rfl⟩) (hg : Gl X "tuple" := by rfl) : ED X C ds O (.Call (.Name "tuple" p) (e :: es) [] pos) (.tup xs) O1 :=
  ed_ct call_tuple_of hg hm (by decide +kernel) h hp fun H F vs ok d Q q => by
    obtain ⟨v, rfl, dv⟩ := all1 d
    obtain ⟨p1, us, rfl, h1, h2⟩ := hx.at_ ok dv
    refine ⟨_, _, rfl, .inl ⟨SqL.of h1, fun l hl => ?_⟩⟩
    have hF := ok.ex.free hl
    exact q (.ref l) _ _ (Grow.frz hl hF) ok.ex.upd2 (dv_newT (X := X) hF h2)
theorem dv_ints {K : PySem.W.Frag} : ∀ ns : List Int, DvAll K C F (ns.map V.int) (ns.map Dat.int)
  | [] => .nil
  | n :: ns => .cons (.int n) (dv_ints ns)
theorem ed_listRg {n : Nat} (hm : X.mg "list" = none) (hm2 : X.mg "range" = none) (h : ED X C ds O e (.int n) O1) (hn : n ≤ 100000) (hg : Gl X "list" := by rfl) (hg2 : Gl X "range" := by rfl) (hc : X.calm = true := by rfl)
    (na : starEach [e] X.env = (false, eval e X.env) :: starEach [] X.env := by rfl) (na2 : starEach [.Call (.Name "range" p2) [e] [] q] X.env = (false, eval (.Call (.Name "range" p2) [e] [] q) X.env) :: starEach [] X.env := by rfl) :
    ED X C ds O (.Call (.Name "list" p) [.Call (.Name "range" p2) [e] [] q] [] pos) (encL .int (upto n)) O1 :=
  ed_of (pe_listRg hc hg hm (prg_1 hg2 hm2 pe_w na) na2) h.dm fun σ H F ok env Q q => h.run σ H F ok env _ fun v H1 F1 g1 ok1 d1 => by
    cases d1
    refine ⟨n, rfl, RgOk.of_le (by omega) (by omega) (by omega) (by omega), fun p hp => ?_⟩
    have hF := ok1.ex.free hp
    have er : rgV 0 (n : Int) = (upto n).map V.int := by
      unfold rgV upto
      rw [List.map_map]
      have : ((n : Int) - 0).toNat = n := by omega
      rw [this]
      refine List.map_congr_left fun i _ => ?_
      show V.int (0 + (i : Int)) = V.int (i : Int)
      rw [Int.zero_add]
    rw [er]
    have gf : Grow (dom O) F1 H1 (upd F1 p (.lst ((upto n).map V.int))) (upd H1 p (.lst ((upto n).map V.int))) := Grow.frz hp hF
    exact q (.ref p) _ _ (g1.trans gf fun _ m => .inl m) (ok1.grow0 (Grow.frz hp hF) ok1.ex.upd2) (dv_newL (X := X) hF (dv_ints _))
/-! ### any, all of a list of True, False -/
theorem dv_bools {K : PySem.W.Frag} : ∀ {bs : List Bool} {vs : List V}, DvAll K C F vs (bs.map Dat.bl) → vs = bs.map V.bl
  | [], _, .nil => rfl
  | b :: bs, _, .cons h1 h2 => by
    cases h1
    rw [dv_bools h2]
    rfl
theorem ed_all {bs : List Bool} (hm : X.mg "all" = none) (h : AD X C ds O (e :: es) [.lst (bs.map Dat.bl)] O1) (hp : Pl X e es pos := by exact ⟨rfl, rfl⟩) (hg : Gl X "all" := by rfl) (hc : X.calm = true := by rfl) : ED X C ds O (.Call (.Name "all" p) (e :: es) [] pos) (.bl (bs.all id)) O1 :=
  ed_cb (cr_all hc) hg hm (by decide +kernel) h hp fun H F vs ok d Q q => by
    obtain ⟨v, rfl, dv⟩ := all1 d
    cases dv with
    | lst h1 h2 => exact ⟨_, bs, rfl, SqL.of (by rw [← dv_bools h2]; exact ok.ex _ _ h1), q _ H F Grow.refl ok.ex (.bl _)⟩
theorem ed_any {bs : List Bool} (hm : X.mg "any" = none) (h : AD X C ds O (e :: es) [.lst (bs.map Dat.bl)] O1) (hp : Pl X e es pos := by exact ⟨rfl, rfl⟩) (hg : Gl X "any" := by rfl) (hc : X.calm = true := by rfl) : ED X C ds O (.Call (.Name "any" p) (e :: es) [] pos) (.bl (bs.any id)) O1 :=
  ed_cb (cr_any hc) hg hm (by decide +kernel) h hp fun H F vs ok d Q q => by
    obtain ⟨v, rfl, dv⟩ := all1 d
    cases dv with
    | lst h1 h2 => exact ⟨_, bs, rfl, SqL.of (by rw [← dv_bools h2]; exact ok.ex _ _ h1), q _ H F Grow.refl ok.ex (.bl _)⟩
/-! ### promises -/
/-- what a def says of data: r from the arguments and the ledger to what is known of the answer and the ledger behind it -/
def spL (K : PySem.W.Frag) (C : Addr) (r : List Dat → Led → (Dat → Led → Prop) → Prop) : Sp := fun vs H Q _ => ∃ F O ds post, Ok K C F O H ∧ DvAll K C F vs ds ∧ r ds O post ∧
  ∀ v H' F' d O', Grow (dom O) F H F' H' → Ok K C F' O' H' → Dv K C F' v d → post d O' → Q v H'
/-- a def that leaves all as it is: r from the arguments to the answer -/
def pureR (r : List Dat → Dat → Prop) : List Dat → Led → (Dat → Led → Prop) → Prop := fun ds O post => O = [] ∧ ∃ d, r ds d ∧ post = fun d' _ => d' = d
abbrev spP (K : PySem.W.Frag) (C : Addr) (r : List Dat → Dat → Prop) : Sp := spL K C (pureR r)
/-- a def that can be called by its name -/
structure Cal (P : Program) (w : World) (K : PySem.W.Frag) (mg : Str → Option Value) (base : Heap) (k : Nat) (n : Str) (ps : List Str) (sp : Sp) : Prop where
  ex : ∃ f fd, FnOk P w K mg base CX0 k f fd ps sp ∧ mg n = some (.ref f) ∧ PySem.W.keepIn K (.ref f) = true ∧ Binds K fd ps []
theorem sp_pure {K : PySem.W.Frag} {r : List Dat → Dat → Prop} {vs : List V} {xs : List Dat} {E' : XK} (ok : Ok K C F O H) (d : DvAll K C F vs xs) (hr : r xs z) (Q : VK) (q : ∀ v H' F', Grow [] F H F' H' → Ex F' H' → Dv K C F' v z → Q v H') : spP K C r vs H Q E' :=
  ⟨F, [], xs, _, ok.nil, d, ⟨rfl, z, hr, rfl⟩, fun v H' F' d' O' g ok' hd e => by
    subst e
    exact q v H' F' g ok'.ex hd⟩
/-- f(..) of a def that leaves all as it is -/
theorem ed_call {n : Str} {ps : List Str} {kk : Nat} {r : List Dat → Dat → Prop} {xs : List Dat} (G : Cal X.prog X.w X.K X.mg X.base kk n ps (spP X.K C r)) (hr : Room kk X.A) (h : AD X C ds O (e :: es) xs O1) (hz : r xs z) (hg : Gl X n := by rfl) (hp : Pl X e es pos := by exact ⟨rfl, rfl⟩)
    (hdb : (n == ("__debug__" : Str)) = false := by decide) : ED X C ds O (.Call (.Name n p) (e :: es) [] pos) z O1 := by
  obtain ⟨f, fd, F1, hm, hk, hb⟩ := G.ex
  refine ed_of (pe_call F1 hr hg hm hk hb .nil pass0 pa_w hdb hp.1 hp.2) h.dm fun σ H F ok env Q q => h.run σ H F ok env _ fun vs H1 F1 g1 ok1 d1 => ?_
  rw [List.append_nil]
  exact sp_pure ok1 d1 hz Q fun v H' F' g e' hd => q v H' F' (g1.trans g fun _ m => by simp at m) (ok1.grow0 g e') hd
/-! ### the properties of a Sky -/
theorem ed_prop {f : Str} {kk : Nat} {g pr : Addr} {fd : FuncData} {s : SkyD} {r : List Dat → Dat → Prop} (cl : Cls X.K C) (hp : PropOf X.K C f pr g) (G : FnOk X.prog X.w X.K X.mg X.base CX0 kk g fd ["self"] (spP X.K C r)) (hr : Room (kk + 1) X.A) (hb : Binds X.K fd ["self"] [])
    (h : ED X C ds O e (.sky s) O1) (hz : r [.sky s] z) (hab : attributeBase e f X.env (eval e X.env) = eval e X.env := by rfl) : ED X C ds O (.Attribute e f pos) z O1 :=
  ed_of (pe_prop pe_w cl hp G hr hb .nil pass0 hab) h.dm fun σ H F ok env Q q => h.run σ H F ok env _ fun v H1 F1 g1 ok1 d1 => by
    cases d1 with
    | sky h1 h2 h3 h4 =>
      refine ⟨_, _, _, rfl, ok1.ex _ _ h1, ?_⟩
      exact sp_pure ok1 (DvAll.one (.sky h1 h2 h3 h4)) hz Q fun v H' F' g e' hd => q v H' F' (g1.trans g fun _ m => by simp at m) (ok1.grow0 g e') hd
end
end Sw
/-! The data layer: what a for walks, targets, comprehensions. -/
namespace Sw
open PySem PySem.Spec L2
section
variable {X : Cx} {C : Addr} {ds ds' ds1 : Dsl} {O O' O1 O2 O3 : Led} {e a b c tg iter : Expr} {d x y z : Dat} {E : En} {D : Ends} {F F' H H' : Hp} {σ : L2.St} {p p2 q pos : Pos} {k k' : Bool} {es : List Expr}
/-! ### what is walked -/
/-- iter is walked: the items' data -/
structure IT (X : Cx) (C : Addr) (ds : Dsl) (O : Led) (tg iter : Expr) (items : List Dat) (O' : Led) : Prop where
  dm : dom O' = dom O
  ex : ∃ wi, PI X tg iter wi ∧ ∀ (σ : L2.St) (H F : Hp), Ok X.K C F O H → EnvOk X.K C F σ ds → ∀ R : It → Hp → Prop,
    (∀ J H1 F1, Grow (dom O) F H F1 H1 → Ok X.K C F1 O' H1 →
      Walk J items.length (fun H' => Ex F1 H') (fun i H x H' => ∀ F2, Ex F1 F2 → Ex F2 H → ∃ F3, Grow [] F2 H F3 H' ∧ Ex F3 H' ∧ ∃ d, items[i]? = some d ∧ Dv X.K C F3 x d) → R J H1) → wi σ H R
theorem it_list {xs : List Dat} (h : ED X C ds O iter (.lst xs) O1) : IT X C ds O tg iter xs O1 :=
  ⟨h.dm, _, pi_list pe_w, fun σ H F ok env R r => h.run σ H F ok env _ fun v H1 F1 g1 ok1 d1 => by
    cases d1 with
    | lst h1 h2 =>
      refine ⟨_, rfl, ⟨_, SqL.of (ok1.ex _ _ h1)⟩, r _ H1 F1 g1 ok1 ?_⟩
      rw [← h2.length]
      refine walk_list.mono (fun H' e => SqL.of (e _ _ h1)) fun i H x H' hi e y F2 e1 e2 => ?_
      obtain ⟨rfl, hx⟩ := y
      obtain ⟨d, q1, q2⟩ := h2.get' hx
      exact ⟨F2, Grow.refl, e2, d, q1, q2.mono e1⟩⟩
theorem it_tup {xs : List Dat} (h : ED X C ds O iter (.tup xs) O1) : IT X C ds O tg iter xs O1 :=
  ⟨h.dm, _, pi_tup pe_w, fun σ H F ok env R r => h.run σ H F ok env _ fun v H1 F1 g1 ok1 d1 => by
    cases d1 with
    | tup h1 h2 =>
      refine ⟨_, rfl, ⟨_, SqT.of (ok1.ex _ _ h1)⟩, r _ H1 F1 g1 ok1 ?_⟩
      rw [← h2.length]
      refine walk_tup.mono (fun H' e => SqT.of (e _ _ h1)) fun i H x H' hi e y F2 e1 e2 => ?_
      obtain ⟨rfl, hx⟩ := y
      obtain ⟨d, q1, q2⟩ := h2.get' hx
      exact ⟨F2, Grow.refl, e2, d, q1, q2.mono e1⟩⟩
/-- range(n) -/
theorem it_range {n : Nat} (hm : X.mg "range" = none) (h : ED X C ds O e (.int n) O1) (hn : n ≤ 100000) (hg : Gl X "range" := by rfl) (na : starEach [e] X.env = [(false, eval e X.env)] := by rfl) : IT X C ds O tg (.Call (.Name "range" p) [e] [] pos) ((upto n).map Dat.int) O1 :=
  ⟨h.dm, _, pi_range1 hg hm (pa_cons pe_w pa_nil (by exact na)) na, fun σ H F ok env R r => h.run σ H F ok env _ fun v H1 F1 g1 ok1 d1 => by
    cases d1
    refine ⟨n, rfl, by omega, by omega, r _ H1 F1 g1 ok1 ?_⟩
    have hl : ((upto n).map Dat.int).length = (n : Int).toNat := by simp [upto]
    rw [hl]
    refine walk_range.mono (fun _ _ => trivial) fun i H x H' hi e y F2 e1 e2 => ?_
    obtain ⟨rfl, rfl⟩ := y
    refine ⟨F2, Grow.refl, e2, .int (0 + i), ?_, .int _⟩
    have : i < n := by omega
    simp [upto, this]⟩
/-- enumerate(list) -/
def enumD (xs : List Dat) : List Dat := xs.zipIdx.map fun p => .tup [.int (p.2 : Nat), p.1]
theorem enumD_get {xs : List Dat} {i : Nat} {d : Dat} (h : xs[i]? = some d) : (enumD xs)[i]? = some (.tup [.int (i : Nat), d]) := by
  unfold enumD
  rw [List.getElem?_map, List.getElem?_zipIdx, h]
  simp
theorem enumD_len (xs : List Dat) : (enumD xs).length = xs.length := by simp [enumD]
theorem it_enumL {xs : List Dat} {elts : List Expr} {kk : Nat} {tpos : Pos} (hm : X.mg "enumerate" = none) (h : ED X C ds O e (.lst xs) O1) (hg : Gl X "enumerate" := by rfl) (na : starEach [e] X.env = [(false, eval e X.env)] := by rfl) :
    IT X C ds O (.Tuple elts kk tpos) (.Call (.Name "enumerate" p) [e] [] pos) (enumD xs) O1 :=
  ⟨h.dm, _, pi_enum hg hm (pa_cons pe_w pa_nil (by exact na)) na, fun σ H F ok env R r => h.run σ H F ok env _ fun v H1 F1 g1 ok1 d1 => by
    cases d1 with
    | lst h1 h2 =>
      refine ⟨_, _, rfl, SqL.of (ok1.ex _ _ h1), r _ H1 F1 g1 ok1 ?_⟩
      rw [enumD_len, ← h2.length]
      refine walk_enum.mono (fun H' e => SqL.of (e _ _ h1)) fun i H x H' hi e y F2 e1 e2 => ?_
      obtain ⟨T, u, v, rfl, hT, rfl, q1, q2⟩ := y
      cases q1
      obtain ⟨d, q3, q4⟩ := h2.get' q2
      have hF := e2.free hT
      exact ⟨_, Grow.frz hT hF, e2.upd2, _, enumD_get q3, dv_newT (X := X) hF (.cons (.int _) (DvAll.one (q4.mono e1)))⟩⟩
/-- zip(list, list) -/
def zipD (xs ys : List Dat) : List Dat := (xs.zip ys).map fun p => .tup [p.1, p.2]
theorem it_zip {xs ys : List Dat} {elts : List Expr} {kk : Nat} {tpos : Pos} (hm : X.mg "zip" = none) (ha : ED X C ds O a (.lst xs) O1) (hb : ED X C ds O1 b (.lst ys) O2) (hg : Gl X "zip" := by rfl) (na : starEach [a, b] X.env = (false, eval a X.env) :: starEach [b] X.env := by rfl) (nb : starEach [b] X.env = (false, eval b X.env) :: starEach [] X.env := by rfl) (hpl : (backTo pos (starEach [b] X.env)).any (·.1) = false := by rfl) :
    IT X C ds O (.Tuple elts kk tpos) (.Call (.Name "zip" p) [a, b] [] pos) (zipD xs ys) O2 :=
  ⟨hb.dm.trans ha.dm, _, pi_zip hg hm (pa_cons pe_w (pa_cons pe_w pa_nil nb) na) na hpl, fun σ H F ok env R r => td2 ha hb ok env fun v u H1 F1 g1 ok1 d1 d2 => by
    cases d1 with
    | @lst _ vs1 _ h1 h2 =>
      cases d2 with
      | @lst _ vs2 _ h3 h4 =>
        refine ⟨_, _, _, _, rfl, SqL.of (ok1.ex _ _ h1), SqL.of (ok1.ex _ _ h3), r _ H1 F1 g1 ok1 ?_⟩
        have hl : (zipD xs ys).length = min vs1.length vs2.length := by
          simp only [zipD, List.length_map, List.length_zip, ← h2.length, ← h4.length]
        rw [hl]
        refine (walk_zip rfl).mono (fun H' e => ⟨SqL.of (e _ _ h1), SqL.of (e _ _ h3)⟩) fun i H x H' hi e y F2 e1 e2 => ?_
        obtain ⟨T, u, v, rfl, hT, rfl, q1, q2⟩ := y
        obtain ⟨d, q3, q4⟩ := h2.get' q1
        obtain ⟨d', q5, q6⟩ := h4.get' q2
        have hF := e2.free hT
        refine ⟨_, Grow.frz hT hF, e2.upd2, .tup [d, d'], ?_, dv_newT (X := X) hF (.cons (q4.mono e1) (DvAll.one (q6.mono e1)))⟩
        unfold zipD
        rw [List.getElem?_map, List.getElem?_zip_eq_some.mpr (show xs[i]? = some (d, d').1 ∧ ys[i]? = some (d, d').2 from ⟨q3, q5⟩)]
        rfl⟩
/-! ### targets -/
structure GD (X : Cx) (C : Addr) (ds : Dsl) (tg : Expr) (d : Dat) (ds' : Dsl) : Prop where
  ex : ∃ g, PG X tg g ∧ ∀ (σ : L2.St) (H F : Hp) (v : V), Ex F H → EnvOk X.K C F σ ds → Dv X.K C F v d → ∀ Q : L2.St → Hp → Prop, (∀ σ', EnvOk X.K C F σ' ds' → Q σ' H) → g v σ H Q
structure GDs (X : Cx) (C : Addr) (ds : Dsl) (ts : List Expr) (xs : List Dat) (ds' : Dsl) : Prop where
  ex : ∃ g, PGs X ts g ∧ ∀ (σ : L2.St) (H F : Hp) (vs : List V), Ex F H → EnvOk X.K C F σ ds → DvAll X.K C F vs xs → ∀ Q : L2.St → Hp → Prop, (∀ σ', EnvOk X.K C F σ' ds' → Q σ' H) → g vs σ H Q
theorem gd_name (i : Nat) {n : Str} (hN : X.N.Nodup) (hi : X.N[i]? = some n := by rfl) (hx : Loc X.env.scope n := by first | exact Or.inl rfl | exact Or.inr rfl) (hf : X.fn n = true ∨ X.env.scope.names.lookup n = some .local := by first | exact .inl rfl | exact .inr rfl) : GD X C ds (.Name n pos) d (ds.set i (some d)) :=
  ⟨_, pg_name hN hi hx hf, fun σ H F v e env hd Q q => q _ (env.set i hd)⟩
theorem gds_nil : GDs X C ds [] [] ds := ⟨_, pgs_nil, fun σ H F vs e env hd Q q => by
  cases hd
  exact ⟨rfl, q σ env⟩⟩
theorem gds_cons {ts : List Expr} {xs : List Dat} (h : GD X C ds tg x ds1) (hr : GDs X C ds1 ts xs ds') (hs : (assignEach (tg :: ts) X.env).map (·.2) = assign tg X.env :: (assignEach ts X.env).map (·.2) := by rfl) : GDs X C ds (tg :: ts) (x :: xs) ds' := by
  obtain ⟨g1, p1, r1⟩ := h.ex
  obtain ⟨g2, p2, r2⟩ := hr.ex
  refine ⟨_, pgs_cons p1 p2 hs, fun σ H F vs e env hd Q q => ?_⟩
  cases hd with
  | cons h1 h2 => exact ⟨_, _, rfl, r1 σ H F _ e env h1 _ fun σ' env' => r2 σ' H F _ e env' h2 Q q⟩
theorem gd_tup {ts : List Expr} {xs : List Dat} {kk : Nat} (h : GDs X C ds ts xs ds') (hc : X.calm = true := by rfl) (hn : (assignEach ts X.env).length = xs.length := by rfl) (hst : (assignEach ts X.env).findIdx? (·.1) = none := by rfl) : GD X C ds (.Tuple ts kk pos) (.tup xs) ds' := by
  obtain ⟨g, p, r⟩ := h.ex
  refine ⟨_, pg_tup hc p hn hst, fun σ H F v e env hd Q q => ?_⟩
  cases hd with
  | tup h1 h2 => exact ⟨_, _, rfl, SqT.of (e _ _ h1), h2.length, r σ H F _ e env h2 Q q⟩
theorem gd_lst {ts : List Expr} {xs : List Dat} {kk : Nat} (h : GDs X C ds ts xs ds') (hc : X.calm = true := by rfl) (hn : (assignEach ts X.env).length = xs.length := by rfl) (hst : (assignEach ts X.env).findIdx? (·.1) = none := by rfl) : GD X C ds (.Tuple ts kk pos) (.lst xs) ds' := by
  obtain ⟨g, p, r⟩ := h.ex
  refine ⟨_, pg_unl hc p hn hst, fun σ H F v e env hd Q q => ?_⟩
  cases hd with
  | lst h1 h2 => exact ⟨_, _, rfl, SqL.of (e _ _ h1), h2.length, r σ H F _ e env h2 Q q⟩
/-! ### list comprehensions -/
def wipeD (ds : Dsl) : List Nat → Dsl
  | [] => ds
  | v :: vs => (wipeD ds vs).set v none
theorem EnvOk.wipe {K : PySem.W.Frag} (h : EnvOk K C F σ ds) : ∀ vs : List Nat, EnvOk K C F (wipe σ vs) (wipeD ds vs)
  | [] => h
  | v :: vs => by
    obtain ⟨h1, h2⟩ := EnvOk.wipe h vs
    refine ⟨by simp [wipeD, L2.wipe, h1], fun i d q => ?_⟩
    unfold wipeD at q
    unfold L2.wipe
    by_cases hi : v = i
    · subst hi
      by_cases hv : v < (wipeD ds vs).length
      · rw [List.getElem?_set_self hv] at q; cases q
      · rw [List.getElem?_eq_none (by simpa using hv)] at q; cases q
    · rw [List.getElem?_set_ne hi] at q ⊢
      exact h2 i d q
/-- a block's context -/
abbrev Blk (X : Cx) (s : Shared) (H : Hp) (scope : Scope) (C' : Addr) (cl : List (Str × Addr)) (fp : List Addr) : Cx := X.blk s H scope (compEnvC scope cl C' X.env) fp
/-- the target of a comprehension, the same in every block: slots vs alone are stored -/
structure GB (X : Cx) (C : Addr) (scope : Scope) (vs : List Nat) (ds : Dsl) (tg : Expr) (d : Dat) (ds' : Dsl) : Prop where
  ex : ∃ g, (∀ s H C' cl fp, PG (Blk X s H scope C' cl fp) tg g) ∧ ∀ (σ : L2.St) (H F : Hp) (v : V), Ex F H → EnvOk X.K C F σ ds → Dv X.K C F v d → ∀ Q : L2.St → Hp → Prop, (∀ σ', EnvOk X.K C F σ' ds' → wipe σ' vs = wipe σ vs → Q σ' H) → g v σ H Q
theorem wipe_set (σ : L2.St) (o : Option V) {i : Nat} : ∀ {vs : List Nat}, i ∈ vs → wipe (σ.set i o) vs = wipe σ vs
  | v :: vs, h => by
    unfold L2.wipe
    rcases List.mem_cons.mp h with rfl | h
    · have key : ∀ ws : List Nat, (wipe (σ.set i o) ws).set i none = (wipe σ ws).set i none := by
        intro ws
        induction ws with
        | nil => simp [L2.wipe]
        | cons w ws ih =>
          unfold L2.wipe
          by_cases hw : w = i
          · subst hw
            rw [ih]
          · rw [List.set_comm _ _ hw, List.set_comm _ _ hw, ih]
      exact key vs
    · rw [wipe_set σ o h]
end
/-- the target's transformer is told apart, so that it is one for all items -/
structure GBt (X : Cx) (C : Addr) (scope : Scope) (vs : List Nat) (tg : Expr) (sh : Dsl → Dat → Option Dsl) : Prop where
  ex : ∃ g, (∀ s H C' cl fp, PG (Blk X s H scope C' cl fp) tg g) ∧ ∀ (ds ds' : Dsl) (d : Dat), sh ds d = some ds' → ∀ (σ : L2.St) (H F : Hp) (v : V), Ex F H → EnvOk X.K C F σ ds → Dv X.K C F v d → ∀ Q : L2.St → Hp → Prop, (∀ σ', EnvOk X.K C F σ' ds' → wipe σ' vs = wipe σ vs → Q σ' H) → g v σ H Q
section
variable {X : Cx} {C : Addr} {ds ds' ds1 : Dsl} {O O' O1 O2 O3 : Led} {e a b c tg iter : Expr} {d x y z : Dat} {E : En} {D : Ends} {F F' H H' : Hp} {σ : L2.St} {p p2 q pos : Pos} {k k' : Bool} {es : List Expr} {scope : Scope} {vs : List Nat}
/-- a name; two names -/
def sh1 (i : Nat) : Dsl → Dat → Option Dsl := fun ds d => some (ds.set i (some d))
def sh2 (i j : Nat) : Dsl → Dat → Option Dsl := fun ds d => match d with
  | .tup [x, y] => some ((ds.set i (some x)).set j (some y))
  | _ => none
theorem gb_name (i : Nat) {n : Str} (hN : X.N.Nodup) (hm : i ∈ vs := by decide) (hi : X.N[i]? = some n := by rfl) (hx : ∀ s H C' cl fp, Loc (Blk X s H scope C' cl fp).env.scope n := by intros; first | exact Or.inl rfl | exact Or.inr rfl)
    (hf : ∀ s H C' cl fp, (Blk X s H scope C' cl fp).fn n = true ∨ (Blk X s H scope C' cl fp).env.scope.names.lookup n = some .local := by intros; first | exact .inl rfl | exact .inr rfl) : GBt X C scope vs (.Name n pos) (sh1 i) :=
  ⟨_, fun s H C' cl fp => pg_name hN hi (hx s H C' cl fp) (hf s H C' cl fp), fun ds ds' d h σ H F v e env hd Q q => by
    cases h
    exact q _ (env.set i hd) (wipe_set σ _ hm)⟩
theorem gb_pair (i j : Nat) {n m : Str} {p1 p2 : Pos} {kk : Nat} (hN : X.N.Nodup) (hm : i ∈ vs := by decide) (hm2 : j ∈ vs := by decide) (hi : X.N[i]? = some n := by rfl) (hj : X.N[j]? = some m := by rfl) (hc : X.calm = true := by rfl)
    (hx : ∀ s H C' cl fp, Loc (Blk X s H scope C' cl fp).env.scope n := by intros; first | exact Or.inl rfl | exact Or.inr rfl) (hy : ∀ s H C' cl fp, Loc (Blk X s H scope C' cl fp).env.scope m := by intros; first | exact Or.inl rfl | exact Or.inr rfl)
    (hf : ∀ s H C' cl fp, (Blk X s H scope C' cl fp).fn n = true ∨ (Blk X s H scope C' cl fp).env.scope.names.lookup n = some .local := by intros; first | exact .inl rfl | exact .inr rfl)
    (hf2 : ∀ s H C' cl fp, (Blk X s H scope C' cl fp).fn m = true ∨ (Blk X s H scope C' cl fp).env.scope.names.lookup m = some .local := by intros; first | exact .inl rfl | exact .inr rfl)
    (hs : ∀ s H C' cl fp, (assignEach [.Name n p1, .Name m p2] (Blk X s H scope C' cl fp).env).map (·.2) = assign (.Name n p1) (Blk X s H scope C' cl fp).env :: (assignEach [.Name m p2] (Blk X s H scope C' cl fp).env).map (·.2) := by intros; rfl)
    (hs2 : ∀ s H C' cl fp, (assignEach [.Name m p2] (Blk X s H scope C' cl fp).env).map (·.2) = assign (.Name m p2) (Blk X s H scope C' cl fp).env :: (assignEach [] (Blk X s H scope C' cl fp).env).map (·.2) := by intros; rfl)
    (hn : ∀ s H C' cl fp, (assignEach [.Name n p1, .Name m p2] (Blk X s H scope C' cl fp).env).length = 2 := by intros; rfl) (hst : ∀ s H C' cl fp, (assignEach [.Name n p1, .Name m p2] (Blk X s H scope C' cl fp).env).findIdx? (·.1) = none := by intros; rfl) :
    GBt X C scope vs (.Tuple [.Name n p1, .Name m p2] kk pos) (sh2 i j) :=
  ⟨gTup X.K 2 (gCons (gName i) (gCons (gName j) gNil)), fun s H C' cl fp => pg_tup (X := Blk X s H scope C' cl fp) hc (pgs_cons (pg_name hN hi (hx s H C' cl fp) (hf s H C' cl fp)) (pgs_cons (pg_name hN hj (hy s H C' cl fp) (hf2 s H C' cl fp)) pgs_nil (hs2 s H C' cl fp)) (hs s H C' cl fp)) (hn s H C' cl fp) (hst s H C' cl fp), fun ds ds' d h σ H F v e env hd Q q => by
    unfold sh2 at h
    split at h
    · cases h
      cases hd with
      | tup h1 h2 =>
        cases h2 with
        | cons h2 h3 => cases h3 with
          | cons h3 h4 =>
            cases h4
            refine ⟨_, _, rfl, SqT.of (e _ _ h1), rfl, _, _, rfl, _, _, rfl, rfl, ?_⟩
            exact q _ ((env.set i h2).set j h3) (by rw [wipe_set _ _ hm2, wipe_set _ _ hm])
    · cases h⟩
/-- the tests of a clause in every block -/
def wI (X : Cx) (scope : Scope) (e : Expr) : TE := fun σ H Q => ∀ s H0 C' cl fp, wE (Blk X s H0 scope C' cl fp) e σ H Q
def wIT (X : Cx) (scope : Scope) (e : Expr) : TT := fun σ H Q => ∀ s H0 C' cl fp, wT (Blk X s H0 scope C' cl fp) e σ H Q
theorem pe_wI {s : Shared} {H0 : Hp} {C' : Addr} {cl : List (Str × Addr)} {fp : List Addr} : PE (Blk X s H0 scope C' cl fp) e (wI X scope e) := ⟨fun pins s' _ _ _ I h => h _ _ _ _ _ pins s' I⟩
theorem pt_wI {s : Shared} {H0 : Hp} {C' : Addr} {cl : List (Str × Addr)} {fp : List Addr} : PT (Blk X s H0 scope C' cl fp) e (wIT X scope e) := ⟨fun pins s' _ _ _ I h => h _ _ _ _ _ pins s' I⟩
end
end Sw
/-! The data layer: comprehensions. -/
namespace Sw
open PySem PySem.Spec L2
section
variable {K : PySem.W.Frag} {C : Addr} {F F' F1 F2 H H' H1 : Hp} {O O' : Led} {D : Addr} {o : HO}
/-- what a list that may change holds -/
theorem Ok.cons {m : MO} (h : Ok K C F O H) (hF : F D = none) (hm : MOk K C F H D m) (hd : D ∉ dom O) : Ok K C F ((D, m) :: O) H where
  ex := h.ex
  fr := fun e he => by
    rcases List.mem_cons.mp he with rfl | he
    · exact hF
    · exact h.fr e he
  nd := List.nodup_cons.mpr ⟨hd, h.nd⟩
  at_ := fun e he => by
    rcases List.mem_cons.mp he with rfl | he
    · exact hm
    · exact h.at_ e he
theorem Ok.tail {x : Addr × MO} (h : Ok K C F (x :: O) H) : Ok K C F O H := ⟨h.ex, fun e he => h.fr e (List.mem_cons_of_mem _ he), (List.nodup_cons.mp h.nd).2, fun e he => h.at_ e (List.mem_cons_of_mem _ he)⟩
/-- the thing at D is frozen -/
theorem Ok.freeze (h : Ok K C F O H) (hF : F D = none) (hH : H D = some o) (hd : D ∉ dom O) : Ok K C (upd F D o) O H where
  ex := fun b u e => by
    by_cases q : b = D
    · subst q
      rw [upd_same] at e
      rw [hH, e]
    · rw [upd_ne q] at e
      exact h.ex b u e
  fr := fun e he => by
    rw [upd_ne (fun q => hd (List.mem_map.mpr ⟨e, he, q⟩))]
    exact h.fr e he
  nd := h.nd
  at_ := fun e he => (h.at_ e he).mono (Ex.new hF) rfl
theorem Grow.freeze {Ds : List Addr} (g : Grow Ds F1 H1 F H) (hF : F D = none) (hn : H1 D = none) : Grow Ds F1 H1 (upd F D o) H where
  ex := g.ex.trans (Ex.new hF)
  keep := g.keep
  there := g.there
  new := fun b n e t => by
    rw [upd_ne (fun q => by subst q; exact n hn)]
    exact g.new b n e t
  ty := g.ty
theorem notDom (h : Ok K C F O H) (hD : H D = none) : D ∉ dom O := fun hm => by
  obtain ⟨e, he, rfl⟩ := List.mem_map.mp hm
  exact (h.at_ e he).some hD
end
section
variable {X : Cx} {C : Addr} {ds ds' : Dsl} {O O' O1 O2 O3 : Led} {e a b c tg iter elt : Expr} {d x y z : Dat} {E : En} {F F' H H' : Hp} {σ : L2.St} {p p2 q pos : Pos} {k k' : Bool} {es ifs : List Expr} {scope : Scope} {vs : List Nat}
/-- the tests of a clause in every block: none or one -/
structure CD (X : Cx) (C : Addr) (scope : Scope) (O : Led) (ifs : List Expr) (cs : List (Dsl × Bool)) : Prop where
  ex : ∃ t, (∀ s H C' cl fp, PTs (Blk X s H scope C' cl fp) ifs t) ∧ ∀ r ∈ cs, ∀ (σ : L2.St) (H F : Hp), Ok X.K C F O H → EnvOk X.K C F σ r.1 → ∀ Q : Bool → Hp → Prop, (∀ H' F', Grow (dom O) F H F' H' → Ok X.K C F' O H' → Q r.2 H') → t σ H Q
theorem cd_nil {cs : List (Dsl × Bool)} (h : ∀ r ∈ cs, r.2 = true) : CD X C scope O [] cs := ⟨tYes, fun s H C' cl fp => pts_nil, fun r hr σ H F ok env Q q => by
  have := q H F Grow.refl ok
  rw [h r hr] at this
  exact this⟩
theorem cd_one {cs : List (Dsl × Bool)} (h : ∀ r ∈ cs, ∀ s H C' cl fp, BD (Blk X s H scope C' cl fp) C r.1 O c r.2 O) : CD X C scope O [c] cs :=
  ⟨wIT X scope c, fun s H C' cl fp => pts_one pt_wI, fun r hr σ H F ok env Q q s H0 C' cl fp => (h r hr s H0 C' cl fp).run σ H F ok env Q q⟩
/-- the reading of a comprehension -/
theorem lc_td {α : Type} {L : List α} {enc : α → Dat} {sh : Dsl → Dat → Option Dsl} {d1 : α → Dsl} {t : α → Bool} {g : α → Dat} {wi : TI} {gg : TG} {tt : TT} {σ : L2.St} {H F : Hp}
    (hw : ∀ R : It → Hp → Prop, (∀ J H1 F1, Grow (dom O) F H F1 H1 → Ok X.K C F1 O1 H1 →
      Walk J (L.map enc).length (fun H' => Ex F1 H') (fun i H x H' => ∀ F2, Ex F1 F2 → Ex F2 H → ∃ F3, Grow [] F2 H F3 H' ∧ Ex F3 H' ∧ ∃ d, (L.map enc)[i]? = some d ∧ Dv X.K C F3 x d) → R J H1) → wi σ H R)
    (hg : ∀ (ds ds' : Dsl) (d : Dat), sh ds d = some ds' → ∀ (σ : L2.St) (H F : Hp) (v : V), Ex F H → EnvOk X.K C F σ ds → Dv X.K C F v d → ∀ Q : L2.St → Hp → Prop, (∀ σ', EnvOk X.K C F σ' ds' → wipe σ' vs = wipe σ vs → Q σ' H) → gg v σ H Q)
    (hs : ∀ a ∈ L, sh (wipeD ds vs) (enc a) = some (d1 a))
    (ht : ∀ a ∈ L, ∀ (σ : L2.St) (H F : Hp), Ok X.K C F O1 H → EnvOk X.K C F σ (d1 a) → ∀ Q : Bool → Hp → Prop, (∀ H' F', Grow (dom O1) F H F' H' → Ok X.K C F' O1 H' → Q (t a) H') → tt σ H Q)
    (he : ∀ a ∈ L, t a = true → ∀ s H C' cl fp, ED (Blk X s H scope C' cl fp) C (d1 a) O1 elt (g a) O1)
    (dm : dom O1 = dom O) (hlen : L.length ≤ 100000) (env : EnvOk X.K C F σ ds) {Q : VK}
    (q : ∀ v H' F', Grow (dom O) F H F' H' → Ok X.K C F' O1 H' → Dv X.K C F' v (.lst ((L.filter t).map g)) → Q v H') : tLc wi gg tt (wI X scope elt) vs σ H Q := by
  refine hw _ fun J H1 F1 g1 ok1 w => ?_
  intro D hD
  have hDF : F1 D = none := ok1.ex.free hD
  have hDO : D ∉ dom O1 := notDom ok1 hD
  have envW : EnvOk X.K C F1 (wipe σ vs) (wipeD ds vs) := (env.mono g1.ex).wipe vs
  refine lc_it w (Qd := fun H => Q (.ref D) H) (fun i H' => i ≤ L.length ∧ ∃ F2 acc, Grow (dom O1) F1 H1 F2 H' ∧ Ok X.K C F2 O1 H' ∧ H' D = some (.lst acc) ∧ F2 D = none ∧ DvAll X.K C F2 acc (((L.take i).filter t).map g))
    ⟨Nat.zero_le _, F1, [], Grow.own hD, ok1.grow0 (Grow.own hD) (ok1.ex.side hDF), upd_same, hDF, .nil⟩ (fun i H' hi ⟨_, F2, acc, g2, ok2, _⟩ => g2.ex.trans ok2.ex) ?_ ?_
  · rintro i v H2 H3 hi ⟨hi', F2, acc, g2, ok2, hacc, hF2, dacc⟩ y
    obtain ⟨F3, g3, e3, d, hd, dv⟩ := y F2 g2.ex ok2.ex
    rw [List.getElem?_map] at hd
    obtain ⟨a, ha, rfl⟩ := Option.map_eq_some_iff.mp hd
    have haL : a ∈ L := List.mem_of_getElem? ha
    have ok3 := ok2.grow0 g3 e3
    have hacc3 : H3 D = some (.lst acc) := g3.keepE _ _ hacc
    have hF3 : F3 D = none := g3.new D (by rw [hacc]; simp) hF2 (fun xs z => by rw [hacc] at z; cases z)
    have g13 : Grow (dom O1) F1 H1 F3 H3 := g2.trans g3 fun _ m => by simp at m
    have etake : L.take (i + 1) = L.take i ++ [a] := by rw [List.take_add_one, ha]; rfl
    refine hg _ _ _ (hs a haL) _ H3 F3 v e3 ((envW.mono g2.ex).mono g3.ex) dv _ fun σ' env' hwp => ?_
    refine ⟨hwp.trans ?_, ?_⟩
    · -- wiped twice
      have : ∀ (τ : L2.St) (us ws : List Nat), (∀ u ∈ us, u ∈ ws) → wipe (wipe τ us) ws = wipe τ ws := by
        intro τ us ws
        induction us with
        | nil => intro _; rfl
        | cons u us ih =>
          intro hs
          show wipe ((wipe τ us).set u none) ws = _
          rw [wipe_set _ _ (hs u List.mem_cons_self), ih fun u hu => hs u (List.mem_cons_of_mem _ hu)]
      exact this σ vs vs fun _ h => h
    · refine ht a haL σ' H3 F3 ok3 env' _ fun H4 F4 g4 ok4 => ?_
      have g14 : Grow (dom O1) F1 H1 F4 H4 := g13.trans g4 fun _ m => .inl m
      have hacc4 : H4 D = some (.lst acc) := g4.keep _ _ hacc3 hDO
      have hF4 : F4 D = none := g4.new D (by rw [hacc3]; simp) hF3 (fun xs z => by rw [hacc3] at z; cases z)
      cases hta : t a with
      | false =>
        rw [if_neg Bool.false_ne_true]
        refine ⟨by simp at hi; omega, F4, acc, g14, ok4, hacc4, hF4, ?_⟩
        rw [etake, List.filter_append, List.filter_cons_of_neg (by simp [hta]), List.filter_nil, List.append_nil]
        exact (dacc.mono g3.ex).mono g4.ex
      | true =>
        rw [if_pos rfl]
        intro s H0 C' cl fp
        refine (he a haL hta s H0 C' cl fp).run σ' H4 F4 ok4 (env'.mono g4.ex) _ fun u H5 F5 g5 ok5 du => ?_
        have hacc5 : H5 D = some (.lst acc) := g5.keep _ _ hacc4 hDO
        have hF5 : F5 D = none := g5.new D (by rw [hacc4]; simp) hF4 (fun xs z => by rw [hacc4] at z; cases z)
        have dall := ((dacc.mono g3.ex).mono g4.ex).mono g5.ex
        have hal : acc.length ≤ i := by
          have h1 := dacc.length
          rw [List.length_map] at h1
          rw [h1]
          refine Nat.le_trans (List.length_filter_le _ _) ?_
          rw [List.length_take]
          exact Nat.min_le_left _ _
        have hi2 : i < L.length := by simpa using hi
        refine ⟨acc, hacc5, szl (by omega), by omega, F5, acc ++ [u], ?_, ?_, upd_same, hF5, ?_⟩
        · exact (g14.trans g5 fun _ m => .inl m).trans (Grow.put (D := [D]) (by simp)) fun b m => .inr (by rw [List.mem_singleton.mp m]; exact hD)
        · exact ok5.grow (Grow.put (D := [D]) (by simp)) (ok5.ex.side hF5) fun x hx m => hDO (by rw [← List.mem_singleton.mp m]; exact List.mem_map.mpr ⟨x, hx, rfl⟩)
        · rw [etake, List.filter_append, List.filter_cons_of_pos (by simp [hta]), List.filter_nil, List.map_append]
          exact dall.append (DvAll.one du)
  · rintro H' ⟨_, F2, acc, g2, ok2, hacc, hF2, dacc⟩
    rw [List.length_map, List.take_length] at dacc
    have gf : Grow (dom O1) F1 H1 (upd F2 D (.lst acc)) H' := g2.freeze hF2 hD
    exact q _ _ _ (g1.trans gf fun b m => .inl (by rw [← dm]; exact m)) (ok2.freeze hF2 hacc hDO) (dv_newL (X := X) hF2 dacc)
theorem ed_lc {α : Type} (L : List α) (enc : α → Dat) (sh : Dsl → Dat → Option Dsl) (d1 : α → Dsl) (t : α → Bool) (g : α → Dat) (own : List (Str × Nat)) {items : List Dat} (hi : IT X C ds O tg iter items O1) (hN : X.N.Nodup) (ok : BlkOk X.N X.env.scope scope own)
    (hg : GBt X C scope (own.map (·.2)) tg sh) (hs : ∀ a ∈ L, sh (wipeD ds (own.map (·.2))) (enc a) = some (d1 a)) (ht : CD X C scope O1 ifs (L.map fun a => (d1 a, t a)))
    (he : ∀ a ∈ L, t a = true → ∀ s H C' cl fp, ED (Blk X s H scope C' cl fp) C (d1 a) O1 elt (g a) O1) (hlen : L.length ≤ 100000) (hit : items = L.map enc := by rfl) (hc : X.calm = true := by rfl) (hfs : ∀ x, foldedSetIterable iter X.env x = pure x := by intro _; rfl) :
    ED X C ds O (.ListComp elt [⟨tg, iter, ifs, 0⟩] scope pos) (.lst ((L.filter t).map g)) O1 := by
  obtain ⟨wi, pi, hw⟩ := hi.ex
  obtain ⟨gg, pg, hgg⟩ := hg.ex
  obtain ⟨tt, pt, htt⟩ := ht.ex
  subst hit
  refine ed_of (pe_lc (own := own) hc hN pi ok (fun s H C' cl fp => pg s H C' cl fp) (fun s H C' cl fp => pt s H C' cl fp) (fun s H C' cl fp => pe_wI) hfs) hi.dm fun σ H F okH env Q q => ?_
  exact lc_td (hw σ H F okH env) hgg hs (fun a ha => htt _ (List.mem_map.mpr ⟨a, ha, rfl⟩)) he hi.dm hlen env q
end
end Sw
/-! The data layer: statements, loops, defs. -/
namespace Sw
open PySem PySem.Spec L2
section
variable {X : Cx} {C : Addr} {ds ds' ds1 ds2 : Dsl} {O O' O1 O2 O3 : Led} {e a b c tg iter elt : Expr} {d x y z : Dat} {E : En} {F F' H H' : Hp} {σ : L2.St} {p p2 q pos : Pos} {k k' : Bool} {es ifs : List Expr} {scope : Scope} {vs : List Nat} {rest body orelse : List Stmt} {D : Ends} {P P' M : L2.St → Hp → Prop}
theorem sds_cons {st : Stmt} {t : TS} (h : PS X st t) (hP : ∀ σ H, P σ H → t { D with nx := wSs X rest D } σ H) : SDs X P (st :: rest) D := fun σ H p pins s I => (pss_cons h pss_w).run pins s σ H D I (hP σ H p)
theorem sds_nil (h : ∀ σ H, P σ H → D.nx σ H) : SDs X P [] D := fun σ H p pins s I => pss_nil.run pins s σ H D I (h σ H p)
theorem SDs.imp {st : List Stmt} (h : SDs X P st D) (h' : ∀ σ H, P' σ H → P σ H) : SDs X P' st D := fun σ H p => h σ H (h' σ H p)
theorem wSs_mono {st : List Stmt} {D' : Ends} {σ : L2.St} {H : Hp} (h : wSs X st D σ H) (h1 : ∀ σ H, D.nx σ H → D'.nx σ H) (h2 : ∀ v H, D.rt v H → D'.rt v H) (h3 : ∀ σ H, D.bk σ H → D'.bk σ H) (h4 : ∀ σ H, D.ct σ H → D'.ct σ H) : wSs X st D' σ H :=
  fun pins s I => thn (h pins s I) fun f s' q => by
    cases f with
    | next => obtain ⟨σ', H', I', q⟩ := q; exact ⟨σ', H', I', h1 _ _ q⟩
    | brk => obtain ⟨σ', H', I', q⟩ := q; exact ⟨σ', H', I', h3 _ _ q⟩
    | cont => obtain ⟨σ', H', I', q⟩ := q; exact ⟨σ', H', I', h4 _ _ q⟩
    | ret u => obtain ⟨v, σ', H', I', r, q⟩ := q; exact ⟨v, σ', H', I', r, h2 _ _ q⟩
theorem SDs.post {st : List Stmt} {D' : Ends} (h : SDs X P st D) (h1 : ∀ σ H, D.nx σ H → D'.nx σ H) (h2 : ∀ v H, D.rt v H → D'.rt v H) (h3 : ∀ σ H, D.bk σ H → D'.bk σ H) (h4 : ∀ σ H, D.ct σ H → D'.ct σ H) : SDs X P st D' :=
  fun σ H p => wSs_mono (h σ H p) h1 h2 h3 h4
/-- the end of a body -/
theorem sds_end (h : ∀ σ H, At X C E ds' O' σ H → D.nx σ H) (w : Wk ds ds') (ho : O = O' := by rfl) : SDs X (At X C E ds O) [] D := sds_nil fun σ H ⟨F, p⟩ => h σ H ⟨F, by subst ho; exact p.weak w⟩
theorem sds_weak {st : List Stmt} (w : Wk ds ds') (h : SDs X (At X C E ds' O) st D) : SDs X (At X C E ds O) st D := h.imp fun σ H ⟨F, p⟩ => ⟨F, p.weak w⟩
/-! ### plain statements -/
theorem sds_set (i : Nat) {n : Str} {pos' : Pos} (hN : X.N.Nodup) (he : ED X C ds O e d O') (h : SDs X (At X C E (ds.set i (some d)) O') rest D) (hi : X.N[i]? = some n := by rfl) (hx : Loc X.env.scope n := by first | exact Or.inl rfl | exact Or.inr rfl)
    (hs : swapsWith e (some (.Name n pos')) pos.line X.env = pure false := by rfl) (hf : X.fn n = true ∨ X.env.scope.names.lookup n = some .local := by first | exact .inl rfl | exact .inr rfl) : SDs X (At X C E ds O) (.Assign [.Name n pos'] e pos :: rest) D :=
  sds_cons (ps_set hN hi hx pe_w hs hf) fun σ H ⟨F, p⟩ => he.run σ H F p.ok p.env _ fun v H1 F1 g1 ok1 d1 => h _ _ ⟨F1, (p.step g1 ok1 he.dm).set i d1⟩
theorem sds_asg (he : ED X C ds O e d O') (hg : GD X C ds tg d ds1) (h : SDs X (At X C E ds1 O') rest D) (hs : swapsWithSole [tg] e pos.line X.env = pure false := by rfl) (hw : swappedStores [tg] e X.env = pure none := by rfl)
    (h1 : (assignEach [tg] X.env).map (·.2) = [assign tg X.env] := by rfl) : SDs X (At X C E ds O) (.Assign [tg] e pos :: rest) D := by
  obtain ⟨g, pg, r⟩ := hg.ex
  refine sds_cons (ps_asg pe_w pg hs hw h1) fun σ H ⟨F, p⟩ => he.run σ H F p.ok p.env _ fun v H1 F1 g1 ok1 d1 => ?_
  have p1 := p.step g1 ok1 he.dm
  exact r σ H1 F1 v ok1.ex p1.env d1 _ fun σ' env' => h _ _ ⟨F1, ⟨p1.g, p1.dm, p1.ok, env'⟩⟩
theorem sds_par (i j : Nat) {n m : Str} {px py pt pt2 : Pos} {kt k2 : Nat} (hN : X.N.Nodup) (ha : AD X C ds O [a, b] [x, y] O') (h : SDs X (At X C E ((ds.set i (some x)).set j (some y)) O') rest D) (hij : i ≠ j := by decide) (hi : X.N[i]? = some n := by rfl) (hj : X.N[j]? = some m := by rfl)
    (hx : X.env.scope.names.lookup n = some .local := by rfl) (hy : X.env.scope.names.lookup m = some .local := by rfl) (hw : swappedStores [.Tuple [.Name n px, .Name m py] kt pt] (.Tuple [a, b] k2 pt2) X.env = pure (some [n, m]) := by rfl)
    (hs : swapsWithSole [.Tuple [.Name n px, .Name m py] kt pt] (.Tuple [a, b] k2 pt2) pos.line X.env = pure false := by rfl) (hc : X.calm = true := by rfl) :
    SDs X (At X C E ds O) (.Assign [.Tuple [.Name n px, .Name m py] kt pt] (.Tuple [a, b] k2 pt2) pos :: rest) D :=
  sds_cons (ps_par hc hN hi hj hij hx hy pa_w hw hs) fun σ H ⟨F, p⟩ => ha.run σ H F p.ok p.env _ fun vs H1 F1 g1 ok1 d1 => by
    obtain ⟨v, u, rfl, h1, h2⟩ := all2 d1
    exact ⟨v, u, rfl, h _ _ ⟨F1, ((p.step g1 ok1 ha.dm).set i h1).set j h2⟩⟩
theorem sds_setLc {α : Type} (i : Nat) (L : List α) (enc : α → Dat) (sh : Dsl → Dat → Option Dsl) (d1 : α → Dsl) (t : α → Bool) (g : α → Dat) (own : List (Str × Nat)) {n : Str} {py spos : Pos} {items : List Dat} (hi : IT X C ds O tg iter items O1) (hN : X.N.Nodup) (ok : BlkOk X.N X.env.scope scope own)
    (hg : GBt X C scope (own.map (·.2)) tg sh) (hs : ∀ a ∈ L, sh (wipeD ds (own.map (·.2))) (enc a) = some (d1 a)) (ht : CD X C scope O1 ifs (L.map fun a => (d1 a, t a)))
    (he : ∀ a ∈ L, t a = true → ∀ s H C' cl fp, ED (Blk X s H scope C' cl fp) C (d1 a) O1 elt (g a) O1) (hlen : L.length ≤ 100000) (h : SDs X (At X C E (ds.set i (some (.lst ((L.filter t).map g)))) O1) rest D) (hy : X.N[i]? = some n := by rfl) (hyl : X.env.scope.names.lookup n = some .local := by rfl)
    (hsw : swapsWith (.ListComp elt [⟨tg, iter, ifs, 0⟩] scope pos) (some (.Name n py)) spos.line X.env = pure true := by exact sw_true rfl rfl rfl (by decide +kernel)) (hit : items = L.map enc := by rfl) (hc : X.calm = true := by rfl) (hfs : ∀ x, foldedSetIterable iter X.env x = pure x := by intro _; rfl) :
    SDs X (At X C E ds O) (.Assign [.Name n py] (.ListComp elt [⟨tg, iter, ifs, 0⟩] scope pos) spos :: rest) D := by
  obtain ⟨wi, pi, hw⟩ := hi.ex
  obtain ⟨gg, pg, hgg⟩ := hg.ex
  obtain ⟨tt, pt, htt⟩ := ht.ex
  subst hit
  refine sds_cons (ps_setLc (own := own) hc hN hy hyl hsw pi ok (fun s H C' cl fp => pg s H C' cl fp) (fun s H C' cl fp => pt s H C' cl fp) (fun s H C' cl fp => pe_wI) hfs) fun σ H ⟨F, pp⟩ => ?_
  show tLc wi gg tt (wI X scope elt) (own.map (·.2)) σ H (fun x H1 => gName i x σ H1 (wSs X rest D))
  exact lc_td (hw σ H F pp.ok pp.env) hgg hs (fun a ha => htt _ (List.mem_map.mpr ⟨a, ha, rfl⟩)) he hi.dm hlen pp.env fun v H' F' g' ok' d' => h _ _ ⟨F', (pp.step g' ok' hi.dm).set i d'⟩
theorem sds_expr (he : ED X C ds O e d O') (h : SDs X (At X C E ds O') rest D) (hs : swapsWith e none pos.line X.env = pure false := by rfl) : SDs X (At X C E ds O) (.Expr e pos :: rest) D :=
  sds_cons (ps_expr pe_w hs) fun σ H ⟨F, p⟩ => he.run σ H F p.ok p.env _ fun v H1 F1 g1 ok1 d1 => h _ _ ⟨F1, p.step g1 ok1 he.dm⟩
theorem sds_pass (h : SDs X P rest D) : SDs X P (.Pass pos :: rest) D := sds_cons ps_pass fun σ H p => h σ H p
theorem sds_cont (h : ∀ σ H, P σ H → D.ct σ H) : SDs X P (.Continue pos :: rest) D := sds_cons ps_continue fun σ H p => h σ H p
/-- return e -/
theorem sds_ret {post : Dat → Led → Prop} (he : ED X C ds O e d O') (hp : post d O') (hr : ∀ v H, Rt X C E post v H → D.rt v H := by exact fun _ _ h => h) : SDs X (At X C E ds O) (.Return (some e) pos :: rest) D :=
  sds_cons (ps_ret pe_w) fun σ H ⟨F, p⟩ => he.run σ H F p.ok p.env _ fun v H1 F1 g1 ok1 d1 => hr v H1 ⟨F1, d, O', (p.step g1 ok1 he.dm).g, ok1, d1, hp⟩
/-- a statement that is never come to -/
theorem sds_never {st : Stmt} (h : ∀ σ H, ¬ P σ H) : SDs X P (st :: rest) D := fun σ H p => absurd p (h σ H)
/-- if: what follows the if is shown for each way -/
theorem sds_if {M1 M2 : L2.St → Hp → Prop} (hc : BD X C ds O c k O') (h1 : k = true → SDs X (At X C E ds O') body { D with nx := M1 }) (r1 : k = true → SDs X M1 rest D) (h2 : k = false → SDs X (At X C E ds O') orelse { D with nx := M2 }) (r2 : k = false → SDs X M2 rest D) :
    SDs X (At X C E ds O) (.If c body orelse pos :: rest) D :=
  sds_cons (ps_if pt_w pss_w pss_w) fun σ H ⟨F, p⟩ => hc.run σ H F p.ok p.env _ fun H1 F1 g1 ok1 => by
    have p1 := p.step g1 ok1 hc.dm
    cases k with
    | true =>
      rw [if_pos rfl]
      exact wSs_mono (h1 rfl σ H1 ⟨F1, p1⟩) (fun σ H m => r1 rfl σ H m) (fun _ _ h => h) (fun _ _ h => h) (fun _ _ h => h)
    | false =>
      rw [if_neg Bool.false_ne_true]
      exact wSs_mono (h2 rfl σ H1 ⟨F1, p1⟩) (fun σ H m => r2 rfl σ H m) (fun _ _ h => h) (fun _ _ h => h) (fun _ _ h => h)
/-- if c: .. with no else, whose body does not go on -/
theorem sds_ifR (hc : BD X C ds O c k O') (h1 : k = true → SDs X (At X C E ds O') body { D with nx := fun _ _ => False }) (h2 : k = false → SDs X (At X C E ds O') rest D) : SDs X (At X C E ds O) (.If c body [] pos :: rest) D :=
  sds_if (M1 := fun _ _ => False) (M2 := At X C E ds O') hc h1 (fun _ σ H m => m.elim) (fun _ => sds_nil fun _ _ h => h) h2
/-- a test that is never true, a body never come to -/
theorem sds_ifN (hc : BD X C ds O c false O') (h2 : SDs X (At X C E ds O') rest D) : SDs X (At X C E ds O) (.If c body [] pos :: rest) D :=
  sds_ifR hc (fun h => nomatch h) fun _ => h2
/-- if with one state behind both ways -/
theorem sds_ifJ (ds2 : Dsl) (O2 : Led) (hc : BD X C ds O c k O') (h1 : k = true → SDs X (At X C E ds O') body { D with nx := At X C E ds2 O2 }) (h2 : k = false → SDs X (At X C E ds O') orelse { D with nx := At X C E ds2 O2 }) (r : SDs X (At X C E ds2 O2) rest D) :
    SDs X (At X C E ds O) (.If c body orelse pos :: rest) D := sds_if hc h1 (fun _ => r) h2 (fun _ => r)
/-! ### loops -/
/-- a target in a statement, one for all items -/
structure GT (X : Cx) (C : Addr) (tg : Expr) (sh : Dsl → Dat → Option Dsl) : Prop where
  ex : ∃ g, PG X tg g ∧ ∀ (ds ds' : Dsl) (d : Dat), sh ds d = some ds' → ∀ (σ : L2.St) (H F : Hp) (v : V), Ex F H → EnvOk X.K C F σ ds → Dv X.K C F v d → ∀ Q : L2.St → Hp → Prop, (∀ σ', EnvOk X.K C F σ' ds' → Q σ' H) → g v σ H Q
theorem gt_name (i : Nat) {n : Str} (hN : X.N.Nodup) (hi : X.N[i]? = some n := by rfl) (hx : Loc X.env.scope n := by first | exact Or.inl rfl | exact Or.inr rfl) (hf : X.fn n = true ∨ X.env.scope.names.lookup n = some .local := by first | exact .inl rfl | exact .inr rfl) : GT X C (.Name n pos) (sh1 i) :=
  ⟨_, pg_name hN hi hx hf, fun ds ds' d h σ H F v e env hd Q q => by
    cases h
    exact q _ (env.set i hd)⟩
theorem gt_pair (i j : Nat) {n m : Str} {p1 p2 : Pos} {kk : Nat} (hN : X.N.Nodup) (hi : X.N[i]? = some n := by rfl) (hj : X.N[j]? = some m := by rfl) (hc : X.calm = true := by rfl) (hx : Loc X.env.scope n := by first | exact Or.inl rfl | exact Or.inr rfl) (hy : Loc X.env.scope m := by first | exact Or.inl rfl | exact Or.inr rfl)
    (hf : X.fn n = true ∨ X.env.scope.names.lookup n = some .local := by first | exact .inl rfl | exact .inr rfl) (hf2 : X.fn m = true ∨ X.env.scope.names.lookup m = some .local := by first | exact .inl rfl | exact .inr rfl) : GT X C (.Tuple [.Name n p1, .Name m p2] kk pos) (sh2 i j) :=
  ⟨gTup X.K 2 (gCons (gName i) (gCons (gName j) gNil)), pg_tup hc (pgs_cons (pg_name hN hi hx hf) (pgs_cons (pg_name hN hj hy hf2) pgs_nil)), fun ds ds' d h σ H F v e env hd Q q => by
    unfold sh2 at h
    split at h
    · cases h
      cases hd with
      | tup h1 h2 =>
        cases h2 with
        | cons h2 h3 => cases h3 with
          | cons h3 h4 =>
            cases h4
            exact ⟨_, _, rfl, SqT.of (e _ _ h1), rfl, _, _, rfl, _, _, rfl, rfl, q _ ((env.set i h2).set j h3)⟩
    · cases h⟩
/-- the same entry with more frozen -/
theorem AtF.sub {F1 : Hp} {σ' : L2.St} (p1 : AtF X C E ds O F1 σ H) (h : AtF X C ⟨E.D, F1, E.H⟩ ds' O' F' σ' H') : AtF X C E ds' O' F' σ' H' :=
  ⟨⟨p1.g.ex.trans h.g.ex, h.g.keep, h.g.there, fun b n e t => h.g.new b n (p1.g.new b n e t) t, h.g.ty⟩, h.dm, h.ok, h.env⟩
theorem AtF.sup (p1 : AtF X C E ds O F σ H) : AtF X C ⟨E.D, F, E.H⟩ ds O F σ H := ⟨⟨Ex.refl F, p1.g.keep, p1.g.there, fun _ _ e _ => e, p1.g.ty⟩, p1.dm, p1.ok, p1.env⟩
theorem Rt.sub {F1 : Hp} {post : Dat → Led → Prop} {v : V} (p1 : AtF X C E ds O F1 σ H) (h : Rt X C ⟨E.D, F1, E.H⟩ post v H') : Rt X C E post v H' := by
  obtain ⟨F, d, O', g, r⟩ := h
  exact ⟨F, d, O', ⟨p1.g.ex.trans g.ex, g.keep, g.there, fun b n e t => g.new b n (p1.g.new b n e t) t, g.ty⟩, r⟩
/-- for: I what is known, dsI the slots, OI the ledger, by what has been taken -/
theorem sds_for {α : Type} (L : List α) (enc : α → Dat) (sh : Dsl → Dat → Option Dsl) (I : List α → Prop) (dsI : List α → Dsl) (OI : List α → Led) {items : List Dat} {post : Dat → Led → Prop} {nx bk ct : L2.St → Hp → Prop} (hi : IT X C ds O tg iter items O') (gt : GT X C tg sh) (h0 : I []) (w0 : Wk ds (dsI [])) (o0 : O' = OI [])
    (hb : ∀ pre a post', L = pre ++ a :: post' → I pre → ∀ E1 : En, ∃ ds1, sh (dsI pre) (enc a) = some ds1 ∧
      SDs X (At X C E1 ds1 (OI pre)) body ⟨fun σ H => I (pre ++ [a]) ∧ At X C E1 (dsI (pre ++ [a])) (OI (pre ++ [a])) σ H, Rt X C E1 post, fun _ _ => False, fun σ H => I (pre ++ [a]) ∧ At X C E1 (dsI (pre ++ [a])) (OI (pre ++ [a])) σ H⟩)
    (hr : I L → SDs X (At X C E (dsI L) (OI L)) rest ⟨nx, Rt X C E post, bk, ct⟩)
    (hit : items = L.map enc := by rfl) (hp : PassesOwn (model X.prog X.w) X.A X.env X.xe := by exact PassesOwn.never) (hc : X.calm = true := by rfl) (hfs : ∀ x, foldedSetIterable iter X.env x = pure x := by intro _; rfl) : SDs X (At X C E ds O) (.For tg iter body [] pos :: rest) ⟨nx, Rt X C E post, bk, ct⟩ := by
  obtain ⟨wi, pi, hw⟩ := hi.ex
  obtain ⟨g, pg, hg⟩ := gt.ex
  subst hit
  refine sds_cons (ps_for hp hc pi pg pss_w hfs) fun σ H ⟨F, p⟩ => ?_
  refine hw σ H F p.ok p.env _ fun J H1 F1 g1 ok1 w => ?_
  have p1 := p.step g1 ok1 hi.dm
  refine for_it w (fun i σ H => i ≤ L.length ∧ I (L.take i) ∧ ∃ F2, AtF X C ⟨E.D, F1, E.H⟩ (dsI (L.take i)) (OI (L.take i)) F2 σ H) ⟨Nat.zero_le _, h0, F1, by subst o0; exact (p1.weak w0).sup⟩ (fun i σ H hi ⟨_, _, F2, p2⟩ => p2.g.ex.trans p2.ok.ex) ?_ ?_
  · rintro i v σ2 H2 H3 hi2 ⟨hi', hI, F2, p2⟩ y
    obtain ⟨F3, g3, e3, d, hd, dv⟩ := y F2 p2.g.ex p2.ok.ex
    rw [List.getElem?_map] at hd
    obtain ⟨a, ha, rfl⟩ := Option.map_eq_some_iff.mp hd
    have hi3 : i < L.length := by simpa using hi2
    have etake : L.take (i + 1) = L.take i ++ [a] := by rw [List.take_add_one, ha]; rfl
    have eL : L = L.take i ++ a :: L.drop (i + 1) := by
      have h1 : L[i] = a := by rw [List.getElem?_eq_getElem hi3] at ha; exact Option.some.inj ha
      rw [← h1, ← List.drop_eq_getElem_cons hi3, List.take_append_drop]
    have p3 : AtF X C ⟨E.D, F1, E.H⟩ (dsI (L.take i)) (OI (L.take i)) F3 σ2 H3 := p2.step (g3.mono fun _ m => by simp at m) (p2.ok.grow0 g3 e3) rfl
    obtain ⟨ds1, hsh, hbody⟩ := hb _ a _ eL hI ⟨E.D, F1, E.H⟩
    refine hg _ ds1 _ hsh σ2 H3 F3 v p3.ok.ex p3.env dv _ fun σ' env' => ?_
    refine wSs_mono (hbody σ' H3 ⟨F3, ⟨p3.g, p3.dm, p3.ok, env'⟩⟩) ?_ (fun v H h => Rt.sub p1 h) (fun _ _ h => h.elim) ?_
    all_goals
      rintro σ4 H4 ⟨hI4, F4, p4⟩
      refine ⟨by omega, by rw [etake]; exact hI4, F4, ?_⟩
      rw [etake]
      exact p4
  · rintro σ2 H2 ⟨_, hI, F2, p2⟩
    rw [List.length_map, List.take_length] at hI p2
    exact hr hI σ2 H2 ⟨F2, p1.sub p2⟩
/-- while: a word of a state of one's own, a measure -/
theorem sds_while {α : Type} (I : α → Prop) (m : α → Nat) (dsW : α → Dsl) (OW : α → Led) (kW : α → Bool) (a0 : α) (h0 : I a0) (w0 : Wk ds (dsW a0)) (o0 : O = OW a0) (hc : ∀ a, I a → BD X C (dsW a) (OW a) c (kW a) (OW a))
    (hb : ∀ a, I a → kW a = true → SDs X (At X C E (dsW a) (OW a)) body { D with nx := fun σ H => ∃ a', m a' < m a ∧ I a' ∧ At X C E (dsW a') (OW a') σ H, ct := fun σ H => ∃ a', m a' < m a ∧ I a' ∧ At X C E (dsW a') (OW a') σ H, bk := fun _ _ => False })
    (hr : ∀ a, I a → kW a = false → SDs X (At X C E (dsW a) (OW a)) rest D) (hp : PassesOwn (model X.prog X.w) X.A X.env X.xe := by exact PassesOwn.never) : SDs X (At X C E ds O) (.While c body [] pos :: rest) D := by
  refine sds_cons (ps_while hp pt_w pss_w) fun σ H ⟨F, p⟩ => ?_
  refine ⟨fun n σ H => ∃ a, n = m a ∧ I a ∧ At X C E (dsW a) (OW a) σ H, ⟨m a0, a0, rfl, h0, F, by subst o0; exact p.weak w0⟩, ?_⟩
  rintro n σ H ⟨a, rfl, hI, F, p⟩
  refine (hc a hI).run σ H F p.ok p.env _ fun H1 F1 g1 ok1 => ?_
  have p1 := p.step g1 ok1 rfl
  cases hk : kW a with
  | true =>
    rw [if_pos rfl]
    refine ⟨fun σ' H' => ∃ a', m a' < m a ∧ I a' ∧ At X C E (dsW a') (OW a') σ' H', fun σ' H' ⟨a', h1, h2, h3⟩ => ⟨m a', h1, a', rfl, h2, h3⟩, ?_⟩
    exact wSs_mono (hb a hI hk σ H1 ⟨F1, p1⟩) (fun _ _ h => h) (fun _ _ h => h) (fun _ _ h => h.elim) (fun _ _ h => h)
  | false =>
    rw [if_neg Bool.false_ne_true]
    exact hr a hI hk σ H1 ⟨F1, p1⟩
/-! ### lists that may change -/
theorem sds_newL (i : Nat) {n : Str} {pos' : Pos} (hN : X.N.Nodup) (h : ∀ q, SDs X (At X C E (ds.set i (some (.loc q))) ((q, .lst []) :: O)) rest D) (hi : X.N[i]? = some n := by rfl) (hx : Loc X.env.scope n := by first | exact Or.inl rfl | exact Or.inr rfl)
    (hs : swapsWith (.List [] p) (some (.Name n pos')) pos.line X.env = pure false := by rfl) (hf : X.fn n = true ∨ X.env.scope.names.lookup n = some .local := by first | exact .inl rfl | exact .inr rfl) : SDs X (At X C E ds O) (.Assign [.Name n pos'] (.List [] p) pos :: rest) D :=
  sds_cons (ps_set hN hi hx (pe_lst pa_nil) hs hf) fun σ H ⟨F, pp⟩ => ⟨Nat.zero_le _, fun q hq => by
    have hF := pp.ok.ex.free hq
    refine h q _ _ ⟨F, ⟨pp.g.trans (Grow.own (D := []) hq) fun _ m => by simp at m, fun e he => ?_, ?_, pp.env.set i (.loc q)⟩⟩
    · rcases List.mem_cons.mp he with rfl | he
      · refine .inr ?_
        cases hE : E.H q with
        | none => rfl
        | some o => exact absurd hq (pp.g.there q (by rw [hE]; simp))
      · exact pp.dm e he
    · exact (pp.ok.grow0 (Grow.own hq) (pp.ok.ex.side hF)).cons hF ⟨[], upd_same, .nil⟩ (notDom pp.ok hq)⟩
/-- [x, ..] as a list that may change -/
theorem sds_newLs (i : Nat) {n : Str} {pos' : Pos} {es : List Expr} {xs : List Dat} (hN : X.N.Nodup) (ha : AD X C ds O es xs O') (hl : xs.length ≤ 100000) (h : ∀ q, SDs X (At X C E (ds.set i (some (.loc q))) ((q, .lst xs) :: O')) rest D) (hi : X.N[i]? = some n := by rfl) (hx : Loc X.env.scope n := by first | exact Or.inl rfl | exact Or.inr rfl)
    (hs : swapsWith (.List es p) (some (.Name n pos')) pos.line X.env = pure false := by rfl) (hf : X.fn n = true ∨ X.env.scope.names.lookup n = some .local := by first | exact .inl rfl | exact .inr rfl) : SDs X (At X C E ds O) (.Assign [.Name n pos'] (.List es p) pos :: rest) D :=
  sds_cons (ps_set hN hi hx (pe_lst pa_w) hs hf) fun σ H ⟨F, p0⟩ => ha.run σ H F p0.ok p0.env _ fun vs H1 F1 g1 ok1 d1 => ⟨sz (d1.length ▸ hl), fun q hq => by
    have pp := p0.step g1 ok1 ha.dm
    have hF := pp.ok.ex.free hq
    refine h q _ _ ⟨F1, ⟨pp.g.trans (Grow.own (D := []) hq) fun _ m => by simp at m, fun e he => ?_, ?_, pp.env.set i (.loc q)⟩⟩
    · rcases List.mem_cons.mp he with rfl | he
      · refine .inr ?_
        cases hE : E.H q with
        | none => rfl
        | some o => exact absurd hq (pp.g.there q (by rw [hE]; simp))
      · exact pp.dm e he
    · exact (pp.ok.grow0 (Grow.own hq) (pp.ok.ex.side hF)).cons hF ⟨vs, upd_same, d1⟩ (notDom pp.ok hq)⟩
/-- an entry of the ledger put anew -/
theorem Ok.put {K : PySem.W.Frag} {A B : Led} {q : Addr} {m m' : MO} {o : HO} (h : Ok K C F (A ++ (q, m) :: B) H) (hm : MOk K C F (upd H q o) q m') : Ok K C F (A ++ (q, m') :: B) (upd H q o) where
  ex := h.ex.side (h.fr (q, m) (by simp))
  fr := fun e he => by
    rcases List.mem_append.mp he with he | he
    · exact h.fr e (List.mem_append_left _ he)
    · rcases List.mem_cons.mp he with rfl | he
      · exact h.fr (q, m) (by simp)
      · exact h.fr e (List.mem_append_right _ (List.mem_cons_of_mem _ he))
  nd := by
    have := h.nd
    simpa using this
  at_ := fun e he => by
    have nd := h.nd
    rw [List.map_append, List.map_cons, List.nodup_append] at nd
    obtain ⟨n1, n2, n3⟩ := nd
    have n2' := (List.nodup_cons.mp n2).1
    rcases List.mem_append.mp he with he | he
    · refine (h.at_ e (List.mem_append_left _ he)).mono (Ex.refl F) (upd_ne ?_)
      exact n3 _ (List.mem_map.mpr ⟨e, he, rfl⟩) _ (by simp)
    · rcases List.mem_cons.mp he with rfl | he
      · exact hm
      · refine (h.at_ e (List.mem_append_right _ (List.mem_cons_of_mem _ he))).mono (Ex.refl F) (upd_ne ?_)
        intro z
        exact n2' (List.mem_map.mpr ⟨e, he, z⟩)
/-- the plain look of a method's call -/
def BmOk (X : Cx) (o : Expr) (name : Str) (apos : Pos) (e : Expr) (es : List Expr) (cpos : Pos) : Prop :=
  attributeBase o name X.env (eval o X.env) = eval o X.env ∧ ((backTo cpos (starEach (e :: es) X.env)).all (fun x => !x.1) && (backToKw cpos (keywordEach [] X.env)).all (fun x => x.1.isSome)
      && decide ((e :: es).length + ([] : List Keyword).length + (if ([] : List Keyword).isEmpty then 0 else 1) < 30)) = true ∧ (apos.endLine == cpos.line) = true ∧ starEach (e :: es) X.env = (false, eval e X.env) :: starEach es X.env ∧ (backTo cpos (starEach es X.env)).any (·.1) = false
theorem dom_put (A B : Led) (q : Addr) (m m' : MO) : dom (A ++ (q, m') :: B) = dom (A ++ (q, m) :: B) := by simp
/-- xs.append(e): A, B the entries around -/
theorem ed_append (A B : Led) {xs : List Dat} {q : Addr} {o : Expr} {apos : Pos} (ho : ED X C ds O o (.loc q) O1) (he : AD X C ds O1 (e :: es) [x] (A ++ (q, .lst xs) :: B)) (hl : xs.length < 100000) (hm : O1 = A ++ (q, .lst xs) :: B := by rfl) (hb : BmOk X o "append" apos e es pos := by exact ⟨rfl, rfl, rfl, rfl, rfl⟩) :
    ED X C ds O (.Call (.Attribute o "append" apos) (e :: es) [] pos) .non (A ++ (q, .lst (xs ++ [x])) :: B) := by
  obtain ⟨b1, b2, b3, b4, b5⟩ := hb
  subst hm
  refine ed_of (pe_bm PySem.F.plainAttrs_list PySem.F.slot_list_append PySem.F.type_list_append mt_append pe_w pa_w b1 b2 b3 b4 b5) ((dom_put A B q _ _).trans (he.dm.trans ho.dm)) fun σ H F ok env Q k => ?_
  refine ho.run σ H F ok env _ fun v H1 F1 g1 ok1 d1 => ?_
  cases d1
  obtain ⟨vs0, h0, _⟩ := ok1.at_ (q, .lst xs) (by simp)
  refine ⟨.inl ⟨rfl, _, SqL.of h0⟩, ?_⟩
  refine he.run σ H1 F1 ok1 (env.mono g1.ex) _ fun vs H2 F2 g2 ok2 d2 => ?_
  obtain ⟨u, rfl, du⟩ := all1 d2
  obtain ⟨vs1, h1, r1⟩ := ok2.at_ (q, .lst xs) (by simp)
  refine ⟨q, vs1, u, rfl, rfl, h1, szl (by rw [r1.length]; exact hl), ?_⟩
  have hq : q ∈ dom O := by rw [← ho.dm]; simp
  refine k .non _ F2 ((g1.trans g2 fun _ m => .inl (by rw [← ho.dm]; exact m)).trans (Grow.put (D := [q]) (by simp)) fun b m => .inl (by rw [List.mem_singleton.mp m]; exact hq)) (ok2.put ⟨_, upd_same, r1.append (DvAll.one du)⟩) .non
/-- xs.extend(ys), ys a frozen list -/
theorem ed_extend (A B : Led) {xs ys : List Dat} {q : Addr} {o : Expr} {apos : Pos} (ho : ED X C ds O o (.loc q) O1) (he : AD X C ds O1 (e :: es) [.lst ys] (A ++ (q, .lst xs) :: B)) (hl : xs.length + ys.length ≤ 100000) (hm : O1 = A ++ (q, .lst xs) :: B := by rfl) (hb : BmOk X o "extend" apos e es pos := by exact ⟨rfl, rfl, rfl, rfl, rfl⟩) :
    ED X C ds O (.Call (.Attribute o "extend" apos) (e :: es) [] pos) .non (A ++ (q, .lst (xs ++ ys)) :: B) := by
  obtain ⟨b1, b2, b3, b4, b5⟩ := hb
  subst hm
  refine ed_of (pe_bm PySem.F.plainAttrs_list PySem.F.slot_list_extend PySem.F.type_list_extend mt_extend pe_w pa_w b1 b2 b3 b4 b5) ((dom_put A B q _ _).trans (he.dm.trans ho.dm)) fun σ H F ok env Q k => ?_
  refine ho.run σ H F ok env _ fun v H1 F1 g1 ok1 d1 => ?_
  cases d1
  obtain ⟨vs0, h0, _⟩ := ok1.at_ (q, .lst xs) (by simp)
  refine ⟨.inl ⟨rfl, _, SqL.of h0⟩, ?_⟩
  refine he.run σ H1 F1 ok1 (env.mono g1.ex) _ fun vs H2 F2 g2 ok2 d2 => ?_
  obtain ⟨u, rfl, du⟩ := all1 d2
  cases du with
  | lst e1 e2 =>
    obtain ⟨vs1, h1, r1⟩ := ok2.at_ (q, .lst xs) (by simp)
    refine ⟨q, _, vs1, _, rfl, rfl, h1, ok2.ex _ _ e1, sz (by rw [r1.length, e2.length]; exact hl), ?_⟩
    have hq : q ∈ dom O := by rw [← ho.dm]; simp
    refine k .non _ F2 ((g1.trans g2 fun _ m => .inl (by rw [← ho.dm]; exact m)).trans (Grow.put (D := [q]) (by simp)) fun b m => .inl (by rw [List.mem_singleton.mp m]; exact hq)) (ok2.put ⟨_, upd_same, r1.append e2⟩) .non
/-- the first entry's list handed over: it is frozen -/
theorem sds_freeze (i : Nat) {xs : List Dat} {q : Addr} {st : List Stmt} (hD : q ∉ E.D) (h : SDs X (At X C E (ds.set i (some (.lst xs))) O) st D) (hi : ds[i]? = some (some (.loc q)) := by rfl) : SDs X (At X C E ds ((q, .lst xs) :: O)) st D := h.imp fun σ H ⟨F, p⟩ => by
  obtain ⟨vs, h1, h2⟩ := p.ok.at_ (q, .lst xs) (by simp)
  have hF := p.ok.fr (q, .lst xs) (by simp)
  have nd := (List.nodup_cons.mp p.ok.nd).1
  have hE : E.H q = none := (p.dm (q, .lst xs) (by simp)).resolve_left hD
  obtain ⟨v, e1, e2⟩ := p.env.2 i _ hi
  cases e2
  refine ⟨upd F q (.lst vs), ⟨p.g.freeze hF hE, fun e he => p.dm e (List.mem_cons_of_mem _ he), p.ok.tail.freeze hF h1 nd, ?_⟩⟩
  have env' := p.env.mono (Ex.new (o := .lst vs) hF)
  refine ⟨by simp [env'.1], fun j d hj => ?_⟩
  by_cases hij : i = j
  · subst hij
    have hil : i < ds.length := (List.getElem?_eq_some_iff.mp hi).1
    rw [List.getElem?_set_self hil] at hj
    cases hj
    exact ⟨_, e1, dv_newL (X := X) hF h2⟩
  · rw [List.getElem?_set_ne hij] at hj
    exact env'.2 j d hj
end
/-! ### defs -/
def pad (N : List Str) (xs : List Dat) : Dsl := xs.map some ++ List.replicate (N.length - xs.length) none
theorem env_start {K : PySem.W.Frag} {C : Addr} {F : Hp} {N : List Str} {vs : List V} {xs : List Dat} (h : DvAll K C F vs xs) : EnvOk K C F (L2.start N vs) (pad N xs) := by
  unfold L2.start pad
  refine ⟨by simp [h.length], fun i d q => ?_⟩
  by_cases hi : i < xs.length
  · rw [List.getElem?_append_left (by simpa using hi), List.getElem?_map] at q
    obtain ⟨d', e1, e2⟩ := Option.map_eq_some_iff.mp q
    cases e2
    obtain ⟨v, h1, h2⟩ := h.get e1
    refine ⟨v, ?_, h2⟩
    rw [List.getElem?_append_left (by rw [List.length_map, h.length]; exact hi), List.getElem?_map, h1]
    rfl
  · rw [List.getElem?_append_right (by simpa using hi), List.getElem?_replicate] at q
    split at q <;> cases q
section
variable {P : Program} {w : World} {K : PySem.W.Frag} {mg : Str → Option Value} {base : Heap}
/-- a def's body's context -/
abbrev Xo (P : Program) (w : World) (K : PySem.W.Frag) (mg : Str → Option Value) (base : Heap) (N : List Str) (q : Str) (sc : Scope) (f : Addr) (cdv : Value) (A : Around) (outer : List Env) (s : Shared) (H : Hp) (E : XK) : Cx := (cxOf CX0 P w K mg base N q sc f cdv A outer s H E).nox
theorem fn_def {C : Addr} {n q : Str} {pa : Arguments} {body : List Stmt} {sc : Scope} {f : Addr} {fd : FuncData} {N ps : List Str} {k : Nat} {r : List Dat → Led → (Dat → Led → Prop) → Prop} (Fn : FunD K n q pa body sc [] [] f fd) (S : FnScope N ps sc) (hl : ∀ ds O post, r ds O post → ds.length = ps.length)
    (hb : ∀ (cdv : Value) (A : Around) (outer : List Env) (s : Shared) (H : Hp) (E' : XK), Room k (A.deeper (PyProof.Rows.envOfC q sc s.heap.objs.size f cdv)) → ∀ F O ds post, r ds O post → Ok K C F O H →
      SDs (Xo P w K mg base N q sc f cdv A outer s H E') (At (Xo P w K mg base N q sc f cdv A outer s H E') C ⟨dom O, F, H⟩ (pad N ds) O) body ⟨fun _ H' => Rt (Xo P w K mg base N q sc f cdv A outer s H E') C ⟨dom O, F, H⟩ post .non H', Rt (Xo P w K mg base N q sc f cdv A outer s H E') C ⟨dom O, F, H⟩ post, fun _ _ => False, fun _ _ => False⟩) :
    FnOk P w K mg base CX0 (k + 1) f fd ps (spL K C r) := by
  refine Fn.ok S (fun vs H Q E h => ?_) (fun cdv A outer s H vs Q E hr h => ?_)
  · obtain ⟨F, O, ds, post, ok, hd, hrr, _⟩ := h
    rw [hd.length]
    exact hl ds O post hrr
  · obtain ⟨F, O, ds, post, ok, hd, hrr, kq⟩ := h
    refine ⟨_, PSs.nox pss_w, ?_⟩
    have hR : ∀ v H', Rt (Xo P w K mg base N q sc f cdv A outer s H E) C ⟨dom O, F, H⟩ post v H' → Q v H' := fun v H' ⟨F', d, O', g, ok', hd', hp⟩ => kq v H' F' d O' g ok' hd' hp
    refine wSs_mono (hb cdv A outer s H E hr F O ds post hrr ok _ _ ⟨F, ⟨Grow.refl, fun e he => .inl (List.mem_map.mpr ⟨e, he, rfl⟩), ok, env_start hd⟩⟩) (fun _ H' h => hR _ H' h) (fun v H' h => hR v H' h) (fun _ _ h => h.elim) (fun _ _ h => h.elim)
/-- a def that leaves all as it is -/
theorem fn_pure {C : Addr} {n q : Str} {pa : Arguments} {body : List Stmt} {sc : Scope} {f : Addr} {fd : FuncData} {N ps : List Str} {k : Nat} {r : List Dat → Dat → Prop} (Fn : FunD K n q pa body sc [] [] f fd) (S : FnScope N ps sc) (hl : ∀ ds d, r ds d → ds.length = ps.length)
    (hb : ∀ (cdv : Value) (A : Around) (outer : List Env) (s : Shared) (H : Hp) (E' : XK), Room k (A.deeper (PyProof.Rows.envOfC q sc s.heap.objs.size f cdv)) → ∀ F ds d, r ds d →
      SDs (Xo P w K mg base N q sc f cdv A outer s H E') (At (Xo P w K mg base N q sc f cdv A outer s H E') C ⟨[], F, H⟩ (pad N ds) []) body ⟨fun _ H' => Rt (Xo P w K mg base N q sc f cdv A outer s H E') C ⟨[], F, H⟩ (fun d' _ => d' = d) .non H', Rt (Xo P w K mg base N q sc f cdv A outer s H E') C ⟨[], F, H⟩ (fun d' _ => d' = d), fun _ _ => False, fun _ _ => False⟩) :
    FnOk P w K mg base CX0 (k + 1) f fd ps (spP K C r) :=
  fn_def Fn S (fun ds O post ⟨_, d, h, _⟩ => hl ds d h) fun cdv A outer s H E' hr F O ds post ⟨hO, d, h, hp⟩ ok => by
    subst hO hp
    exact hb cdv A outer s H E' hr F ds d h
/-- a def of the text that can be found by its name -/
structure Dfn (K : PySem.W.Frag) (mg : Str → Option Value) (n : Str) (st : Stmt) : Prop where
  ex : ∃ f fd, FunD K n n (defArgs st) (defBody st) (defScope st) [] [] f fd ∧ mg n = some (.ref f)
theorem cal_pure {C : Addr} {n : Str} {st : Stmt} {N ps : List Str} {k : Nat} {r : List Dat → Dat → Prop} (Df : Dfn K mg n st) (S : FnScope N ps (defScope st)) (hl : ∀ ds d, r ds d → ds.length = ps.length)
    (bi : ∀ (kV doc pm : Value) (an : Option Addr) (cdv ct : Value) (us : List Value), us.length = ps.length → bindArgs (PySem.W.fnOf n n (defArgs st) (defBody st) (defScope st) .none kV doc pm an cdv ct) ⟨us, []⟩ = pure (ps.zip us))
    (hb : ∀ (f : Addr) (cdv : Value) (A : Around) (outer : List Env) (s : Shared) (H : Hp) (E' : XK), Room k (A.deeper (PyProof.Rows.envOfC n (defScope st) s.heap.objs.size f cdv)) → ∀ F ds d, r ds d →
      SDs (Xo P w K mg base N n (defScope st) f cdv A outer s H E') (At (Xo P w K mg base N n (defScope st) f cdv A outer s H E') C ⟨[], F, H⟩ (pad N ds) []) (defBody st) ⟨fun _ H' => Rt (Xo P w K mg base N n (defScope st) f cdv A outer s H E') C ⟨[], F, H⟩ (fun d' _ => d' = d) .non H', Rt (Xo P w K mg base N n (defScope st) f cdv A outer s H E') C ⟨[], F, H⟩ (fun d' _ => d' = d), fun _ _ => False, fun _ _ => False⟩) :
    Cal P w K mg base (k + 1) n ps (spP K C r) := by
  obtain ⟨f, fd, Fn, hm⟩ := Df.ex
  exact ⟨f, fd, fn_pure Fn S hl (hb f), hm, Fn.kp, Fn.bindsN bi⟩
end
end Sw
/-! The data layer: enumerate over a tuple; a Sky's properties. -/
namespace Sw
open PySem PySem.Spec L2
open AutoSeq1 (wpAny_loadPart')
theorem meets_enumerate_1 {v : Value} {o : Obj} {H : Heap → Prop} (B : Begins v o H) :
    Meets (Builtin.«enumerate.__new__» ⟨[.type "enumerate", v], []⟩) (fun _ R s => H s.heap ∧
      R (.ok (.ret (.ref (s.heap.push o).objs.size))) { s with heap := (s.heap.push o).push { cls := .type "enumerate", data := .fields #[.none, .bool false, .ref s.heap.objs.size, rawInt 0, .none, .none] } }) :=
  .of_wp fun prog w A R s h => by
    obtain ⟨hp, g, d, tk, os⟩ := s; obtain ⟨h1, h⟩ := h
    have hsub := sub_enumerate
    have q1 : ∀ {A' : Around} {E : Value → Shared → Prop} {Q : Value → Shared → Prop}, Q (.ref hp.objs.size) ⟨hp.push o, g, d, tk, os⟩ → wpAny (model prog w) A' (pyIter v) Q E ⟨hp, g, d, tk, os⟩ :=
      fun q => B.iter prog w _ _ ⟨hp, g, d, tk, os⟩ _ h1 q
    wp_walk using q1
    refine wpAny_stack_any fun st => wpAny_pure ?_
    split
    · rename_i c _ _ _ _ _
      cases (c == Value.type "enumerate")
      · wp_walk using q1
        exact ⟨_, rfl, h⟩
      · wp_walk using q1
        exact ⟨_, rfl, h⟩
    · wp_walk using q1
      exact ⟨_, rfl, h⟩
section
variable {prog : Program} {w : World} {A : Around} {E : Value → Shared → Prop} {s : Shared}
theorem enum1_begins {v : Value} {o : Obj} {H : Heap → Prop} {Q : Value → Shared → Prop} (B : Begins v o H) (h1 : H s.heap)
    (h : ∀ h', IsEnum h' (s.heap.objs.size + 1) s.heap.objs.size 0 .none → h'.get? s.heap.objs.size = some o → h'.objs.size = s.heap.objs.size + 2 →
      (∀ b o, s.heap.get? b = some o → h'.get? b = some o) → Q (.ref (s.heap.objs.size + 1)) { s with heap := h' }) :
    wpAny (model prog w) A (call (.type "enumerate") [v]) Q E s := by
  refine callType_new F.called_enumerate (by decide) (F.typeCall_enumerate_1 _) (F.newCall_enumerate_1 _) (fun obj => F.args_object_init_2 obj _) F.entry_enumerate_new
    (meets_enumerate_1 B) ⟨h1, ?_⟩
  have hz : (s.heap.push o).objs.size = s.heap.objs.size + 1 := Heap.size_push ..
  show _ ∧ _
  rw [hz]
  have he : IsEnum ((s.heap.push o).push { cls := .type "enumerate", data := .fields #[.none, .bool false, .ref s.heap.objs.size, rawInt 0, .none, .none] }) (s.heap.objs.size + 1) s.heap.objs.size 0 .none := by
    have := Heap.get?_push_size (s.heap.push o) (o := { cls := .type "enumerate", data := .fields #[.none, .bool false, .ref s.heap.objs.size, rawInt 0, .none, .none] }) rfl
    rw [hz] at this; exact this
  refine ⟨⟨_, he, rfl⟩, h _ he (Heap.get?_push_of_some _ (Heap.get?_push_size _ B.free)) (by rw [Heap.size_push, hz]) fun b o x => Heap.get?_push_of_some _ (Heap.get?_push_of_some _ x)⟩
end
/-- the tuple at a, each item in a new pair -/
def ItT (a : Addr) : It :=
  ⟨fun i H => ∃ (xs : List V) (x : V), H a = some (.tup xs) ∧ xs[i]? = some x, fun i H v H' => ∃ T x, v = .ref T ∧ H T = none ∧ H' = upd H T (.tup [.int (i : Nat), x]) ∧ ∀ xs, H a = some (.tup xs) → xs[i]? = some x, fun i H => ∃ xs : List V, H a = some (.tup xs) ∧ xs.length = i⟩
theorem turn_enumT {P : Program} {w : World} {K : PySem.W.Frag} {elts : List Expr} {kk : Nat} {tpos : Pos} (a e it : Addr) :
    Turn P w K (.Tuple elts kk tpos) (ItT a) [e, it] e (fun i h => (∃ old, IsEnum h e it ((i : Nat) : Int) old) ∧ h.IsTupleIter it a i ∧ e ≠ it) where
  mem := by simp
  obj := fun i h st b hb => by
    obtain ⟨⟨old, he⟩, ⟨o, ho, hc, hd⟩, _⟩ := st
    have e' : b = e ∨ b = it := by simpa using hb
    rcases e' with z | z
    · rw [z]; exact ⟨_, he, fun v q => nomatch q⟩
    · rw [z]; exact ⟨o, ho, fun v q => by rw [hd] at q; cases q⟩
  keep := fun i h h' st k => let ⟨⟨old, he⟩, hi, hne⟩ := st; ⟨⟨old, k e (by simp) _ he⟩, hi.at fun o q => k it (by simp) o q, hne⟩
  item := by
    intro X hP hw hK hc i pins s σ H E I hf st hg
    subst hP hw hK
    obtain ⟨⟨old, he⟩, hit, hne⟩ := st
    obtain ⟨xs, x, hq, hx⟩ := hg
    obtain ⟨its, rv, p, hz⟩ := I.tuple (SqT.of hq)
    obtain ⟨u, hu, ru⟩ := rv.get hx
    have hel : e < s.heap.objs.size := Heap.lt_size he
    have hil : it < s.heap.objs.size := by obtain ⟨_, q, _⟩ := hit; exact Heap.lt_size q
    have hae : e ≠ a := fun z => by have := (hf e (by simp)).1; rw [z, hq] at this; cases this
    have hai : a ≠ it := fun z => by have := (hf it (by simp)).1; rw [← z, hq] at this; cases this
    have D := Draws.tuple (prog := X.prog) (w := X.w) (A := X.A.in1) (show X.A.in1.handled = none from I.ok.hd hc) it a hai its.toArray
    have hi : i < its.length := (List.getElem?_eq_some_iff.mp hu).1
    refine wpAny_pyNext_enum_itemD D he ⟨hit, p⟩ (by simpa using hi) hne (by simp [hne, hae]) fun y h' tk hy ho hst hT hsz hk => ?_
    rw [show y = u by simpa [hu] using hy.symm] at ho hT
    refine ⟨_, rfl, wpAny_letOwnedTupleGo_enum (s := { s with heap := h', toks := tk + 1 }) ho fun h'' he' sb => ?_⟩
    have hT2 : h''.get? s.heap.objs.size = some { cls := .type "tuple", data := .seq #[.int i tk, u] } := (sb.2 _ (Nat.ne_of_gt hel)).trans hT
    have new : ObjOk X.prog X.w (upd H s.heap.objs.size (.tup [.int (i : Nat), x])) h'' s.heap.objs.size (.tup [.int (i : Nat), x]) :=
      ⟨by show 2 ≤ sizeLine; decide, [.int i tk, u], .cons ⟨_, rfl⟩ (.cons ru .nil), ⟨_, hT2, rfl, _, rfl⟩⟩
    have I1 : Inv X pins σ (upd H s.heap.objs.size (.tup [.int (i : Nat), x])) { s with heap := h'', toks := tk + 1 } :=
      I.turnedNew (ch := [e, it]) (fun b ob hb q => (sb.2 b (fun z => hb (by simp [z]))).trans (hk b ob (fun z => hb (by simp [z])) (fun z => hb (by simp [z])) q)) hf (Nat.le_refl _) new
    refine ⟨.ref s.heap.objs.size, _, I1, rfl, ⟨_, x, rfl, I.hok.fresh (Nat.le_refl _), rfl, fun ys hy => by rw [hq] at hy; cases hy; exact hx⟩, ⟨⟨u, ?_⟩, hst.1.at fun o q => (sb.2 it (Ne.symm hne)).trans q, hne⟩, fun b hb => ?_⟩
    · have e1 : ((i + 1 : Nat) : Int) = (i : Int) + 1 := by omega
      rw [e1]; exact he'
    · have hb' : b < s.heap.objs.size := by
        have e' : b = e ∨ b = it := by simpa using hb
        rcases e' with z | z
        · rw [z]; exact hel
        · rw [z]; exact hil
      rw [upd_ne (Nat.ne_of_lt hb')]
      exact (hf b hb).1
  done := by
    intro X hP hw hK hc i pins s σ H E I hf st hg
    subst hP hw hK
    obtain ⟨⟨old, he⟩, hit, hne⟩ := st
    obtain ⟨xs, hq, hx⟩ := hg
    obtain ⟨its, rv, p, hz⟩ := I.tuple (SqT.of hq)
    obtain ⟨f0, f1, f2, f3, f4, f5⟩ := hf it (by simp)
    have hl := rv.length
    have hai : a ≠ it := fun z => by rw [← z, hq] at f0; cases f0
    have D := Draws.tuple (prog := X.prog) (w := X.w) (A := X.A.in1) (show X.A.in1.handled = none from I.ok.hd hc) it a hai its.toArray
    have en : its.toArray.size = i := by simp; omega
    subst en
    exact wpAny_pyNext_enum_endD D he ⟨hit, p⟩ fun h' eb => ⟨rfl, I.turned (t' := s.toks) (fun b o hb q => eb b o hb q) f0 f1 f3 f4 f5⟩
  self := fun A i s Q E st h => let ⟨⟨_, he⟩, _⟩ := st; wpAny_pyIter_enum he h
def iEnumT (ta : TA) : TI := fun σ H R => ta σ H fun vs H1 => ∃ a xs, vs = [.ref a] ∧ H1 a = some (.tup xs) ∧ R (ItT a) H1
theorem pi_enumT {X : Cx} {e : Expr} {ta : TA} {p pos tpos : Pos} {elts : List Expr} {kk : Nat} (hg : Gl X "enumerate") (hm : X.mg "enumerate" = none) (ha : PA X [e] ta) (hs : starEach [e] X.env = [(false, eval e X.env)] := by rfl) :
    PI X (.Tuple elts kk tpos) (.Call (.Name "enumerate" p) [e] [] pos) (iEnumT ta) := by
  refine ⟨fun pins s σ H R I h => ?_⟩
  refine PyProof.Rows.Call_ (ld_blt I hg hm PyProof.Rows.boot_enumerate (PyProof.Rows.callWith_type1 (thn (ha.run pos pins s σ H _ I h) fun us s1 ⟨vs, H1, I1, r1, q1⟩ => ?_) hs rfl))
  obtain ⟨a, xs, ex, hq, q⟩ := q1
  subst ex
  cases r1 with
  | cons r rr =>
    cases rr
    cases r
    obtain ⟨its, rv, p', hz⟩ := I1.tuple (SqT.of hq)
    refine enum1_begins (begins_tuple a its.toArray) p' fun h' he hit hsz hk => wpAny_pyIter_enum he ?_
    have I2 : Inv X pins σ H1 { s1 with heap := h' } := I1.kept (t' := s1.toks) hk
    refine ⟨s1.heap.objs.size + 1, [s1.heap.objs.size + 1, s1.heap.objs.size], _, _, H1, rfl, I2, turn_enumT a (s1.heap.objs.size + 1) s1.heap.objs.size, ⟨⟨.none, he⟩, ⟨_, hit, rfl, rfl⟩, Nat.succ_ne_self _⟩, fun b hb => ?_, q⟩
    have e' : b = s1.heap.objs.size + 1 ∨ b = s1.heap.objs.size := by simpa using hb
    have hle : s1.heap.objs.size ≤ b := by
      rcases e' with z | z
      · rw [z]; exact Nat.le_add_right _ _
      · rw [z]; exact Nat.le_refl _
    exact I1.fpOk hle (I1.hok.fresh hle)
theorem walk_enumT {a : Addr} {xs : List V} : Walk (ItT a) xs.length (fun H => H a = some (.tup xs)) (YPair (fun i => some (.int (i : Nat))) (fun i => xs[i]?)) := by
  refine ⟨fun i _ hi q => ⟨xs, xs[i], q, by simp [hi]⟩, fun _ q => ⟨xs, q, rfl⟩, fun i H v H' _ q y => ?_⟩
  obtain ⟨T, x, h1, h2, h3, h4⟩ := y
  exact ⟨T, .int (i : Nat), x, h1, h2, h3, rfl, h4 xs q⟩
section
variable {X : Cx} {C : Addr} {ds ds' : Dsl} {O O' O1 O2 O3 : Led} {e a b c : Expr} {d x y z : Dat} {E : En} {D : Ends} {F F' H H' : Hp} {σ : L2.St} {p p2 q pos : Pos} {k k' : Bool} {es : List Expr}
theorem it_enumT {xs : List Dat} {elts : List Expr} {kk : Nat} {tpos : Pos} (hm : X.mg "enumerate" = none) (h : ED X C ds O e (.tup xs) O1) (hg : Gl X "enumerate" := by rfl) (na : starEach [e] X.env = [(false, eval e X.env)] := by rfl) :
    IT X C ds O (.Tuple elts kk tpos) (.Call (.Name "enumerate" p) [e] [] pos) (enumD xs) O1 :=
  ⟨h.dm, _, pi_enumT hg hm (pa_cons pe_w pa_nil (by exact na)) na, fun σ H F ok env R r => h.run σ H F ok env _ fun v H1 F1 g1 ok1 d1 => by
    cases d1 with
    | tup h1 h2 =>
      refine ⟨_, _, rfl, ok1.ex _ _ h1, r _ H1 F1 g1 ok1 ?_⟩
      rw [enumD_len, ← h2.length]
      refine walk_enumT.mono (fun H' e => e _ _ h1) fun i H x H' hi e y F2 e1 e2 => ?_
      obtain ⟨T, u, v, rfl, hT, rfl, q1, q2⟩ := y
      cases q1
      obtain ⟨d, q3, q4⟩ := h2.get' q2
      have hF := e2.free hT
      exact ⟨_, Grow.frz hT hF, e2.upd2, _, enumD_get q3, dv_newT (X := X) hF (.cons (.int _) (DvAll.one (q4.mono e1)))⟩⟩
/-! ### a Sky's fields and properties -/
/-- self._side, self._stars, self._camera -/
inductive FldD (s : SkyD) : Str → Dat → Prop
  | side : FldD s "_side" (.int s.side)
  | stars : FldD s "_stars" (.tup (s.stars.map t3))
  | camera : FldD s "_camera" (.tup [.int s.reach, .int s.blur, .int s.glare, .int s.limit])
theorem ed_fld {f : Str} {s : SkyD} (cl : Cls X.K C) (na : NoAttr X.K C f) (h : ED X C ds O e (.sky s) O1) (hf : FldD s f x) (hab : attributeBase e f X.env (eval e X.env) = eval e X.env := by rfl) : ED X C ds O (.Attribute e f pos) x O1 :=
  ed_of (pe_fld pe_w hab) h.dm fun σ H F ok env Q q => h.run σ H F ok env _ fun v H1 F1 g1 ok1 d1 => by
    cases d1 with
    | @sky a dx p1 p2 xs _ h1 h2 h3 h4 =>
      cases hf with
      | side => exact ⟨_, _, _, _, _, rfl, ok1.ex _ _ h1, cl, na, rfl, q _ H1 F1 g1 ok1 (.int _)⟩
      | stars => exact ⟨_, _, _, _, _, rfl, ok1.ex _ _ h1, cl, na, rfl, q _ H1 F1 g1 ok1 (.tup h2 h3)⟩
      | camera => exact ⟨_, _, _, _, _, rfl, ok1.ex _ _ h1, cl, na, rfl, q _ H1 F1 g1 ok1 (.tup h4 (.cons (.int _) (.cons (.int _) (.cons (.int _) (.cons (.int _) .nil)))))⟩
end
section
variable {P : Program} {w : World} {K : PySem.W.Frag} {mg : Str → Option Value} {base : Heap}
def rG (g : SkyD → Dat) (ds : List Dat) (d : Dat) : Prop := ∃ s, ds = [.sky s] ∧ d = g s
/-- a property whose getter is as g says -/
structure Prp (P : Program) (w : World) (K : PySem.W.Frag) (mg : Str → Option Value) (base : Heap) (C : Addr) (f : Str) (g : SkyD → Dat) : Prop where
  ex : ∃ pr ga fd, PropOf K C f pr ga ∧ FnOk P w K mg base CX0 1 ga fd ["self"] (spP K C (rG g)) ∧ Binds K fd ["self"] []
structure Sy (P : Program) (w : World) (K : PySem.W.Frag) (mg : Str → Option Value) (base : Heap) (C : Addr) : Prop where
  cl : Cls K C
  side : Prp P w K mg base C "side" fun s => .int s.side
  stars : Prp P w K mg base C "stars" fun s => .tup (s.stars.map t3)
  reach : Prp P w K mg base C "reach" fun s => .int s.reach
  blur : Prp P w K mg base C "blur" fun s => .int s.blur
  glare : Prp P w K mg base C "glare" fun s => .int s.glare
  limit : Prp P w K mg base C "limit" fun s => .int s.limit
end
section
variable {X : Cx} {C : Addr} {ds : Dsl} {O O1 : Led} {e : Expr} {pos : Pos} {s : SkyD}
theorem ed_prp {f : Str} {g : SkyD → Dat} (cl : Cls X.K C) (h : Prp X.prog X.w X.K X.mg X.base C f g) (hr : Room 2 X.A) (he : ED X C ds O e (.sky s) O1) (hab : attributeBase e f X.env (eval e X.env) = eval e X.env := by rfl) : ED X C ds O (.Attribute e f pos) (g s) O1 := by
  obtain ⟨pr, ga, fd, h1, h2, h3⟩ := h.ex
  exact ed_prop cl h1 h2 hr h3 he ⟨s, rfl, rfl⟩ hab
variable (Y : Sy X.prog X.w X.K X.mg X.base C) (hr : Room 2 X.A) (he : ED X C ds O e (.sky s) O1)
include Y hr he
theorem ed_side (hab : attributeBase e "side" X.env (eval e X.env) = eval e X.env := by rfl) : ED X C ds O (.Attribute e "side" pos) (.int s.side) O1 := ed_prp Y.cl Y.side hr he hab
theorem ed_stars (hab : attributeBase e "stars" X.env (eval e X.env) = eval e X.env := by rfl) : ED X C ds O (.Attribute e "stars" pos) (.tup (s.stars.map t3)) O1 := ed_prp Y.cl Y.stars hr he hab
theorem ed_reach (hab : attributeBase e "reach" X.env (eval e X.env) = eval e X.env := by rfl) : ED X C ds O (.Attribute e "reach" pos) (.int s.reach) O1 := ed_prp Y.cl Y.reach hr he hab
theorem ed_blur (hab : attributeBase e "blur" X.env (eval e X.env) = eval e X.env := by rfl) : ED X C ds O (.Attribute e "blur" pos) (.int s.blur) O1 := ed_prp Y.cl Y.blur hr he hab
theorem ed_glare (hab : attributeBase e "glare" X.env (eval e X.env) = eval e X.env := by rfl) : ED X C ds O (.Attribute e "glare" pos) (.int s.glare) O1 := ed_prp Y.cl Y.glare hr he hab
theorem ed_limit (hab : attributeBase e "limit" X.env (eval e X.env) = eval e X.env := by rfl) : ED X C ds O (.Attribute e "limit" pos) (.int s.limit) O1 := ed_prp Y.cl Y.limit hr he hab
end
end Sw
/-! sorted of triples, of any number; a list or a tuple of them. -/
namespace Sw
open PySem PySem.Spec L2
open PyProof.Rows Srt SrtO
def IsTri (h : Heap) (v : Value) (x : T3) : Prop := ∃ a o t u r n, v = .ref a ∧ h.get? a = some o ∧ o.cls = .type "tuple" ∧ o.data = .seq #[.int x.1 t, .int x.2.1 u, .int x.2.2 r] n
theorem IsTri.keeps {h h' : Heap} {v : Value} {x : T3} (p : IsTri h v x) (k : ∀ b o, h.get? b = some o → o.cls = .type "tuple" → h'.get? b = some o) : IsTri h' v x := by
  obtain ⟨a, o, t, u, r, n, e, ho, hc, hd⟩ := p
  exact ⟨a, o, t, u, r, n, e, k _ _ ho hc, hc, hd⟩
theorem ltT_iff {a b : T3} : ltT a b = true ↔ a.1 < b.1 ∨ (a.1 = b.1 ∧ (a.2.1 < b.2.1 ∨ (a.2.1 = b.2.1 ∧ a.2.2 < b.2.2))) := by
  unfold ltT
  simp
theorem ltT_no {a b : T3} : ltT a b = false ↔ ¬ (a.1 < b.1 ∨ (a.1 = b.1 ∧ (a.2.1 < b.2.1 ∨ (a.2.1 = b.2.1 ∧ a.2.2 < b.2.2)))) := by
  rw [← ltT_iff]
  cases ltT a b <;> simp
theorem swo_T {α : Type} (k : α → T3) : Swo fun v u => ltT (k v) (k u) := by
  refine ⟨fun x y h => ?_, fun x y z h1 h2 => ?_⟩
  · have a := ltT_iff.mp h
    refine ltT_no.mpr ?_
    omega
  · have a := ltT_no.mp h1
    have b := ltT_no.mp h2
    refine ltT_no.mpr ?_
    omega
section
variable {prog : Program} {w : World} {A : Around} {E : Value → Shared → Prop} {s : Shared}
theorem tri_cmp {vs : List Value} {k : Value → T3} (hp : ∀ v ∈ vs, IsTri s.heap v (k v)) : Cmp prog w A s (tuples' true) (fun p => p.1 ∈ vs) (lt2 fun v u => ltT (k v) (k u)) := by
  intro p q hm hm'
  have h1 := hp _ hm
  have h2 := hp _ hm'
  show wpAny (model prog w) A (keyLt' (tuples' true) p.1 q.1) (fun r s' => s' = s ∧ r = ltT (k p.1) (k q.1)) (fun _ _ => False) s
  generalize k p.1 = x at h1 ⊢
  generalize k q.1 = x' at h2 ⊢
  obtain ⟨x, y, z⟩ := x
  obtain ⟨x', y', z'⟩ := x'
  obtain ⟨a, o, t, u, r, n, e, ho, hc, hd⟩ := h1
  obtain ⟨a', o', t', u', r', n', e', ho', hc', hd'⟩ := h2
  rw [e, e']
  refine PySem.W.kat_lt ho hd ho' hd' ?_
  show PySem.W.KatLex prog w A true (decide (3 < 3)) _ [(.int x t, .int x' t'), (.int y u, .int y' u'), (.int z r, .int z' r')] 0 s
  have key : ∀ b : Bool, b = ltT (x, y, z) (x', y', z') → (s = s ∧ b = ltT (x, y, z) (x', y', z')) := fun b h => ⟨rfl, h⟩
  refine PySem.W.kat_cons (SeqAt.EqAt.int_int x t x' t' prog w _ _ ?_)
  refine PySem.W.kat_go (fun e1 => ?_) (fun e1 => ?_)
  · have ex : x = x' := by simpa using e1
    refine PySem.W.kat_yes (PySem.W.kat_cons (SeqAt.EqAt.int_int y u y' u' prog w _ _ ?_))
    refine PySem.W.kat_go (fun e2 => ?_) (fun e2 => ?_)
    · have ey : y = y' := by simpa using e2
      refine PySem.W.kat_yes (PySem.W.kat_cons (SeqAt.EqAt.int_int z r z' r' prog w _ _ ?_))
      refine PySem.W.kat_go (fun e3 => ?_) (fun e3 => ?_)
      · have ez : z = z' := by simpa using e3
        exact PySem.W.kat_yes (PySem.W.kat_nil (key _ (by rw [eq_comm, show decide (3 < 3) = false from rfl, ltT_no]; dsimp only; omega)))
      · have ez : ¬ z = z' := by simpa using e3
        refine PySem.W.kat_no (PySem.W.kat_one _ _ (PyProof.Rows.lt_int ?_))
        refine key _ ?_
        rw [Bool.eq_iff_iff, ltT_iff, decide_eq_true_iff]
        dsimp only; omega
    · have ey : ¬ y = y' := by simpa using e2
      refine PySem.W.kat_no (PySem.W.kat_one _ _ (PyProof.Rows.lt_int ?_))
      refine key _ ?_
      rw [Bool.eq_iff_iff, ltT_iff, decide_eq_true_iff]
      dsimp only; omega
  · have ex : ¬ x = x' := by simpa using e1
    refine PySem.W.kat_no (oneLt_int (key _ ?_))
    rw [Bool.eq_iff_iff, ltT_iff, decide_eq_true_iff]
    dsimp only; omega
theorem firsts_T {h : Heap} : ∀ {vs : List Value}, (∀ v ∈ vs, ∃ x, IsTri h v x) → ∃ fs : List Value, PySem.W.KatTups h vs fs ∧ fs.length = vs.length ∧ ∀ f ∈ fs, ∃ x t, f = Value.int x t
  | [], _ => ⟨[], PySem.W.KatTups.nil, rfl, fun _ hm => by simp at hm⟩
  | v :: vs, hp => by
    obtain ⟨fs, h1, h2, h3⟩ := firsts_T (vs := vs) fun v' hm => hp v' (List.mem_cons_of_mem _ hm)
    obtain ⟨x, a, o, t, u, r, n, e, ho, hc, hd⟩ := hp v (List.mem_cons_self ..)
    subst e
    refine ⟨.int x.1 t :: fs, PySem.W.KatTups.cons ho hc hd rfl h1, by rw [List.length_cons, List.length_cons, h2], fun f hm => ?_⟩
    rcases List.mem_cons.mp hm with rfl | hm
    · exact ⟨x.1, t, rfl⟩
    · exact h3 f hm
theorem tris_sortable {a : Addr} {vs : List Value} {k : Value → T3} (h0 : 0 < vs.length) (hp : ∀ v ∈ vs, IsTri s.heap v (k v)) (ha : ∀ o, s.heap.get? a = some o → o.cls ≠ .type "tuple") : SortableO prog w A s a vs fun v u => ltT (k v) (k u) := by
  intro h' keep
  have hp' : ∀ v ∈ vs, IsTri h' v (k v) := fun v hm => (hp v hm).keeps fun b o e c => keep b o (fun z => by subst z; exact ha o e c) e
  obtain ⟨fs, h1, h2, h3⟩ := firsts_T fun v hm => ⟨_, hp' v hm⟩
  refine ⟨tuples' true, fun Q E hq => ?_, tri_cmp hp'⟩
  refine PySem.W.kat_kind (T := .type "int") h1 (by omega) (fun f hm => ?_) (by rfl) ?_
  · obtain ⟨x, t, rfl⟩ := h3 f hm
    exact PySem.W.Looks.now
  · have e : (Value.type "int" != Value.type "tuple") = true := by first | decide +kernel | rfl | decide
    rw [e]
    exact hq
/-- iter's items brought together: of a list, a tuple -/
def ColSeq (h : Heap) (l : Addr) (vs : List Value) : Prop := ∃ o T, h.get? l = some o ∧ o.cls = .type T ∧ (T = "list" ∨ T = "tuple") ∧ ∃ n, o.data = .seq vs.toArray n
theorem collect_seq {l : Addr} {vs : List Value} {Q : List Value → Shared → Prop} (hl : ColSeq s.heap l vs)
    (h : Q vs { s with heap := (s.heap.push (seqObj "list" #[] 0)).update s.heap.objs.size (Obj.mapSeq (· ++ vs.toArray)) }) (hsz : vs.length ≤ sizeLine) :
    wpAny (model prog w) A (collect (.ref l)) Q E s := by
  obtain ⟨o, T, ho, hc, hT, n, hd⟩ := id hl
  unfold collect
  refine wpAny_bind (wpAny_runValue (codeAny_builtin entry_proto_collect' ?_))
  show wpAny _ _ (do again (.builtin "list.__iadd__" ⟨[← newList [], .ref l], []⟩)) _ _ s
  refine wpAny_bind (wpAny_newList (wpAny_pure ⟨Code.quiet_builtin _ (by decide +kernel), codeAny_builtin entry_list_iadd' ?_⟩))
  show wpAny _ _ (Builtin.List.listExtendWith (.ref s.heap.objs.size) (.ref l) (.ref s.heap.objs.size)) _ _ { s with heap := s.heap.push (seqObj "list" #[] 0) }
  unfold Builtin.List.listExtendWith
  have ho' : (s.heap.push (seqObj "list" #[] 0)).get? l = some o := Heap.get?_push_of_some _ ho
  refine wpAny_bind (wpAny_typeOf (T := T) ⟨o, ho', hc⟩ ?_)
  have ht : ∀ x : Value, (x == x) = true := fun x => by cases hT <;> simp
  rw [if_pos (by rcases hT with rfl | rfl <;> simp)]
  refine wpAny_bind (listItems_at ho' hd ?_)
  refine wpAny_bind (listItems_at (xs := #[]) (n := 0) (Heap.get?_push_size _ rfl) rfl ?_)
  rw [if_neg (by simp)]
  refine wpAny_bind (listUpdate_at (xs := #[]) (n := 0) (Heap.get?_push_size _ rfl) rfl ?_ (Nat.zero_le _) (by show (#[] ++ vs.toArray).size ≤ sizeLine + 1; simp only [Array.size_append, List.size_toArray, List.length_nil]; omega))
  refine wpAny_pure ?_
  show wpAny (model prog w) A (do
      let o ← load s.heap.objs.size
      match o.data with
      | .seq xs _ => pure xs.toList
      | _ => unsupported "internal:collect") Q E { s with heap := (s.heap.push (seqObj "list" #[] 0)).update s.heap.objs.size (Obj.mapSeq (· ++ vs.toArray)) }
  refine wpAny_bind (wpAny_load (get?_update_seq (Heap.get?_push_size _ rfl) _) ?_)
  show wpAny _ _ (pure ((#[] : Array Value) ++ vs.toArray).toList) Q E _
  rw [show ((#[] : Array Value) ++ vs.toArray).toList = vs by simp]
  exact wpAny_pure h
theorem sorted_seq {l : Addr} {vs : List Value} {ltv : Value → Value → Bool} {Q : Value → Shared → Prop} (O : Swo ltv) (hl : ColSeq s.heap l vs) (hz : vs.length ≤ sizeLine)
    (hS : 2 ≤ vs.length → ∀ (h₁ : Heap) (a : Addr), h₁.get? a = some (seqObj "list" vs.toArray 0) → (∀ b o, s.heap.get? b = some o → b ≠ a ∧ h₁.get? b = some o) → SortableO prog w A.in1.in1 { s with heap := h₁ } a vs ltv)
    (h : ∀ out : List Value, Srtd ltv out → Stb ltv out vs → Q (.ref (s.heap.objs.size + 1)) { s with heap := sortedAll s.heap vs out.toArray }) :
    wpAny (model prog w) A (call (.builtin "sorted") [.ref l]) Q E s := by
  refine Calls.call_function_entry kind_sorted plain_sorted entry_sorted (args_sorted1 _) ?_
  unfold Builtin.«sorted»
  refine wpAny_bind (m := checkCount "sorted" 1 1 _) (wpAny_pure ?_)
  refine wpAny_bind (collect_seq hl ?_ hz)
  refine wpAny_bind (wpAny_newList ?_ hz)
  have hsz : ((s.heap.push (seqObj "list" #[] 0)).update s.heap.objs.size (Obj.mapSeq (· ++ vs.toArray))).objs.size = s.heap.objs.size + 1 := by
    rw [Heap.size_update, size_push']
  have hoL : (((s.heap.push (seqObj "list" #[] 0)).update s.heap.objs.size (Obj.mapSeq (· ++ vs.toArray))).push (seqObj "list" vs.toArray 0)).get? (s.heap.objs.size + 1) = some (seqObj "list" vs.toArray 0) := by
    rw [← hsz]; exact Heap.get?_push_size _ rfl
  have keep : ∀ b o, s.heap.get? b = some o → b ≠ s.heap.objs.size + 1 ∧ (((s.heap.push (seqObj "list" #[] 0)).update s.heap.objs.size (Obj.mapSeq (· ++ vs.toArray))).push (seqObj "list" vs.toArray 0)).get? b = some o := fun b o q => by
    have hlt : b < s.heap.objs.size := Heap.lt_size q
    refine ⟨Nat.ne_of_lt (Nat.lt_succ_of_lt hlt), Heap.get?_push_of_some _ ?_⟩
    rw [Heap.get?_update_ne _ _ _ _ (Nat.ne_of_lt hlt)]
    exact Heap.get?_push_of_some _ q
  show wpAny _ _ _ _ _ { s with heap := ((s.heap.push (seqObj "list" #[] 0)).update s.heap.objs.size (Obj.mapSeq (· ++ vs.toArray))).push (seqObj "list" vs.toArray 0) }
  rw [hsz]
  refine wpAny_bind (wpAny_holding (wpAny_call_entry slot_list_sort ⟨_, hoL, rfl⟩ entry_list_sort (list_sort_ord O hoL hz (fun h2 => hS h2 _ _ hoL keep) fun out hs hb => ⟨_, rfl, ?_⟩) (args_list_sort _)))
  exact wpAny_pure ⟨_, rfl, h out hs hb⟩
theorem sorted_tris {l : Addr} {vs : List Value} {k : Value → T3} {Q : Value → Shared → Prop} (hl : ColSeq s.heap l vs) (hz : vs.length ≤ sizeLine) (hp : ∀ v ∈ vs, IsTri s.heap v (k v))
    (h : ∀ (h' : Heap) (d : Addr) (out : List Value), Srtd (fun v u => ltT (k v) (k u)) out → Stb (fun v u => ltT (k v) (k u)) out vs → (∀ b o, s.heap.get? b = some o → h'.get? b = some o) → s.heap.objs.size ≤ d → (∃ n, h'.get? d = some (seqObj "list" out.toArray n)) → Q (.ref d) { s with heap := h' }) :
    wpAny (model prog w) A (call (.builtin "sorted") [.ref l]) Q E s := by
  refine sorted_seq (swo_T k) hl hz (fun h2 h₁ a ha kk => ?_) fun out hs hb => ?_
  · refine tris_sortable (s := { s with heap := h₁ }) (by omega) (fun v hm => (hp v hm).keeps fun b o e _ => (kk b o e).2) fun o e => ?_
    have e' : some o = some (seqObj "list" vs.toArray 0) := e.symm.trans ha
    cases e'
    intro c
    exact absurd (Value.type.inj c) (by decide)
  · exact h _ _ out hs hb (fun b o e => sortedAll_old e) (Nat.le_succ _) (sortedAll_at s.heap vs out.toArray)
end
/-- sorted(xs), xs a list or a tuple of triples -/
def rSort3 (K : PySem.W.Frag) : List V → Hp → VK → Prop := fun vs H Q => ∃ (a : Addr) (xs : List V) (k : V → T3), vs = [V.ref a] ∧ (SqL K H a xs ∨ SqT K H a xs) ∧ (∀ x ∈ xs, ∃ t, x = V.ref t ∧ H t = some (.tup [.int (k x).1, .int (k x).2.1, .int (k x).2.2])) ∧
  ∀ ys p, SrtO.Srtd (fun v u => ltT (k v) (k u)) ys → ys.Perm xs → H p = none → Q (.ref p) (upd H p (.lst ys))
section
variable {X : Cx}
theorem cr_sort3 : CallR X (.builtin "sorted") (rSort3 X.K) := by
  intro pins s σ H vs us Q I r h
  obtain ⟨a, xs, k, rfl, hs, hx, q⟩ := h
  obtain ⟨its, rv, hl, hz⟩ : ∃ its, Vals xs its ∧ ColSeq s.heap a its ∧ its.length ≤ sizeLine := by
    rcases hs with hs | hs
    · obtain ⟨its, rv, hl, hz⟩ := I.list hs
      obtain ⟨o, ho, hc, n, hd⟩ := hl.isList
      exact ⟨its, rv, ⟨o, "list", ho, hc, .inl rfl, n, hd⟩, by rw [← rv.length]; exact hz⟩
    · obtain ⟨its, rv, hl, hz⟩ := I.tuple hs
      obtain ⟨o, ho, hc, n, hd⟩ := hl
      exact ⟨its, rv, ⟨o, "tuple", ho, hc, .inr rfl, n, hd⟩, by rw [← rv.length]; exact hz⟩
  obtain ⟨u, rfl, ru⟩ := vals1 r
  obtain rfl : u = Value.ref a := ru
  obtain ⟨e1, e2⟩ := refs_back rv fun x m => by
    obtain ⟨t, e, _⟩ := hx x m
    exact ⟨t, e⟩
  refine sorted_tris (k := fun u => k (backV u)) hl hz (fun v hv => ?_) fun h' d out h1 h2 kp hd hn => ?_
  · obtain ⟨t, rfl⟩ := e2 v hv
    have hm : V.ref t ∈ xs := by rw [e1]; exact List.mem_map.mpr ⟨_, hv, rfl⟩
    obtain ⟨t', e, ht⟩ := hx _ hm
    cases e
    obtain ⟨_, its2, r2, o, ho, hc, n, hd⟩ := I.hok _ _ ht
    obtain ⟨u1, u2, u3, rfl, ri, rj, rk⟩ : ∃ u w' t', its2 = [u, w', t'] ∧ RelV _ u ∧ RelV _ w' ∧ RelV _ t' := by
      cases r2 with
      | cons a r => cases r with
        | cons b r => cases r with
          | cons c r => cases r; exact ⟨_, _, _, rfl, a, b, c⟩
    obtain ⟨t1, rfl⟩ := ri
    obtain ⟨t2, rfl⟩ := rj
    obtain ⟨t3, rfl⟩ := rk
    exact ⟨t, o, t1, t2, t3, n, rfl, ho, hc, hd⟩
  · have h3 : ∀ u ∈ out, ∃ a, u = Value.ref a := fun u hu => e2 u (h2.perm.mem_iff.mp hu)
    obtain ⟨n, hn⟩ := hn
    have hb : (out.map backV).Perm xs := by
      rw [e1]
      exact h2.perm.map backV
    refine ⟨.ref d, upd H d (.lst (out.map backV)), I.laid (t' := s.toks) kp hd ⟨?_, out, n, vals_back h3, hn⟩, rfl, q _ d (SrtO.srtd_map h1) hb (I.hok.fresh hd)⟩
    rw [hb.length_eq, rv.length]
    exact hz
end
/-! ### sort3 -/
theorem insT_perm (a : T3) : ∀ l : List T3, (insT a l).Perm (a :: l)
  | [] => List.Perm.refl _
  | b :: r => by
    unfold insT
    split
    · exact ((insT_perm a r).cons b).trans (List.Perm.swap a b r)
    · exact List.Perm.refl _
theorem sort3_perm : ∀ l : List T3, (sort3 l).Perm l
  | [] => List.Perm.refl _
  | a :: r => (insT_perm a _).trans ((sort3_perm r).cons a)
def SrT (l : List T3) : Prop := l.Pairwise fun a b => ltT b a = false
theorem insT_srt (a : T3) : ∀ l : List T3, SrT l → SrT (insT a l)
  | [], _ => List.pairwise_singleton _ _
  | b :: r, h => by
    unfold insT
    have hb := List.pairwise_cons.mp h
    split
    · rename_i hlt
      refine List.pairwise_cons.mpr ⟨fun c hc => ?_, insT_srt a r hb.2⟩
      rcases List.mem_cons.mp ((insT_perm a r).mem_iff.mp hc) with rfl | hc
      · exact (swo_T id).asym _ _ hlt
      · exact hb.1 c hc
    · rename_i hlt
      have hlt' : ltT b a = false := by simpa using hlt
      refine List.pairwise_cons.mpr ⟨fun c hc => ?_, h⟩
      rcases List.mem_cons.mp hc with rfl | hc
      · exact hlt'
      · exact (swo_T id).tr a b c hlt' (hb.1 c hc)
theorem sort3_srt : ∀ l : List T3, SrT (sort3 l)
  | [] => List.Pairwise.nil
  | a :: r => insT_srt a _ (sort3_srt r)
theorem srt_uniq {l m : List T3} (hl : SrT l) (hm : SrT m) (h : l.Perm m) : l = m :=
  h.eq_of_pairwise (le := fun a b => ltT b a = false) (fun a b _ _ h1 h2 => by
    have h1 := ltT_no.mp h1
    have h2 := ltT_no.mp h2
    obtain ⟨a1, a2, a3⟩ := a
    obtain ⟨b1, b2, b3⟩ := b
    dsimp only at h1 h2
    have e1 : a1 = b1 := by omega
    have e2 : a2 = b2 := by omega
    have e3 : a3 = b3 := by omega
    rw [e1, e2, e3]) hl hm
theorem sort3_of {l m : List T3} (hm : SrT m) (h : m.Perm l) : m = sort3 l := srt_uniq hm (sort3_srt l) (h.trans (sort3_perm l).symm)
end Sw
/-! sorted of triples, len(set(..)) of triples, as rules of the data layer. -/
namespace Sw
open PySem PySem.Spec L2
section
variable {X : Cx} {C : Addr} {ds ds' : Dsl} {O O' O1 O2 O3 : Led} {e a b c : Expr} {d x y z : Dat} {E : En} {D : Ends} {F F' H H' : Hp} {σ : L2.St} {p p2 q pos : Pos} {k k' : Bool} {es : List Expr}
/-- the triple that stands at a value -/
def triAt (H : Hp) (v : V) : T3 := match v with
  | .ref a => match H a with
    | some (.tup [.int x, .int y, .int z]) => (x, y, z)
    | _ => (0, 0, 0)
  | _ => (0, 0, 0)
theorem t3_at {K : PySem.W.Frag} {v : V} {t : T3} (h : Dv K C F v (t3 t)) : ∃ a, v = .ref a ∧ F a = some (.tup [.int t.1, .int t.2.1, .int t.2.2]) := by
  unfold t3 at h
  cases h with
  | tup h1 h2 =>
    cases h2 with
    | cons a r => cases r with
      | cons b r => cases r with
        | cons c r => cases r; cases a; cases b; cases c; exact ⟨_, rfl, h1⟩
theorem triAt_eq {K : PySem.W.Frag} {v : V} {t : T3} (h : Dv K C F v (t3 t)) : triAt F v = t := by
  obtain ⟨a, rfl, e⟩ := t3_at h
  unfold triAt
  simp only [e]
theorem tris_at {K : PySem.W.Frag} : ∀ {vs : List V} {L : List T3}, DvAll K C F vs (L.map t3) → vs.map (triAt F) = L
  | [], [], _ => rfl
  | v :: vs, t :: L, h => by
    cases h with
    | cons h1 h2 => rw [List.map_cons, triAt_eq h1, tris_at h2]
  | [], t :: L, h => nomatch h
  | v :: vs, [], h => nomatch h
theorem tri_mem {K : PySem.W.Frag} : ∀ {vs : List V} {L : List T3}, DvAll K C F vs (L.map t3) → ∀ v ∈ vs, ∃ t, Dv K C F v (t3 t)
  | [], _, _, v, h => nomatch h
  | u :: vs, t :: L, h, v, hv => by
    cases h with
    | cons h1 h2 =>
      rcases List.mem_cons.mp hv with rfl | hv
      · exact ⟨t, h1⟩
      · exact tri_mem h2 v hv
  | v :: vs, [], h, _, _ => nomatch h
theorem dv_tris {K : PySem.W.Frag} : ∀ {ys : List V}, (∀ v ∈ ys, ∃ t, Dv K C F v (t3 t)) → DvAll K C F ys ((ys.map (triAt F)).map t3)
  | [], _ => .nil
  | y :: ys, h => by
    obtain ⟨t, ht⟩ := h y List.mem_cons_self
    refine .cons ?_ (dv_tris fun v hv => h v (List.mem_cons_of_mem _ hv))
    rw [triAt_eq ht]
    exact ht
/-- a list or a tuple -/
inductive SeqD (O : Led) : Dat → List Dat → Prop
  | lst {x : Dat} {xs : List Dat} (h : LstD O x xs) : SeqD O x xs
  | tup (xs : List Dat) : SeqD O (.tup xs) xs
theorem SeqD.at_ {K : PySem.W.Frag} {v : V} {xs : List Dat} (h : SeqD O x xs) (ok : Ok K C F O H) (hd : Dv K C F v x) : ∃ p vs, v = .ref p ∧ (SqL K H p vs ∨ SqT K H p vs) ∧ DvAll K C F vs xs := by
  cases h with
  | lst h =>
    obtain ⟨p, vs, e, h1, h2⟩ := h.at_ ok hd
    exact ⟨p, vs, e, .inl (SqL.of h1), h2⟩
  | tup xs =>
    cases hd with
    | tup h1 h2 => exact ⟨_, _, rfl, .inr (SqT.of (ok.ex _ _ h1)), h2⟩
theorem ed_sorted3 {L : List T3} (hm : X.mg "sorted" = none) (h : AD X C ds O (e :: es) [x] O1) (hx : SeqD O1 x (L.map t3)) (hp : Pl X e es pos := by exact ⟨rfl, rfl⟩) (hg : Gl X "sorted" := by rfl) : ED X C ds O (.Call (.Name "sorted" p) (e :: es) [] pos) (.lst ((sort3 L).map t3)) O1 :=
  ed_cb cr_sort3 hg hm (by decide +kernel) h hp fun H F vs ok d Q q => by
    obtain ⟨v, rfl, dv⟩ := all1 d
    obtain ⟨p1, us, rfl, h1, h2⟩ := hx.at_ ok dv
    refine ⟨p1, us, triAt F, rfl, h1, fun u hu => ?_, fun ys l hs hb hl => ?_⟩
    · obtain ⟨t, ht⟩ := tri_mem h2 u hu
      rw [triAt_eq ht]
      obtain ⟨a, e, ha⟩ := t3_at ht
      exact ⟨a, e, ok.ex _ _ ha⟩
    · have hF := ok.ex.free hl
      refine q (.ref l) _ _ (Grow.frz hl hF) ok.ex.upd2 (dv_newL (X := X) hF ?_)
      have e : ys.map (triAt F) = sort3 L := sort3_of (List.pairwise_map.mpr hs) (by rw [← tris_at h2]; exact hb.map _)
      rw [← e]
      exact dv_tris fun v hv => tri_mem h2 v (hb.mem_iff.mp hv)
/-! ### len(set(xs)), the triples distinct -/
def rLenSetT (P : Program) (w : World) : List V → Hp → VK → Prop := fun vs H Q => ∃ (a : Addr) (L : List (Addr × List Int)), vs = [V.ref a] ∧ H a = some (SetTO P w a L) ∧ ((L.map (·.2)).Nodup → Q (.int L.length) H)
theorem cr_lenSetT : CallR X (.builtin "len") (rLenSetT X.prog X.w) := by
  intro pins s σ H vs us Q I r h
  obtain ⟨a, L, rfl, ha, q⟩ := h
  have R0 : SetT0 X.prog X.w s.heap a L := (I.hok a _ ha).1
  rw [Vals.ref1 r]
  obtain ⟨es, ep, t, ⟨o, ho, hex, hd⟩, hr, T, nd, hpl, hled, room, few⟩ := R0.ex
  have hsz : es.size = L.length := by
    have h := congrArg List.length hr
    unfold rowsOf at h
    rw [Array.length_toList, List.length_map] at h
    exact h
  have hfit : t.fits es.size = true := by
    have h1 := T.sz
    rw [List.length_map] at h1
    unfold SetTable.fits SetTable.fill
    rw [T.dm, Bool.and_eq_true, beq_iff_eq, decide_eq_true_eq]
    show t.place.size = es.size ∧ t.place.size + 0 ≤ t.mask
    omega
  refine call_len_set ho hex hd hfit (by rw [hsz]; omega) ⟨.int L.length, H, I.tok _, ⟨_, by rw [hsz]⟩, q nd⟩
theorem nodup_map {α β : Type} {f : α → β} (hf : ∀ a b, f a = f b → a = b) : ∀ {l : List α}, l.Nodup → (l.map f).Nodup
  | [], _ => List.nodup_nil
  | a :: l, h => by
    have h' := List.nodup_cons.mp h
    refine List.nodup_cons.mpr ⟨fun m => ?_, nodup_map hf h'.2⟩
    obtain ⟨b, hb, e⟩ := List.mem_map.mp m
    exact h'.1 (hf _ _ e ▸ hb)
theorem keys_of {K : PySem.W.Frag} : ∀ {us : List V} {L : List T3}, DvAll K C F us (L.map t3) → ∃ ks : List (Addr × List Int), us = (ks.map fun p => V.ref p.1) ∧ ks.map (·.2) = L.map tKey ∧ ∀ p ∈ ks, F p.1 = some (.tup (p.2.map V.int))
  | [], [], _ => ⟨[], rfl, rfl, fun _ h => nomatch h⟩
  | u :: us, t :: L, h => by
    cases h with
    | cons h1 h2 =>
      obtain ⟨a, rfl, ea⟩ := t3_at h1
      obtain ⟨ks, e1, e2, e3⟩ := keys_of h2
      refine ⟨(a, tKey t) :: ks, by rw [e1]; rfl, by rw [List.map_cons, List.map_cons, e2], fun p hp => ?_⟩
      rcases List.mem_cons.mp hp with rfl | hp
      · exact ea
      · exact e3 p hp
  | [], t :: L, h => nomatch h
  | v :: vs, [], h => nomatch h
theorem ed_lenSet3 {L : List T3} (hc : X.calm = true) (hu : X.A.units + 64 < cLine) (hm : X.mg "len" = none) (hm2 : X.mg "set" = none) (h : ED X C ds O e x O1) (hx : LstD O1 x (L.map t3)) (hl : L.length < 64) (nd : L.Nodup) (hg : Gl X "len" := by rfl) (hg2 : Gl X "set" := by rfl)
    (na : starEach [e] X.env = (false, eval e X.env) :: starEach [] X.env := by rfl) (na2 : starEach [.Call (.Name "set" p2) [e] [] q] X.env = (false, eval (.Call (.Name "set" p2) [e] [] q) X.env) :: starEach [] X.env := by rfl) :
    ED X C ds O (.Call (.Name "len" p) [.Call (.Name "set" p2) [e] [] q] [] pos) (.int L.length) O1 :=
  ed_of (pe_callB cr_lenSetT hg hm PySem.boot_len (pa_cons (pe_callTy (cr_setOfT hc hu) hg2 hm2 (by decide +kernel) (pa_cons pe_w pa_nil na) (by decide) (by decide) na rfl) pa_nil na2) (by decide) (by decide) na2 rfl) h.dm fun σ H F ok env Q Q' => h.run σ H F ok env _ fun v H1 F1 g1 ok1 d1 => by
    obtain ⟨p1, us, rfl, h1, h2⟩ := hx.at_ ok1 d1
    obtain ⟨ks, e1, e2, e3⟩ := keys_of h2
    refine ⟨p1, ks, rfl, by rw [← e1]; exact SqL.of h1, fun p hp => SqT.of (ok1.ex _ _ (e3 p hp)), ?_, fun a M ha hM hK => ?_⟩
    · have := congrArg List.length e2
      simp only [List.length_map] at this
      omega
    · refine ⟨a, M, rfl, upd_same, fun nM => ?_⟩
      have pm : (M.map (·.2)).Perm (ks.map (·.2)) := (List.perm_ext_iff_of_nodup nM (by rw [e2]; exact nodup_map (fun _ _ h => tKey_inj h) nd)).mpr fun z => ⟨fun hz => by
        obtain ⟨p, hp, rfl⟩ := List.mem_map.mp hz
        exact List.mem_map.mpr ⟨p, hM p hp, rfl⟩, fun hz => by
        obtain ⟨p, hp, rfl⟩ := List.mem_map.mp hz
        exact hK p hp⟩
      have hl2 := pm.length_eq
      rw [e2] at hl2
      simp only [List.length_map] at hl2
      rw [hl2]
      have hF := ok1.ex.free ha
      exact Q' _ _ F1 (g1.trans (Grow.own (D := []) ha) fun _ m => by simp at m) (ok1.grow0 (Grow.own ha) (ok1.ex.side hF)) (.int _)
end
end Sw
/-! What the walks share: the built-ins' names, ranges, options as data. -/
namespace Sw
open PySem PySem.Spec L2
structure Tx (mg : Str → Option Value) : Prop where
  abs : mg "abs" = none
  max : mg "max" = none
  min : mg "min" = none
  int : mg "int" = none
  len : mg "len" = none
  sorted : mg "sorted" = none
  list : mg "list" = none
  tuple : mg "tuple" = none
  range : mg "range" = none
  enumerate : mg "enumerate" = none
  zip : mg "zip" = none
  all : mg "all" = none
  any : mg "any" = none
  set : mg "set" = none
  MOST_STARS : ∃ t, mg "MOST_STARS" = some (.int 20 t)
  MOST_SPOTS : ∃ t, mg "MOST_SPOTS" = some (.int 60 t)
def optD {α : Type} (enc : α → Dat) : Option α → Dat
  | none => .non
  | some a => enc a
theorem isNon_opt {α : Type} {enc : α → Dat} (h : ∀ a, isNon (enc a) = false) (o : Option α) : isNon (optD enc o) = o.isNone := by
  cases o with
  | none => rfl
  | some a => exact h a
section
variable {X : Cx} {C : Addr} {ds : Dsl} {O O1 : Led} {e tg : Expr} {p pos : Pos}
theorem it_rangeI {i : Int} (hm : X.mg "range" = none) (h : ED X C ds O e (.int i) O1) (h0 : 0 ≤ i) (hn : i ≤ 100000) (hg : Gl X "range" := by rfl) (na : starEach [e] X.env = [(false, eval e X.env)] := by rfl) : IT X C ds O tg (.Call (.Name "range" p) [e] [] pos) ((upto i.toNat).map Dat.int) O1 :=
  it_range hm (ed_conv h (by rw [Int.toNat_of_nonneg h0])) (by omega) hg na
end
theorem cs {X : Cx} {C : Addr} {scope : Scope} {O : Led} {c : Expr} {α : Type} (L : List α) {d1 : α → Dsl} {t : α → Bool} (h : ∀ a ∈ L, ∀ s H C' cl fp, BD (Blk X s H scope C' cl fp) C (d1 a) O c (t a) O) : ∀ r ∈ L.map (fun a => (d1 a, t a)), ∀ s H C' cl fp, BD (Blk X s H scope C' cl fp) C r.1 O c r.2 O := fun r hr => by
  obtain ⟨a, ha, rfl⟩ := List.mem_map.mp hr
  exact h a ha
theorem cdn {α : Type} {L : List α} {d1 : α → Dsl} : ∀ r ∈ L.map (fun a => (d1 a, true)), r.2 = true := fun r hr => by
  obtain ⟨a, ha, rfl⟩ := List.mem_map.mp hr
  rfl
theorem upto_len (n : Nat) : (upto n).length = n := by simp [upto]
theorem cmulS {a b : Int} (h : -(2 ^ 64) < a ∧ a < 2 ^ 64) : CMul a b := .inl h
/-- the end of a body that hands back None -/
theorem sds_fall {X : Cx} {C : Addr} {ds : Dsl} {O : Led} {E : En} {post : Dat → Led → Prop} {rt : VK} {bk ct : L2.St → Hp → Prop} (h : post .non O) : SDs X (At X C E ds O) [] ⟨fun _ H' => Rt X C E post .non H', rt, bk, ct⟩ :=
  sds_nil fun σ H ⟨F, p⟩ => ⟨F, .non, O, p.g, p.ok, .non, h⟩
/-! ### methods -/
structure Mtd (P : Program) (w : World) (K : PySem.W.Frag) (mg : Str → Option Value) (base : Heap) (C : Addr) (k : Nat) (m : Str) (ps : List Str) (sp : Sp) : Prop where
  ex : ∃ f fd, Meth K C m f ∧ FnOk P w K mg base CX0 k f fd ps sp ∧ Binds K fd ps []
theorem ed_methS {X : Cx} {C : Addr} {ds : Dsl} {O O1 O2 : Led} {o e : Expr} {es : List Expr} {apos pos : Pos} {m : Str} {kk : Nat} {ps : List Str} {r : List Dat → Dat → Prop} {s : SkyD} {xs : List Dat} {z : Dat} {pl : Sem Bool} (cl : Cls X.K C) (M : Mtd X.prog X.w X.K X.mg X.base C kk m ps (spP X.K C r)) (hr : Room kk X.A)
    (ho : ED X C ds O o (.sky s) O1) (ha : AD X C ds O1 (e :: es) xs O2) (hz : r (.sky s :: xs) z) (hn : ∀ n p q, (skyF n p q).lookup m = none := by intros; rfl)
    (hst : starEach (e :: es) X.env = (false, eval e X.env) :: starEach es X.env := by rfl) (hpl : (backTo pos (starEach es X.env)).any (·.1) = false := by rfl)
    (ht : eval (.Call (.Attribute o m apos) (e :: es) [] pos) X.env = (do
      let ov ← eval o X.env
      standAt apos.atName
      let (f, first) ← holding [ov] (getMethod ov m pl)
      callWith pos f first (backTo pos (starEach (e :: es) X.env)) (backToKw pos (keywordEach [] X.env))) := by rfl) : ED X C ds O (.Call (.Attribute o m apos) (e :: es) [] pos) z O2 := by
  obtain ⟨f, fd, h1, h2, h3⟩ := M.ex
  refine ed_of (pe_meth pe_w cl h1 h2 hr h3 .nil pass0 pa_w hst hpl ht) (ha.dm.trans ho.dm) fun σ H F ok env Q q => ho.run σ H F ok env _ fun v H1 F1 g1 ok1 d1 => ?_
  obtain ⟨a, dx, p1, p2, rfl, e1⟩ : ∃ a dx p q, v = .ref a ∧ F1 a = some (.ins C dx (skyF s.side p q)) := by
    cases d1 with
    | sky h1 h2 h3 h4 => exact ⟨_, _, _, _, rfl, h1⟩
  refine ⟨a, dx, _, rfl, ok1.ex _ _ e1, hn _ _ _, ?_⟩
  refine ha.run σ H1 F1 ok1 (env.mono g1.ex) _ fun vs H2 F2 g2 ok2 d2 => ?_
  show spP X.K C r (.ref a :: (vs ++ [])) H2 _ _
  rw [List.append_nil]
  refine sp_pure ok2 (.cons (d1.mono g2.ex) d2) hz Q fun v H' F' g e' hd => q v H' F' ((g1.trans g2 fun _ m => .inl (by rw [← ho.dm]; exact m)).trans g fun _ m => by simp at m) (ok2.grow0 g e') hd
/-! ### comprehensions with no test -/
section
variable {X : Cx} {C : Addr} {ds : Dsl} {O O1 : Led} {elt tg iter : Expr} {pos : Pos} {scope : Scope}
theorem ed_lcM {α : Type} (L : List α) (enc : α → Dat) (sh : Dsl → Dat → Option Dsl) (d1 : α → Dsl) (g : α → Dat) (own : List (Str × Nat)) {items : List Dat} (hi : IT X C ds O tg iter items O1) (hN : X.N.Nodup) (ok : BlkOk X.N X.env.scope scope own)
    (hg : GBt X C scope (own.map (·.2)) tg sh) (hs : ∀ a ∈ L, sh (wipeD ds (own.map (·.2))) (enc a) = some (d1 a))
    (he : ∀ a ∈ L, ∀ s H C' cl fp, ED (Blk X s H scope C' cl fp) C (d1 a) O1 elt (g a) O1) (hlen : L.length ≤ 100000) (hit : items = L.map enc := by rfl) (hc : X.calm = true := by rfl) (hfs : ∀ x, foldedSetIterable iter X.env x = pure x := by intro _; rfl) :
    ED X C ds O (.ListComp elt [⟨tg, iter, [], 0⟩] scope pos) (.lst (L.map g)) O1 :=
  ed_conv (ed_lc L enc sh d1 (fun _ => true) g own hi hN ok hg hs (cd_nil cdn) (fun a ha _ => he a ha) hlen hit hc hfs) (by rw [List.filter_eq_self.mpr fun _ _ => rfl])
theorem ed_lcB {α : Type} (L : List α) (enc : α → Dat) (sh : Dsl → Dat → Option Dsl) (d1 : α → Dsl) (b : α → Bool) (own : List (Str × Nat)) {items : List Dat} (hi : IT X C ds O tg iter items O1) (hN : X.N.Nodup) (ok : BlkOk X.N X.env.scope scope own)
    (hg : GBt X C scope (own.map (·.2)) tg sh) (hs : ∀ a ∈ L, sh (wipeD ds (own.map (·.2))) (enc a) = some (d1 a))
    (he : ∀ a ∈ L, ∀ s H C' cl fp, ED (Blk X s H scope C' cl fp) C (d1 a) O1 elt (.bl (b a)) O1) (hlen : L.length ≤ 100000) (hit : items = L.map enc := by rfl) (hc : X.calm = true := by rfl) (hfs : ∀ x, foldedSetIterable iter X.env x = pure x := by intro _; rfl) :
    ED X C ds O (.ListComp elt [⟨tg, iter, [], 0⟩] scope pos) (.lst ((L.map b).map Dat.bl)) O1 :=
  ed_conv (ed_lcM L enc sh d1 (fun a => .bl (b a)) own hi hN ok hg hs he hlen hit hc hfs) (by rw [List.map_map]; rfl)
end
theorem flat_len {α β : Type} {f : α → List β} {c : Nat} (h : ∀ x, (f x).length = c) : ∀ l : List α, (l.flatMap f).length = l.length * c
  | [] => by simp
  | a :: l => by
    rw [List.flatMap_cons, List.length_append, h, flat_len h l, List.length_cons, Nat.add_mul]
    omega
theorem hu65 {k : Nat} {A : Around} (r : Room k A) : A.units + 65 < cLine := by have := r.un; omega
theorem neg_rest {α : Type} (p : α → Bool) (pre : List α) (a : α) (h : p a = false) : (pre ++ [a]).filter p = pre.filter p := by
  rw [List.filter_append, List.filter_cons_of_neg (by simp [h]), List.filter_nil, List.append_nil]
theorem pos_rest {α : Type} (p : α → Bool) (pre : List α) (a : α) (h : p a = true) : (pre ++ [a]).filter p = pre.filter p ++ [a] := by
  rw [List.filter_append, List.filter_cons_of_pos h, List.filter_nil]
theorem zip_enum {α : Type} (L : List α) (enc : α → Dat) : enumD (L.map enc) = L.zipIdx.map fun p => .tup [.int (p.2 : Nat), enc p.1] := by
  unfold enumD
  rw [List.zipIdx_map, List.map_map]
  rfl
theorem pre_len {α : Type} {L pre post : List α} {a : α} (h : L = pre ++ a :: post) : pre.length < L.length := by
  rw [h, List.length_append, List.length_cons]
  omega
end Sw
/-! The data layer: dicts. -/
namespace Sw
open PySem PySem.Spec L2
/-! ### pairs -/
section
variable {κ κ' : Type} [DecidableEq κ] [DecidableEq κ'] {K : PySem.W.Frag} {C : Addr} {F : Hp}
def lookD (kvs : List (κ × Dat)) (k : κ) : Option Dat := (kvs.find? fun p => decide (p.1 = k)).map (·.2)
def putD (kvs : List (κ × Dat)) (k : κ) (d : Dat) : List (κ × Dat) :=
  if (kvs.any fun p => decide (p.1 = k)) = true then kvs.map (fun p => if p.1 = k then (p.1, d) else p) else kvs ++ [(k, d)]
def dropD (kvs : List (κ × Dat)) (k : κ) : List (κ × Dat) := kvs.filter fun p => decide (p.1 ≠ k)
structure RelK (K : PySem.W.Frag) (C : Addr) (F : Hp) (f : κ → κ') (zs : List (κ' × V)) (kvs : List (κ × Dat)) : Prop where
  k : zs.map (·.1) = kvs.map (fun q => f q.1)
  v : DvAll K C F (zs.map (·.2)) (kvs.map (·.2))
theorem RelK.nil {f : κ → κ'} : RelK K C F f [] [] := ⟨rfl, .nil⟩
theorem RelK.cons {f : κ → κ'} {zs : List (κ' × V)} {kvs : List (κ × Dat)} {k : κ} {v : V} {d : Dat} (h : RelK K C F f zs kvs) (hd : Dv K C F v d) : RelK K C F f ((f k, v) :: zs) ((k, d) :: kvs) :=
  ⟨by rw [List.map_cons, List.map_cons, h.k], .cons hd h.v⟩
theorem RelK.uncons {f : κ → κ'} {z : κ' × V} {zs : List (κ' × V)} {q : κ × Dat} {kvs : List (κ × Dat)} (h : RelK K C F f (z :: zs) (q :: kvs)) : z.1 = f q.1 ∧ Dv K C F z.2 q.2 ∧ RelK K C F f zs kvs := by
  have h1 := h.k
  have h2 := h.v
  rw [List.map_cons, List.map_cons] at h1 h2
  cases h2 with
  | cons a b => exact ⟨(List.cons.inj h1).1, a, (List.cons.inj h1).2, b⟩
theorem RelK.len {f : κ → κ'} {zs : List (κ' × V)} {kvs : List (κ × Dat)} (h : RelK K C F f zs kvs) : zs.length = kvs.length := by
  have := congrArg List.length h.k
  simpa using this
theorem RelK.ind {f : κ → κ'} {P : List (κ' × V) → List (κ × Dat) → Prop} (h0 : P [] []) (h1 : ∀ z zs q kvs, z.1 = f q.1 → Dv K C F z.2 q.2 → RelK K C F f zs kvs → P zs kvs → P (z :: zs) (q :: kvs)) : ∀ {zs : List (κ' × V)} {kvs : List (κ × Dat)}, RelK K C F f zs kvs → P zs kvs
  | [], [], _ => h0
  | z :: zs, q :: kvs, h => by
    obtain ⟨a, b, c⟩ := h.uncons
    exact h1 z zs q kvs a b c (RelK.ind h0 h1 c)
  | [], _ :: _, h => by have := h.len; simp at this
  | _ :: _, [], h => by have := h.len; simp at this
variable {f : κ → κ'} (hf : ∀ a b, f a = f b → a = b)
include hf
theorem RelK.val {zs : List (κ' × V)} {kvs : List (κ × Dat)} (h : RelK K C F f zs kvs) (k : κ) : match lookD kvs k with
    | none => valV zs (f k) = none
    | some d => ∃ v, valV zs (f k) = some v ∧ Dv K C F v d := by
  refine h.ind (P := fun zs kvs => match lookD kvs k with | none => valV zs (f k) = none | some d => ∃ v, valV zs (f k) = some v ∧ Dv K C F v d) ?_ ?_
  · exact rfl
  · intro z zs q kvs a b c ih
    by_cases e : q.1 = k
    · have e2 : z.1 = f k := by rw [a, e]
      have e3 : lookD (q :: kvs) k = some q.2 := by simp [lookD, List.find?_cons, e]
      rw [e3, valV_pos e2]
      exact ⟨z.2, rfl, b⟩
    · have e2 : ¬ z.1 = f k := fun y => e (hf _ _ (a.symm.trans y))
      have e3 : lookD (q :: kvs) k = lookD kvs k := by simp [lookD, List.find?_cons, e]
      rw [e3, valV_neg e2]
      exact ih
theorem RelK.anyK {zs : List (κ' × V)} {kvs : List (κ × Dat)} (h : RelK K C F f zs kvs) (k : κ) : (zs.any fun kv => decide (kv.1 = f k)) = kvs.any fun p => decide (p.1 = k) := by
  refine h.ind (P := fun zs kvs => (zs.any fun kv => decide (kv.1 = f k)) = kvs.any fun p => decide (p.1 = k)) rfl ?_
  intro z zs q kvs a b c ih
  rw [List.any_cons, List.any_cons, ih]
  congr 1
  rw [Bool.eq_iff_iff, decide_eq_true_iff, decide_eq_true_iff, a]
  exact ⟨hf _ _, fun e => by rw [e]⟩
theorem RelK.put {zs : List (κ' × V)} {kvs : List (κ × Dat)} (h : RelK K C F f zs kvs) (k : κ) {v : V} {d : Dat} (hd : Dv K C F v d) : RelK K C F f (putK zs (f k) v) (putD kvs k d) := by
  unfold putK putD
  rw [h.anyK hf k]
  split
  · refine h.ind (P := fun zs kvs => RelK K C F f (zs.map fun kv => if kv.1 = f k then (kv.1, v) else kv) (kvs.map fun p => if p.1 = k then (p.1, d) else p)) RelK.nil ?_
    intro z zs q kvs a b c ih
    rw [List.map_cons, List.map_cons]
    by_cases e : q.1 = k
    · have e2 : z.1 = f k := by rw [a, e]
      rw [if_pos e, if_pos e2, a]
      exact ih.cons hd
    · have e2 : ¬ z.1 = f k := fun y => e (hf _ _ (a.symm.trans y))
      rw [if_neg e, if_neg e2]
      have : z = (f q.1, z.2) := by rw [← a]
      rw [this]
      exact ih.cons (k := q.1) b
  · refine h.ind (P := fun zs kvs => RelK K C F f (zs ++ [(f k, v)]) (kvs ++ [(k, d)])) (RelK.nil.cons hd) ?_
    intro z zs q kvs a b c ih
    have : z = (f q.1, z.2) := by rw [← a]
    rw [List.cons_append, List.cons_append, this]
    exact ih.cons (k := q.1) b
theorem RelK.drop {zs : List (κ' × V)} {kvs : List (κ × Dat)} (h : RelK K C F f zs kvs) (k : κ) : RelK K C F f (dropK zs (f k)) (dropD kvs k) := by
  unfold dropK dropD
  refine h.ind (P := fun zs kvs => RelK K C F f (zs.filter fun kv => decide (kv.1 ≠ f k)) (kvs.filter fun p => decide (p.1 ≠ k))) RelK.nil ?_
  intro z zs q kvs a b c ih
  by_cases e : q.1 = k
  · have e2 : z.1 = f k := by rw [a, e]
    rw [List.filter_cons_of_neg (p := fun kv : κ' × V => decide (kv.1 ≠ f k)) (show ¬ decide (z.1 ≠ f k) = true from fun h => absurd e2 (of_decide_eq_true h)), List.filter_cons_of_neg (p := fun p : κ × Dat => decide (p.1 ≠ k)) (show ¬ decide (q.1 ≠ k) = true from fun h => absurd e (of_decide_eq_true h))]
    exact ih
  · have e2 : ¬ z.1 = f k := fun y => e (hf _ _ (a.symm.trans y))
    rw [List.filter_cons_of_pos (p := fun kv : κ' × V => decide (kv.1 ≠ f k)) (show decide (z.1 ≠ f k) = true from decide_eq_true e2), List.filter_cons_of_pos (p := fun p : κ × Dat => decide (p.1 ≠ k)) (show decide (q.1 ≠ k) = true from decide_eq_true e)]
    have : z = (f q.1, z.2) := by rw [← a]
    rw [this]
    exact ih.cons (k := q.1) b
end
theorem inl_inj (a b : Int) (h : (Sum.inl a : Key) = Sum.inl b) : a = b := by injection h
theorem keyT_inj : ∀ a b : List Int, keyT a = keyT b → a = b
  | [], [], _ => rfl
  | a :: as, b :: bs, h => by
    have h' : (Sum.inl a : Key) :: keyT as = Sum.inl b :: keyT bs := h
    obtain ⟨h1, h2⟩ := List.cons.inj h'
    rw [inl_inj _ _ h1, keyT_inj as bs h2]
  | [], _ :: _, h => nomatch (show ([] : List Key) = _ :: _ from h)
  | _ :: _, [], h => nomatch (show (_ :: _ : List Key) = [] from h)
/-- what a dict that may change holds at a key -/
inductive DkD : MO → Dat → Option Dat → Prop
  | i (kvs : List (Int × Dat)) (k : Int) : DkD (.dI kvs) (.int k) (lookD kvs k)
  | t (kvs : List (List Int × Dat)) (k : List Int) : DkD (.dT kvs) (.tup (k.map .int)) (lookD kvs k)
inductive DkP : MO → Dat → Dat → MO → Prop
  | i (kvs : List (Int × Dat)) (k : Int) (d : Dat) : DkP (.dI kvs) (.int k) d (.dI (putD kvs k d))
  | t (kvs : List (List Int × Dat)) (k : List Int) (d : Dat) : DkP (.dT kvs) (.tup (k.map .int)) d (.dT (putD kvs k d))
inductive DicD (O : Led) : Dat → Dat → Option Dat → Prop
  | loc {p : Addr} {m : MO} {key : Dat} {o : Option Dat} (h : (p, m) ∈ O) (hd : DkD m key o) : DicD O (.loc p) key o
  | dic (kvs : List (Int × Dat)) (k : Int) : DicD O (.dic (kvs.map (·.1)) (kvs.map (·.2))) (.int k) (lookD kvs k)
  | dct (kvs : List (List Int × Dat)) (k : List Int) : DicD O (.dct (kvs.map (·.1)) (kvs.map (·.2))) (.tup (k.map .int)) (lookD kvs k)
section
variable {K : PySem.W.Frag} {C : Addr} {F H : Hp} {O : Led}
theorem ints_at : ∀ {vs : List V} {ns : List Int}, DvAll K C F vs (ns.map Dat.int) → vs = ns.map V.int
  | [], [], _ => rfl
  | v :: vs, n :: ns, h => by
    cases h with
    | cons a b =>
      cases a
      rw [ints_at b]
      rfl
  | [], _ :: _, h => nomatch h
  | _ :: _, [], h => nomatch h
theorem kV_ints (k : List Int) : (keyT k).map kV = k.map V.int := by
  unfold keyT
  rw [List.map_map]
  rfl
theorem tupKey {v : V} {k : List Int} (e : Ex F H) (h : Dv K C F v (.tup (k.map .int))) : ∃ b, v = .ref b ∧ H b = some (.tup ((keyT k).map kV)) := by
  cases h with
  | tup h1 h2 =>
    refine ⟨_, rfl, ?_⟩
    rw [kV_ints, ← ints_at h2]
    exact e _ _ h1
theorem getOf {o : Option V} {look : Option Dat} (h : match look with | none => o = none | some d => ∃ v, o = some v ∧ Dv K C F v d) : (look = none ∧ o = none) ∨ ∃ d v, look = some d ∧ o = some v ∧ Dv K C F v d := by
  cases look with
  | none => exact .inl ⟨rfl, h⟩
  | some d =>
    obtain ⟨v, e, hd⟩ := h
    exact .inr ⟨d, v, rfl, e, hd⟩
theorem DicD.get {x key : Dat} {look : Option Dat} {v u : V} (hx : DicD O x key look) (ok : Ok K C F O H) (dv : Dv K C F v x) (du : Dv K C F u key) : ∃ a o, v = .ref a ∧ DGet H a u o ∧ ((look = none ∧ o = none) ∨ ∃ d v, look = some d ∧ o = some v ∧ Dv K C F v d) := by
  cases hx with
  | loc h hd =>
    cases dv
    have m := ok.at_ _ h
    cases hd with
    | i kvs k =>
      obtain ⟨zs, e, r1, r2⟩ := m
      cases du
      exact ⟨_, _, rfl, DGet.k (k := Sum.inl k) e, getOf (RelK.val (f := fun i : Int => (Sum.inl i : Key)) inl_inj ⟨r1, r2⟩ k)⟩
    | t kvs k =>
      obtain ⟨zs, e, r1, r2⟩ := m
      obtain ⟨b, rfl, eb⟩ := tupKey ok.ex du
      exact ⟨_, _, rfl, DGet.t e eb, getOf (RelK.val (f := keyT) keyT_inj ⟨r1, r2⟩ k)⟩
  | dic kvs k =>
    cases dv with
    | dic e r1 r2 =>
      cases du
      exact ⟨_, _, rfl, (.inl ⟨_, Sum.inl k, .inr ⟨_, ok.ex _ _ e⟩, rfl, rfl⟩ : DGet _ _ _ _), getOf (RelK.val (f := fun i : Int => (Sum.inl i : Key)) inl_inj ⟨by rw [r1, List.map_map]; rfl, r2⟩ k)⟩
  | dct kvs k =>
    cases dv with
    | dct e r1 r2 =>
      obtain ⟨b, rfl, eb⟩ := tupKey ok.ex du
      exact ⟨_, _, rfl, (.inr ⟨_, keyT k, b, .inr ⟨_, ok.ex _ _ e⟩, rfl, eb, rfl⟩ : DGet _ _ _ _), getOf (RelK.val (f := keyT) keyT_inj ⟨by rw [r1, List.map_map]; rfl, r2⟩ k)⟩
end
section
variable {X : Cx} {C : Addr} {ds ds' : Dsl} {O O' O1 O2 O3 : Led} {e a b c o i : Expr} {d x y z key : Dat} {E : En} {D : Ends} {F F' H H' : Hp} {σ : L2.St} {p p2 q pos : Pos} {k k' : Bool} {es : List Expr} {look : Option Dat} {rest : List Stmt}
/-- d[k] -/
theorem ed_dget (hr : X.A.units + 64 < cLine) (ho : ED X C ds O o x O1) (hi : ED X C ds O1 i key O2) (hx : DicD O2 x key (some d)) (hs : NoSl i := by exact fun _ _ => rfl) : ED X C ds O (.Subscript o i pos) d O2 :=
  ed_of (pe_dget (by omega) pe_w pe_w hs) (hi.dm.trans ho.dm) fun σ H F ok env Q q => td2 ho hi ok env fun v u H' F' g ok' d1 d2 => by
    obtain ⟨a, ov, rfl, hg, h⟩ := hx.get ok' d1 d2
    rcases h with ⟨h, _⟩ | ⟨d', v, h1, rfl, h2⟩
    · cases h
    · cases h1
      exact ⟨a, v, rfl, hg, q v H' F' g ok' h2⟩
theorem bd_din (hr : X.A.units + 64 < cLine) (hi : ED X C ds O i key O1) (ho : ED X C ds O1 o x O2) (hx : DicD O2 x key look) (hm : behindInMarks .In o = false := by first | exact nobehind _ (by decide) (by decide) | rfl) : BD X C ds O (.Compare i [.In] [o] pos) look.isSome O2 :=
  bd_of (pt_cmp (pc_din (by omega) pe_w pe_w) hm) (ho.dm.trans hi.dm) fun σ H F ok env Q q => td2 hi ho ok env fun u v H' F' g ok' d1 d2 => by
    obtain ⟨a, ov, rfl, hg, h⟩ := hx.get ok' d2 d1
    refine ⟨a, ov, rfl, hg, _, rfl, ?_⟩
    rcases h with ⟨rfl, rfl⟩ | ⟨d', v, rfl, rfl, h2⟩ <;> exact q H' F' g ok'
theorem bd_dnin (hr : X.A.units + 64 < cLine) (hi : ED X C ds O i key O1) (ho : ED X C ds O1 o x O2) (hx : DicD O2 x key look) (hm : behindInMarks .NotIn o = false := by first | exact nobehind _ (by decide) (by decide) | rfl) : BD X C ds O (.Compare i [.NotIn] [o] pos) look.isNone O2 :=
  bd_of (pt_cmp (pc_dnotin (by omega) pe_w pe_w) hm) (ho.dm.trans hi.dm) fun σ H F ok env Q q => td2 hi ho ok env fun u v H' F' g ok' d1 d2 => by
    obtain ⟨a, ov, rfl, hg, h⟩ := hx.get ok' d2 d1
    refine ⟨a, ov, rfl, hg, _, rfl, ?_⟩
    rcases h with ⟨rfl, rfl⟩ | ⟨d', v, rfl, rfl, h2⟩ <;> exact q H' F' g ok'
theorem DicD.is {x : Dat} {v : V} {look : Option Dat} {K : PySem.W.Frag} (hx : DicD O x key look) (ok : Ok K C F O H) (dv : Dv K C F v x) : ∃ a, v = .ref a ∧ IsD H a := by
  cases hx with
  | loc h hd =>
    cases dv
    have m := ok.at_ _ h
    cases hd with
    | i kvs k =>
      obtain ⟨zs, e, r1, r2⟩ := m
      exact ⟨_, rfl, .inl ⟨zs, .inl e⟩⟩
    | t kvs k =>
      obtain ⟨zs, e, r1, r2⟩ := m
      exact ⟨_, rfl, .inr ⟨zs, .inl e⟩⟩
  | dic kvs k =>
    cases dv with
    | dic e r1 r2 => exact ⟨_, rfl, .inl ⟨_, .inr ⟨_, ok.ex _ _ e⟩⟩⟩
  | dct kvs k =>
    cases dv with
    | dct e r1 r2 => exact ⟨_, rfl, .inr ⟨_, .inr ⟨_, ok.ex _ _ e⟩⟩⟩
/-- d.get(k, None) -/
theorem ed_dget2 {f : Expr} {apos : Pos} (hr : X.A.units + 64 < cLine) (ho : ED X C ds O o x O) (hi : ED X C ds O i key O) (hf : ED X C ds O f z O) (hx : DicD O x key look)
    (m : M2 X o "get" apos i f pos := by exact ⟨rfl, rfl, rfl, rfl⟩) : ED X C ds O (.Call (.Attribute o "get" apos) [i, f] [] pos) (look.getD z) O :=
  ed_of (pe_dget2 (by omega) pe_w pe_w pe_w m) rfl fun σ H F ok env Q q => by
    refine ho.run σ H F ok env _ fun v H1 F1 g1 ok1 d1 => ?_
    obtain ⟨a, rfl, isd⟩ := hx.is ok1 d1
    refine ⟨a, rfl, isd, ?_⟩
    refine hi.run σ H1 F1 ok1 (env.mono g1.ex) _ fun u H2 F2 g2 ok2 d2 => ?_
    refine hf.run σ H2 F2 ok2 ((env.mono g1.ex).mono g2.ex) _ fun w H3 F3 g3 ok3 d3 => ?_
    obtain ⟨a', ov, e1, hg, h⟩ := hx.get ok3 ((d1.mono g2.ex).mono g3.ex) (d2.mono g3.ex)
    cases e1
    refine ⟨ov, hg, ?_⟩
    have g13 := (g1.trans g2 fun _ m => .inl m).trans g3 fun _ m => .inl m
    rcases h with ⟨rfl, rfl⟩ | ⟨d', v, rfl, rfl, h2⟩
    · exact q w H3 F3 g13 ok3 d3
    · exact q v H3 F3 g13 ok3 h2
/-- the entry behind a store -/
theorem DkP.put {K : PySem.W.Frag} {A B : Led} {m m' : MO} {r : Addr} {v u : V} (hp : DkP m key d m') (ok : Ok K C F (A ++ (r, m) :: B) H) (dv : Dv K C F v d) (du : Dv K C F u key) (hl : ∀ kvs, m = .dI kvs → kvs.length < 100000) (hl2 : ∀ kvs, m = .dT kvs → kvs.length < 100000) :
    ∃ o, DPut H r u v (upd H r o) ∧ MOk K C F (upd H r o) r m' ∧ ∀ xs, o ≠ HO.tup xs := by
  have mo := ok.at_ (r, m) (by simp)
  cases hp with
  | i kvs k =>
    obtain ⟨zs, e, r1, r2⟩ := mo
    have R : RelK K C F (fun i : Int => (Sum.inl i : Key)) zs kvs := ⟨r1, r2⟩
    cases du
    refine ⟨_, DPut.k (k := Sum.inl k) e (szl (by rw [R.len]; exact hl kvs rfl)), ⟨_, upd_same, ?_⟩, fun xs z => nomatch z⟩
    have R2 := R.put inl_inj k dv
    exact ⟨R2.k, R2.v⟩
  | t kvs k =>
    obtain ⟨zs, e, r1, r2⟩ := mo
    have R : RelK K C F keyT zs kvs := ⟨r1, r2⟩
    obtain ⟨b, rfl, eb⟩ := tupKey ok.ex du
    refine ⟨_, DPut.t e eb (szl (by rw [R.len]; exact hl2 kvs rfl)), ⟨_, upd_same, ?_⟩, fun xs z => nomatch z⟩
    have R2 := R.put keyT_inj k dv
    exact ⟨R2.k, R2.v⟩
/-- d[k] = v -/
theorem sds_dput (A B : Led) {m m' : MO} {r : Addr} {value : Expr} {pos' : Pos} (hr : X.A.units + 64 < cLine) (hv : ED X C ds O value d O1) (ho : ED X C ds O1 o (.loc r) O2) (hi : ED X C ds O2 i key O3) (hp : DkP m key d m') (hl : ∀ kvs, m = .dI kvs → kvs.length < 100000) (hl2 : ∀ kvs, m = .dT kvs → kvs.length < 100000)
    (h : SDs X (At X C E ds (A ++ (r, m') :: B)) rest D) (he : O3 = A ++ (r, m) :: B := by rfl) (hs : swapsWith value (some (.Subscript o i pos')) pos.line X.env = pure false := by rfl) : SDs X (At X C E ds O) (.Assign [.Subscript o i pos'] value pos :: rest) D := by
  subst he
  refine sds_cons (ps_dput (by omega) pe_w pe_w pe_w hs) fun σ H ⟨F, p⟩ => ?_
  refine hv.run σ H F p.ok p.env _ fun v H1 F1 g1 ok1 d1 => ?_
  have p1 := p.step g1 ok1 hv.dm
  refine ho.run σ H1 F1 ok1 p1.env _ fun w H2 F2 g2 ok2 d2 => ?_
  have p2 := p1.step g2 ok2 ho.dm
  cases d2
  refine hi.run σ H2 F2 ok2 p2.env _ fun u H3 F3 g3 ok3 d3 => ?_
  have p3 := p2.step g3 ok3 hi.dm
  obtain ⟨ob, h1, h2, h3⟩ := hp.put ok3 ((d1.mono g2.ex).mono g3.ex) d3 hl hl2
  refine ⟨r, _, rfl, h1, h _ _ ⟨F3, p3.step (Grow.put (by simp) h3) (ok3.put h2) (dom_put A B r m m')⟩⟩
/-- {} -/
theorem sds_newD (j : Nat) (m : MO) {n : Str} {pos' p : Pos} (hN : X.N.Nodup) (h : ∀ q, SDs X (At X C E (ds.set j (some (.loc q))) ((q, m) :: O)) rest D) (hm : m = .dI [] ∨ m = .dT [] := by first | exact .inl rfl | exact .inr rfl) (hi : X.N[j]? = some n := by rfl) (hx : Loc X.env.scope n := by first | exact Or.inl rfl | exact Or.inr rfl)
    (hs : swapsWith (.Dict [] [] p) (some (.Name n pos')) pos.line X.env = pure false := by rfl) (hf : X.fn n = true ∨ X.env.scope.names.lookup n = some .local := by first | exact .inl rfl | exact .inr rfl) : SDs X (At X C E ds O) (.Assign [.Name n pos'] (.Dict [] [] p) pos :: rest) D := by
  have go : ∀ (o : HO), (∀ (F H : Hp) q, MOk X.K C F (upd H q o) q m) → ∀ (σ : L2.St) (H F : Hp), AtF X C E ds O F σ H → ∀ q, H q = none → wSs X rest D (σ.set j (some (.ref q))) (upd H q o) := by
    intro o ho σ H F pp q hq
    have hF := pp.ok.ex.free hq
    refine h q _ _ ⟨F, ⟨pp.g.trans (Grow.own (D := []) hq) fun _ m => by simp at m, fun e he => ?_, ?_, pp.env.set j (.loc q)⟩⟩
    · rcases List.mem_cons.mp he with rfl | he
      · refine .inr ?_
        cases hE : E.H q with
        | none => rfl
        | some o => exact absurd hq (pp.g.there q (by rw [hE]; simp))
      · exact pp.dm e he
    · exact (pp.ok.grow0 (Grow.own hq) (pp.ok.ex.side hF)).cons hF (ho _ _ _) (notDom pp.ok hq)
  rcases hm with rfl | rfl
  · exact sds_cons (ps_set hN hi hx pe_dnewK hs hf) fun σ H ⟨F, pp⟩ => fun q hq => go (.dK []) (fun F H q => ⟨[], upd_same, rfl, .nil⟩) σ H F pp q hq
  · exact sds_cons (ps_set hN hi hx pe_dnewT hs hf) fun σ H ⟨F, pp⟩ => fun q hq => go (.dT []) (fun F H q => ⟨[], upd_same, rfl, .nil⟩) σ H F pp q hq
/-- what stands at q is frozen, and changed -/
theorem Ok.freezeTo {K : PySem.W.Frag} {O : Led} {q : Addr} {o o' : HO} (h : Ok K C F O H) (hF : F q = none) (hH : H q = some o) (hd : q ∉ dom O) : Ok K C (upd F q o') O (upd H q o') where
  ex := h.ex.upd2
  fr := fun e he => by
    rw [upd_ne (fun z => hd (List.mem_map.mpr ⟨e, he, z⟩))]
    exact h.fr e he
  nd := h.nd
  at_ := fun e he => (h.at_ e he).mono (Ex.new hF) (upd_ne (fun z => hd (List.mem_map.mpr ⟨e, he, z⟩)))
theorem Grow.freezeTo {Ds : List Addr} {F1 H1 : Hp} {q : Addr} {o : HO} (g : Grow Ds F1 H1 F H) (hF : F q = none) (hn : H1 q = none) : Grow Ds F1 H1 (upd F q o) (upd H q o) where
  ex := g.ex.trans (Ex.new hF)
  keep := fun b u e n => by
    rw [upd_ne (ne_of_none e hn)]
    exact g.keep b u e n
  there := fun b n => by
    by_cases z : b = q
    · rw [z, upd_same]; simp
    · rw [upd_ne z]; exact g.there b n
  new := fun b n e t => by
    rw [upd_ne (fun z => n (by rw [z]; exact hn))]
    exact g.new b n e t
  ty := fun b n t xs => by
    rw [upd_ne (fun z => n (by rw [z]; exact hn))]
    exact g.ty b n t xs
theorem DvAll.monoE {K : PySem.W.Frag} {vs : List V} {xs : List Dat} {q : Addr} {o : HO} (h : DvAll K C F vs xs) (hF : F q = none) : DvAll K C (upd F q o) vs xs := h.mono (Ex.new hF)
/-- the dict handed over: it is frozen -/
theorem sds_freezeD (j : Nat) {m : MO} {q : Addr} {st : List Stmt} (x : Dat) (hx : (∃ kvs, m = .dI kvs ∧ x = .dic (kvs.map (·.1)) (kvs.map (·.2))) ∨ ∃ kvs, m = .dT kvs ∧ x = .dct (kvs.map (·.1)) (kvs.map (·.2))) (hD : q ∉ E.D) (h : SDs X (At X C E (ds.set j (some x)) O) st D) (hi : ds[j]? = some (some (.loc q)) := by rfl) : SDs X (At X C E ds ((q, m) :: O)) st D := fun σ H ⟨F, p⟩ pins s I => by
  have mo := p.ok.at_ (q, m) (by simp)
  have hF := p.ok.fr (q, m) (by simp)
  have nd := (List.nodup_cons.mp p.ok.nd).1
  have hE : E.H q = none := (p.dm (q, m) (by simp)).resolve_left hD
  obtain ⟨ob, h1, mu, hdv⟩ : ∃ o, H q = some o ∧ Mut (some o) ∧ ∀ od, Dv X.K C (upd F q (.frz od o)) (.ref q) x := by
    rcases hx with ⟨kvs, rfl, rfl⟩ | ⟨kvs, rfl, rfl⟩
    · obtain ⟨zs, e, r1, r2⟩ := mo
      exact ⟨_, e, trivial, fun od => .dic upd_same (by rw [r1, List.map_map]; rfl) (r2.mono (Ex.new hF))⟩
    · obtain ⟨zs, e, r1, r2⟩ := mo
      exact ⟨_, e, trivial, fun od => .dct upd_same (by rw [r1, List.map_map]; rfl) (r2.mono (Ex.new hF))⟩
  obtain ⟨v, e1, e2⟩ := p.env.2 j _ hi
  cases e2
  obtain ⟨od, I1⟩ := I.lock h1 mu
  refine h σ (upd H q (.frz od ob)) ⟨upd F q (.frz od ob), ⟨p.g.freezeTo hF hE, fun e he => p.dm e (List.mem_cons_of_mem _ he), p.ok.tail.freezeTo hF h1 nd, ?_⟩⟩ pins s I1
  have env' := p.env.mono (Ex.new (o := .frz od ob) hF)
  refine ⟨by simp [env'.1], fun i d hj => ?_⟩
  by_cases hij : j = i
  · subst hij
    have hil : j < ds.length := (List.getElem?_eq_some_iff.mp hi).1
    rw [List.getElem?_set_self hil] at hj
    cases hj
    exact ⟨_, e1, hdv od⟩
  · rw [List.getElem?_set_ne hij] at hj
    exact env'.2 i d hj
end
end Sw
/-! The data layer: count, membership in a tuple, calls with a ledger, try, and other rules. -/
namespace Sw
open PySem PySem.Spec L2
open PyProof.Rows in
def rCntD (K : PySem.W.Frag) : V → List V → Hp → VK → Prop := fun x xs H Q => ∃ (a : Addr) (y : V) (d : PyData) (ds : List PyData), x = V.ref a ∧ xs = [y] ∧ Dp K H (V.ref a) (.list ds) ∧ Dp K H y d ∧
  SeqAt.shaped (.list ds) = true ∧ SeqAt.shaped d = true ∧ Q (.int ((ds.countP fun z => PyData.eqv z d : Nat) : Int)) H
section
variable {X : Cx}
theorem mt_countD (hu : X.A.units + 65 < cLine) : MtR X "list.count" (rCntD X.K) := by
  intro pins s σ H x xs v us Q I rx rxs h
  obtain ⟨a, y, d, ds, rfl, rfl, hl, hd, sl, sd, q⟩ := h
  obtain ⟨u, rfl, ru⟩ := rxs.one
  obtain ⟨as, r1⟩ := Dp.reads I d y u hd ru
  obtain ⟨bs, r2⟩ := Dp.reads I (.list ds) _ v hl rx
  have cl := SeqAt.canLay_of_shaped sl
  have cd := SeqAt.canLay_of_shaped sd
  have rm : X.A.units + 1 + min (PyData.depthAll ds) d.depth < cLine := PyProof.Rows.room_in_shaped sd hu
  cases r2 with
  | @list ad ob vs n ds' as' ho hc hd2 rs =>
    have hl' : PyData.canLayAll0 ds = true := by simpa [PyData.canLay0] using cl
    obtain ⟨cls, dd, dat, slots⟩ := ob
    replace hc : cls = .type "list" := hc
    replace hd2 : dat = .seq vs n := hd2
    subst hc hd2
    refine call_meets PySem.F.slot_list_count ⟨_, ho, rfl⟩ PySem.F.entry_list_count (PySem.F.args_list_count_2 _ _)
      (SeqAt.list_countAt _ vs n dd slots u (fun y => PyData.eqv (SeqAt.readOf s.heap y) d)) ⟨ho, SeqAt.items_eqAt rs r1 hl' cd (by show X.A.units + 1 + _ < _; exact rm), ?_⟩
    have ec : vs.toList.countP (fun y => PyData.eqv (SeqAt.readOf s.heap y) d) = ds.countP fun z => PyData.eqv z d := by
      rw [← SeqAt.readsAll_map ds _ _ hl' rs, List.countP_map]
      rfl
    rw [ec]
    exact ⟨.int _, H, I.tok _, ⟨s.toks, rfl⟩, q⟩
end
section
variable {X : Cx} {C : Addr} {ds ds' : Dsl} {O O' O1 O2 O3 : Led} {e a b c o i : Expr} {d x y z key : Dat} {E : En} {D : Ends} {F F' H H' : Hp} {σ : L2.St} {p p2 q pos : Pos} {k k' : Bool} {es : List Expr} {rest : List Stmt}
theorem count_eqv {α : Type} [DecidableEq α] {enc : α → Dat} {n : Nat} (h : EqC enc n) (a : α) : ∀ xs : List α, (pyAll (xs.map enc)).countP (fun z => PyData.eqv z (py (enc a))) = xs.count a
  | [] => by simp [pyAll]
  | x :: xs => by
    rw [List.map_cons, pyAll, List.countP_cons, count_eqv h a xs, h.eq, List.count_cons]
    by_cases e : x = a
    · simp [e]
    · simp [e]
/-- xs.count(x) -/
theorem ed_count {α : Type} [DecidableEq α] {enc : α → Dat} {n : Nat} {v : α} {xs : List α} {apos : Pos} (h : EqC enc n) (hu : X.A.units + 65 < cLine) (ho : ED X C ds O o x O1) (he : AD X C ds O1 (e :: es) [enc v] O2) (hy : LstD O1 x (xs.map enc)) (hy2 : O1 = O2 := by rfl) (hn : n ≤ 50 := by decide) (hb : BmOk X o "count" apos e es pos := by exact ⟨rfl, rfl, rfl, rfl, rfl⟩) :
    ED X C ds O (.Call (.Attribute o "count" apos) (e :: es) [] pos) (.int ((xs.count v : Nat) : Int)) O2 := by
  obtain ⟨b1, b2, b3, b4, b5⟩ := hb
  subst hy2
  refine ed_of (pe_bm PySem.F.plainAttrs_list PySem.F.slot_list_count PySem.F.type_list_count (mt_countD hu) pe_w pa_w b1 b2 b3 b4 b5) (he.dm.trans ho.dm) fun σ H F ok env Q q => ho.run σ H F ok env _ fun w H1 F1 g1 ok1 d1 => ?_
  obtain ⟨p1, us, rfl, h1, h2⟩ := hy.at_ ok1 d1
  refine ⟨.inl ⟨rfl, _, SqL.of h1⟩, ?_⟩
  refine he.run σ H1 F1 ok1 (env.mono g1.ex) _ fun vs H2 F2 g2 ok2 d2 => ?_
  obtain ⟨u, rfl, du⟩ := all1 d2
  obtain ⟨p2, us2, e2, h3, h4⟩ := hy.at_ ok2 (d1.mono g2.ex)
  cases e2
  refine ⟨_, _, _, _, rfl, rfl, .lst (SqL.of h3) (h4.dp ok2.ex (h.plains xs)), du.dp ok2.ex (h.plain v), h.lst.shaped (by omega) xs, h.shaped (by omega) v, ?_⟩
  rw [ho.dm] at g2
  have := q (.int ((xs.count v : Nat) : Int)) H2 F2 (g1.trans g2 fun _ m => .inl m) ok2 (.int _)
  rw [count_eqv h v xs]
  exact this
/-- an int in a written tuple of ints -/
theorem c_ninT {i : Int} {ns : List Int} : CmpOk X C .NotIn (.int i) (.tup (ns.map .int)) O (!decide (i ∈ ns)) :=
  ⟨_, op_notIn_seq, fun H F v u ok d1 d2 Q q => by
    cases d1
    cases d2 with
    | tup h1 h2 =>
      rw [ints_at h2] at h1
      refine ⟨_, _, rfl, .inr (SqT.of (ok.ex _ _ h1)), rfl, by simp [List.all_map, flatV], ?_⟩
      have e : inV (V.int i) (ns.map V.int) = decide (i ∈ ns) := by
        unfold inV
        rw [Bool.eq_iff_iff, List.any_map, List.any_eq_true, decide_eq_true_iff]
        constructor
        · rintro ⟨j, hj, e⟩
          have : j = i := by simpa [eqV] using e
          exact this ▸ hj
        · intro h
          exact ⟨i, h, by simp [eqV]⟩
      rw [e]
      exact q⟩
/-! ### calls that may change the ledger, or of which not all is known -/
structure EDL (X : Cx) (C : Addr) (ds : Dsl) (O : Led) (e : Expr) (post : Dat → Led → Prop) : Prop where
  dm : ∀ d O', post d O' → dom O' = dom O
  run : ∀ (σ : L2.St) (H F : Hp), Ok X.K C F O H → EnvOk X.K C F σ ds → ∀ Q : VK, (∀ v H' F' d O', Grow (dom O) F H F' H' → Ok X.K C F' O' H' → Dv X.K C F' v d → post d O' → Q v H') → wE X e σ H Q
theorem ed_L (h : EDL X C ds O e fun d' O' => d' = d ∧ O' = O1) : ED X C ds O e d O1 := ⟨h.dm d O1 ⟨rfl, rfl⟩, fun σ H F ok env Q q => h.run σ H F ok env Q fun v H' F' d' O' g ok' hd ⟨e1, e2⟩ => by
  subst e1 e2
  exact q v H' F' g ok' hd⟩
theorem edl_call {n : Str} {ps : List Str} {kk : Nat} {r : List Dat → Led → (Dat → Led → Prop) → Prop} {xs : List Dat} {post : Dat → Led → Prop} (G : Cal X.prog X.w X.K X.mg X.base kk n ps (spL X.K C r)) (hr : Room kk X.A) (h : AD X C ds O (e :: es) xs O) (hz : r xs O post) (dm : ∀ d O', post d O' → dom O' = dom O) (hg : Gl X n := by rfl) (hp : Pl X e es pos := by exact ⟨rfl, rfl⟩)
    (hdb : (n == ("__debug__" : Str)) = false := by decide) : EDL X C ds O (.Call (.Name n p) (e :: es) [] pos) post := by
  obtain ⟨f, fd, F1, hm, hk, hb⟩ := G.ex
  refine ⟨dm, fun σ H F ok env Q q pins s I => (pe_call F1 hr hg hm hk hb .nil pass0 pa_w hdb hp.1 hp.2).run pins s σ H Q I ?_⟩
  refine h.run σ H F ok env _ fun vs H1 F1 g1 ok1 d1 => ?_
  show spL X.K C r (vs ++ []) H1 Q _
  rw [List.append_nil]
  exact ⟨F1, O, xs, post, ok1, d1, hz, fun v H' F' d' O' g ok' hd hpo => q v H' F' d' O' (g1.trans g fun _ m => .inl m) ok' hd hpo⟩
theorem sds_setL (j : Nat) {n : Str} {pos' : Pos} {post : Dat → Led → Prop} (hN : X.N.Nodup) (he : EDL X C ds O e post) (h : ∀ d O', post d O' → SDs X (At X C E (ds.set j (some d)) O') rest D) (hi : X.N[j]? = some n := by rfl) (hx : Loc X.env.scope n := by first | exact Or.inl rfl | exact Or.inr rfl)
    (hs : swapsWith e (some (.Name n pos')) pos.line X.env = pure false := by rfl) (hf : X.fn n = true ∨ X.env.scope.names.lookup n = some .local := by first | exact .inl rfl | exact .inr rfl) : SDs X (At X C E ds O) (.Assign [.Name n pos'] e pos :: rest) D :=
  sds_cons (ps_set hN hi hx pe_w hs hf) fun σ H ⟨F, p⟩ => he.run σ H F p.ok p.env _ fun v H1 F1 d O' g1 ok1 d1 hp => h d O' hp _ _ ⟨F1, (p.step g1 ok1 (he.dm d O' hp)).set j d1⟩
theorem sds_exprL {post : Dat → Led → Prop} (he : EDL X C ds O e post) (h : ∀ d O', post d O' → SDs X (At X C E ds O') rest D) (hs : swapsWith e none pos.line X.env = pure false := by rfl) : SDs X (At X C E ds O) (.Expr e pos :: rest) D :=
  sds_cons (ps_expr pe_w hs) fun σ H ⟨F, p⟩ => he.run σ H F p.ok p.env _ fun v H1 F1 d O' g1 ok1 d1 hp => h d O' hp _ _ ⟨F1, p.step g1 ok1 (he.dm d O' hp)⟩
theorem sds_retL {post post' : Dat → Led → Prop} (he : EDL X C ds O e post) (hq : ∀ d O', post d O' → post' d O') (hr : ∀ v H, Rt X C E post' v H → D.rt v H := by exact fun _ _ h => h) : SDs X (At X C E ds O) (.Return (some e) pos :: rest) D :=
  sds_cons (ps_ret pe_w) fun σ H ⟨F, p⟩ => he.run σ H F p.ok p.env _ fun v H1 F1 d O' g1 ok1 d1 hp => hr v H1 ⟨F1, d, O', (p.step g1 ok1 (he.dm d O' hp)).g, ok1, d1, hq d O' hp⟩
/-- a def by its walk, with a ledger -/
theorem cal_def {P : Program} {w : World} {K : PySem.W.Frag} {mg : Str → Option Value} {base : Heap} {n : Str} {st : Stmt} {N ps : List Str} {kk : Nat} {r : List Dat → Led → (Dat → Led → Prop) → Prop} (Df : Dfn K mg n st) (S : FnScope N ps (defScope st)) (hl : ∀ ds O post, r ds O post → ds.length = ps.length)
    (bi : ∀ (kV doc pm : Value) (an : Option Addr) (cdv ct : Value) (us : List Value), us.length = ps.length → bindArgs (PySem.W.fnOf n n (defArgs st) (defBody st) (defScope st) .none kV doc pm an cdv ct) ⟨us, []⟩ = pure (ps.zip us))
    (hb : ∀ (f : Addr) (cdv : Value) (A : Around) (outer : List Env) (s : Shared) (H : Hp) (E' : XK), Room kk (A.deeper (PyProof.Rows.envOfC n (defScope st) s.heap.objs.size f cdv)) → ∀ F O ds post, r ds O post → Ok K C F O H →
      SDs (Xo P w K mg base N n (defScope st) f cdv A outer s H E') (At (Xo P w K mg base N n (defScope st) f cdv A outer s H E') C ⟨dom O, F, H⟩ (pad N ds) O) (defBody st) ⟨fun _ H' => Rt (Xo P w K mg base N n (defScope st) f cdv A outer s H E') C ⟨dom O, F, H⟩ post .non H', Rt (Xo P w K mg base N n (defScope st) f cdv A outer s H E') C ⟨dom O, F, H⟩ post, fun _ _ => False, fun _ _ => False⟩) :
    Cal P w K mg base (kk + 1) n ps (spL K C r) := by
  obtain ⟨f, fd, Fn, hm⟩ := Df.ex
  exact ⟨f, fd, fn_def Fn S hl (hb f), hm, Fn.kp, Fn.bindsN bi⟩
/-- try: .. whose handlers are never come to -/
theorem sds_try {body : List Stmt} {h0 : ExceptHandler} {hs : List ExceptHandler} {M : L2.St → Hp → Prop} (hb : SDs X (At X C E ds O) body { D with nx := M }) (h : SDs X M rest D) (hx : X.nox = X := by rfl) : SDs X (At X C E ds O) (.Try body (h0 :: hs) [] [] pos :: rest) D :=
  sds_cons (ps_try_thru0 (by rw [hx]; exact pss_w)) fun σ H m => wSs_mono (hb σ H m) (fun σ H m => h σ H m) (fun _ _ h => h) (fun _ _ h => h) (fun _ _ h => h)
/-- xs[::-1] -/
theorem ed_revL {xs : List Dat} {n : Nat} {p1 p3 : Pos} (h : ED X C ds O e x O1) (hx : LstD O1 x xs) : ED X C ds O (.Subscript e (.Slice none none (some (.UnaryOp .USub (.Constant (.int 1) n p1) p2)) p3) pos) (.lst xs.reverse) O1 :=
  ed_of (pe_revL pe_w) h.dm fun σ H F ok env Q q => h.run σ H F ok env _ fun v H1 F1 g1 ok1 d1 => by
    obtain ⟨p1, us, rfl, h1, h2⟩ := hx.at_ ok1 d1
    refine ⟨_, _, rfl, SqL.of h1, fun l hl => ?_⟩
    have hF := ok1.ex.free hl
    have h3 : DvAll X.K C F1 us.reverse xs.reverse := by
      have : ∀ {us : List V} {xs : List Dat}, DvAll X.K C F1 us xs → DvAll X.K C F1 us.reverse xs.reverse := by
        intro us xs h
        induction xs generalizing us with
        | nil => cases h; exact .nil
        | cons x xs ih =>
          cases h with
          | cons a b =>
            rw [List.reverse_cons, List.reverse_cons]
            exact (ih b).append (DvAll.one a)
      exact this h2
    have gf : Grow (dom O) F1 H1 (upd F1 l (.lst us.reverse)) (upd H1 l (.lst us.reverse)) := Grow.frz hl hF
    exact q (.ref l) _ _ (g1.trans gf fun _ m => .inl m) (ok1.grow0 (Grow.frz hl hF) ok1.ex.upd2) (dv_newL (X := X) hF h3)
/-- xs.pop(0) -/
theorem ed_pop0 (A B : Led) {xs : List Dat} {r : Addr} {apos : Pos} (ho : ED X C ds O o (.loc r) O1) (he : AD X C ds O1 (e :: es) [.int 0] (A ++ (r, .lst (x :: xs)) :: B)) (hm : O1 = A ++ (r, .lst (x :: xs)) :: B := by rfl) (hb : BmOk X o "pop" apos e es pos := by exact ⟨rfl, rfl, rfl, rfl, rfl⟩) :
    ED X C ds O (.Call (.Attribute o "pop" apos) (e :: es) [] pos) x (A ++ (r, .lst xs) :: B) := by
  obtain ⟨b1, b2, b3, b4, b5⟩ := hb
  subst hm
  refine ed_of (pe_bm PySem.F.plainAttrs_list PySem.F.slot_list_pop PySem.F.type_list_pop mt_popAt pe_w pa_w b1 b2 b3 b4 b5) ((dom_put A B r _ _).trans (he.dm.trans ho.dm)) fun σ H F ok env Q k => ?_
  refine ho.run σ H F ok env _ fun v H1 F1 g1 ok1 d1 => ?_
  cases d1
  obtain ⟨vs0, h0, _⟩ := ok1.at_ (r, .lst (x :: xs)) (by simp)
  refine ⟨.inl ⟨rfl, _, SqL.of h0⟩, ?_⟩
  refine he.run σ H1 F1 ok1 (env.mono g1.ex) _ fun vs H2 F2 g2 ok2 d2 => ?_
  obtain ⟨u, rfl, du⟩ := all1 d2
  cases du
  obtain ⟨vs1, h1, r1⟩ := ok2.at_ (r, .lst (x :: xs)) (by simp)
  cases r1 with
  | @cons v1 vr _ _ a b =>
    refine ⟨r, v1 :: vr, 0, 0, v1, rfl, rfl, h1, by decide, by decide, by simp [seqIndex?], rfl, ?_⟩
    have hq : r ∈ dom O := by rw [← ho.dm]; simp
    refine k v1 _ F2 ((g1.trans g2 fun _ m => .inl (by rw [← ho.dm]; exact m)).trans (Grow.put (D := [r]) (by simp)) fun b m => .inl (by rw [List.mem_singleton.mp m]; exact hq)) (ok2.put ⟨_, upd_same, b⟩) a
/-- a comprehension whose items are coded by enc2 -/
theorem ed_lcE {α β : Type} (L : List α) (enc : α → Dat) (sh : Dsl → Dat → Option Dsl) (d1 : α → Dsl) (enc2 : β → Dat) (g : α → β) (own : List (Str × Nat)) {items : List Dat} {elt tg iter : Expr} {scope : Scope} (hi : IT X C ds O tg iter items O1) (hN : X.N.Nodup) (ok : BlkOk X.N X.env.scope scope own)
    (hg : GBt X C scope (own.map (·.2)) tg sh) (hs : ∀ a ∈ L, sh (wipeD ds (own.map (·.2))) (enc a) = some (d1 a))
    (he : ∀ a ∈ L, ∀ s H C' cl fp, ED (Blk X s H scope C' cl fp) C (d1 a) O1 elt (enc2 (g a)) O1) (hlen : L.length ≤ 100000) (hit : items = L.map enc := by rfl) (hc : X.calm = true := by rfl) (hfs : ∀ x, foldedSetIterable iter X.env x = pure x := by intro _; rfl) :
    ED X C ds O (.ListComp elt [⟨tg, iter, [], 0⟩] scope pos) (.lst ((L.map g).map enc2)) O1 :=
  ed_conv (ed_lcM L enc sh d1 (fun a => enc2 (g a)) own hi hN ok hg hs he hlen hit hc hfs) (by rw [List.map_map]; rfl)
/-- .. with a test, the items themselves -/
theorem ed_lcF {α : Type} (L : List α) (enc : α → Dat) (sh : Dsl → Dat → Option Dsl) (d1 : α → Dsl) (t : α → Bool) (own : List (Str × Nat)) {items : List Dat} {elt tg iter : Expr} {ifs : List Expr} {scope : Scope} (hi : IT X C ds O tg iter items O1) (hN : X.N.Nodup) (ok : BlkOk X.N X.env.scope scope own)
    (hg : GBt X C scope (own.map (·.2)) tg sh) (hs : ∀ a ∈ L, sh (wipeD ds (own.map (·.2))) (enc a) = some (d1 a)) (ht : CD X C scope O1 ifs (L.map fun a => (d1 a, t a)))
    (he : ∀ a ∈ L, ∀ s H C' cl fp, ED (Blk X s H scope C' cl fp) C (d1 a) O1 elt (enc a) O1) (hlen : L.length ≤ 100000) (hit : items = L.map enc := by rfl) (hc : X.calm = true := by rfl) (hfs : ∀ x, foldedSetIterable iter X.env x = pure x := by intro _; rfl) :
    ED X C ds O (.ListComp elt [⟨tg, iter, ifs, 0⟩] scope pos) (.lst ((L.filter t).map enc)) O1 :=
  ed_lc L enc sh d1 t enc own hi hN ok hg hs ht (fun a ha _ => he a ha) hlen hit hc hfs
end
end Sw
/-! The data layer: a for with a state that is not told by what was taken; the length of a part of a call's answer. -/
namespace Sw
open PySem PySem.Spec L2
section
variable {X : Cx} {C : Addr} {ds ds' ds1 ds2 : Dsl} {O O' O1 O2 O3 : Led} {e a b c tg iter elt : Expr} {d x y z : Dat} {E : En} {F F' H H' : Hp} {σ : L2.St} {p p2 q pos : Pos} {k k' : Bool} {es ifs : List Expr} {rest body orelse : List Stmt} {D : Ends} {P P' M : L2.St → Hp → Prop}
/-- len(d), d to be read -/
theorem cr_lenR : CallR X (.builtin "len") (fun xs H Q => ∃ a kvs, xs = [V.ref a] ∧ Rd H a (.dK kvs) ∧ Q (.int kvs.length) H) := by
  intro pins s σ H xs us Q I r h
  obtain ⟨a, kvs, rfl, ha, q⟩ := h
  rw [Vals.ref1 r]
  exact d_len I ha fun t s' I' => ⟨.int kvs.length, H, I', ⟨t, rfl⟩, q⟩
theorem sds_forS {α β : Type} (L : List α) (enc : α → Dat) (sh : Dsl → Dat → Option Dsl) (I : List α → β → Prop) (dsI : β → Dsl) (OI : β → Led) (b0 : β) {items : List Dat} {post : Dat → Led → Prop} {nx bk ct : L2.St → Hp → Prop} (hi : IT X C ds O tg iter items O') (gt : GT X C tg sh) (h0 : I [] b0) (w0 : Wk ds (dsI b0)) (o0 : O' = OI b0)
    (hb : ∀ pre a post', L = pre ++ a :: post' → ∀ b, I pre b → ∀ E1 : En, ∃ ds1, sh (dsI b) (enc a) = some ds1 ∧
      SDs X (At X C E1 ds1 (OI b)) body ⟨fun σ H => ∃ b', I (pre ++ [a]) b' ∧ At X C E1 (dsI b') (OI b') σ H, Rt X C E1 post, fun _ _ => False, fun σ H => ∃ b', I (pre ++ [a]) b' ∧ At X C E1 (dsI b') (OI b') σ H⟩)
    (hr : ∀ b, I L b → SDs X (At X C E (dsI b) (OI b)) rest ⟨nx, Rt X C E post, bk, ct⟩)
    (hit : items = L.map enc := by rfl) (hp : PassesOwn (model X.prog X.w) X.A X.env X.xe := by exact PassesOwn.never) (hc : X.calm = true := by rfl) (hfs : ∀ x, foldedSetIterable iter X.env x = pure x := by intro _; rfl) : SDs X (At X C E ds O) (.For tg iter body [] pos :: rest) ⟨nx, Rt X C E post, bk, ct⟩ := by
  obtain ⟨wi, pi, hw⟩ := hi.ex
  obtain ⟨g, pg, hg⟩ := gt.ex
  subst hit
  refine sds_cons (ps_for hp hc pi pg pss_w hfs) fun σ H ⟨F, p⟩ => ?_
  refine hw σ H F p.ok p.env _ fun J H1 F1 g1 ok1 w => ?_
  have p1 := p.step g1 ok1 hi.dm
  refine for_it w (fun i σ H => i ≤ L.length ∧ ∃ b, I (L.take i) b ∧ ∃ F2, AtF X C ⟨E.D, F1, E.H⟩ (dsI b) (OI b) F2 σ H) ⟨Nat.zero_le _, b0, h0, F1, by subst o0; exact (p1.weak w0).sup⟩ (fun i σ H hi ⟨_, b, _, F2, p2⟩ => p2.g.ex.trans p2.ok.ex) ?_ ?_
  · rintro i v σ2 H2 H3 hi2 ⟨hi', b, hI, F2, p2⟩ y
    obtain ⟨F3, g3, e3, d, hd, dv⟩ := y F2 p2.g.ex p2.ok.ex
    rw [List.getElem?_map] at hd
    obtain ⟨a, ha, rfl⟩ := Option.map_eq_some_iff.mp hd
    have hi3 : i < L.length := by simpa using hi2
    have etake : L.take (i + 1) = L.take i ++ [a] := by rw [List.take_add_one, ha]; rfl
    have eL : L = L.take i ++ a :: L.drop (i + 1) := by
      have h1 : L[i] = a := by rw [List.getElem?_eq_getElem hi3] at ha; exact Option.some.inj ha
      rw [← h1, ← List.drop_eq_getElem_cons hi3, List.take_append_drop]
    have p3 : AtF X C ⟨E.D, F1, E.H⟩ (dsI b) (OI b) F3 σ2 H3 := p2.step (g3.mono fun _ m => by simp at m) (p2.ok.grow0 g3 e3) rfl
    obtain ⟨ds1, hsh, hbody⟩ := hb _ a _ eL b hI ⟨E.D, F1, E.H⟩
    refine hg _ ds1 _ hsh σ2 H3 F3 v p3.ok.ex p3.env dv _ fun σ' env' => ?_
    refine wSs_mono (hbody σ' H3 ⟨F3, ⟨p3.g, p3.dm, p3.ok, env'⟩⟩) ?_ (fun v H h => Rt.sub p1 h) (fun _ _ h => h.elim) ?_
    all_goals
      rintro σ4 H4 ⟨b4, hI4, F4, p4⟩
      refine ⟨by omega, b4, by rw [etake]; exact hI4, F4, p4⟩
  · rintro σ2 H2 ⟨_, b, hI, F2, p2⟩
    rw [List.length_map, List.take_length] at hI
    exact hr b hI σ2 H2 ⟨F2, p1.sub p2⟩
/-- len(f(..)[1]), f's answer a pair whose second part is a dict of n -/
theorem ed_lenIx {n : Nat} {j : Nat} {p1 p2 p3 : Pos} {post : Dat → Led → Prop} (hm : X.mg "len" = none) (h : EDL X C ds O e post) (hp : ∀ d O', post d O' → O' = O ∧ ∃ x ks vs, d = .tup [x, .dic ks vs] ∧ vs.length = n) (hg : Gl X "len" := by rfl)
    (na : starEach [.Subscript e (.Constant (.int 1) j p2) p1] X.env = (false, eval (.Subscript e (.Constant (.int 1) j p2) p1) X.env) :: starEach [] X.env := by rfl) (hs : PlainIx (.Constant (.int 1) j p2) := by exact fun _ _ => rfl) :
    ED X C ds O (.Call (.Name "len" p3) [.Subscript e (.Constant (.int 1) j p2) p1] [] pos) (.int n) O :=
  ed_of (pe_callB cr_lenR hg hm PySem.boot_len (pa_cons (pe_ix ix_tup pe_w pe_int hs) pa_nil na) (by decide) (by decide) na rfl) rfl fun σ H F ok env Q q => h.run σ H F ok env _ fun v H1 F1 d O' g1 ok1 d1 hpo => by
    obtain ⟨rfl, x, ks, vs, rfl, hl⟩ := hp d O' hpo
    cases d1 with
    | tup h1 h2 =>
      cases h2 with
      | cons a r => cases r with
        | cons b r =>
          cases r
          cases b with
          | dic e1 e2 e3 =>
            refine ⟨_, _, 1, _, rfl, rfl, SqT.of (ok1.ex _ _ h1), rfl, ?_⟩
            refine ⟨_, _, rfl, .inr ⟨_, ok1.ex _ _ e1⟩, ?_⟩
            have hz := e3.length
            rw [List.length_map] at hz
            rw [hz, hl]
            exact q _ H1 F1 g1 ok1 (.int _)
end
end Sw
/-! The data layer: frozen dicts walked and made; lists of lists that may change. -/
namespace Sw
open PySem PySem.Spec L2
section
variable {X : Cx} {C : Addr} {ds ds' ds1 ds2 : Dsl} {O O' O1 O2 O3 : Led} {e a b c tg iter elt : Expr} {d x y z : Dat} {E : En} {F F' H H' : Hp} {σ : L2.St} {p p2 q pos : Pos} {k k' : Bool} {es ifs : List Expr} {rest body orelse : List Stmt} {D : Ends}
/-- d.items() of a frozen dict -/
def itemD (ks : List Int) (xs : List Dat) : List Dat := (ks.zip xs).map fun p => .tup [.int p.1, p.2]
theorem it_items {ks : List Int} {xs : List Dat} {elts : List Expr} {kk : Nat} {tpos apos cpos : Pos} (h : ED X C ds O e (.dic ks xs) O1) (hbase : attributeBase e "items" X.env (eval e X.env) = eval e X.env := by rfl) (hline : (apos.endLine == cpos.line) = true := by rfl) :
    IT X C ds O (.Tuple elts kk tpos) (.Call (.Attribute e "items" apos) [] [] cpos) (itemD ks xs) O1 :=
  ⟨h.dm, _, pi_items pe_w hbase hline, fun σ H F ok env R r => h.run σ H F ok env _ fun v H1 F1 g1 ok1 d1 => by
    cases d1 with
    | @dic a od zs _ _ h1 h2 h3 =>
      refine ⟨_, _, _, rfl, ok1.ex _ _ h1, r _ H1 F1 g1 ok1 ?_⟩
      have l1 := h3.length
      have l2 := congrArg List.length h2
      simp only [List.length_map] at l1 l2
      have hl : (itemD ks xs).length = zs.length := by simp [itemD]; omega
      rw [hl]
      refine walk_items.mono (fun H' e => e _ _ h1) fun i H x H' hi e y F2 e1 e2 => ?_
      obtain ⟨T, u, v, rfl, hT, rfl, q1, q2⟩ := y
      obtain ⟨zi, hz, rfl⟩ := Option.map_eq_some_iff.mp q1
      replace q2 : zs[i]?.map Prod.snd = some v := q2
      rw [hz] at q2
      cases q2
      have hF := e2.free hT
      have hk : ks[i]? = some (ks[i]'(by omega)) := List.getElem?_eq_getElem (by omega)
      have hk2 : zi.1 = Sum.inl (ks[i]'(by omega)) := by
        have := congrArg (fun l => l[i]?) h2
        simp only [List.getElem?_map, hz, hk] at this
        simpa using this
      obtain ⟨d, q3, q4⟩ := h3.get' (i := i) (v := zi.2) (by rw [List.getElem?_map, hz]; rfl)
      refine ⟨_, Grow.frz hT hF, e2.upd2, .tup [.int (ks[i]'(by omega)), d], ?_, dv_newT (X := X) hF (.cons (by rw [hk2]; exact .int _) (DvAll.one (q4.mono e1)))⟩
      unfold itemD
      rw [List.getElem?_map, List.getElem?_zip_eq_some.mpr (show ks[i]? = some (ks[i]'(by omega), d).1 ∧ xs[i]? = some (ks[i]'(by omega), d).2 from ⟨hk, q3⟩)]
      rfl⟩
theorem kV_inj : ∀ {k : List Key} {ns : List Int}, k = keyT ns → k.map kV = ns.map V.int := fun h => by rw [h, kV_ints]
/-- the keys of a frozen dict, tuples of ints -/
theorem it_keysT {ks : List (List Int)} {xs : List Dat} (h : ED X C ds O e (.dct ks xs) O1) : IT X C ds O tg e (ks.map fun k => .tup (k.map .int)) O1 :=
  ⟨h.dm, _, pi_keys pe_w, fun σ H F ok env R r => h.run σ H F ok env _ fun v H1 F1 g1 ok1 d1 => by
    cases d1 with
    | @dct a od zs _ _ h1 h2 h3 =>
      refine ⟨_, _, rfl, .inr ⟨_, ok1.ex _ _ h1, r _ H1 F1 g1 ok1 ?_⟩⟩
      have l2 := congrArg List.length h2
      simp only [List.length_map] at l2
      rw [List.length_map, ← l2]
      refine walk_keysT.mono (fun H' e => e _ _ h1) fun i H x H' hi e y F2 e1 e2 => ?_
      obtain ⟨rfl, k, v, q, hk, rfl, hq⟩ := y
      have hk1 : ks[i]? = some (ks[i]'(by omega)) := List.getElem?_eq_getElem (by omega)
      have hk2 : k = keyT (ks[i]'(by omega)) := by
        have := congrArg (fun l => l[i]?) h2
        simp only [List.getElem?_map, hk, hk1] at this
        simpa using this
      rw [kV_inj hk2] at hq
      have hd : (ks.map fun k => Dat.tup (k.map .int))[i]? = some (.tup ((ks[i]'(by omega)).map .int)) := by rw [List.getElem?_map, hk1]; rfl
      cases hF : F2 q with
      | some o =>
        have := e2 _ _ hF
        rw [hq] at this
        cases this
        exact ⟨F2, Grow.refl, e2, _, hd, .tup hF (dv_ints _)⟩
      | none =>
        refine ⟨upd F2 q (.tup ((ks[i]'(by omega)).map V.int)), ⟨Ex.new hF, fun _ _ h _ => h, fun _ h => h, fun b n e' t => ?_, fun _ _ t => t⟩, ?_, _, hd, .tup upd_same (dv_ints _)⟩
        · rw [upd_ne (fun z => by rw [z, hq] at t; exact t _ rfl)]
          exact e'
        · intro b o hb
          by_cases z : b = q
          · rw [z, upd_same] at hb
            rw [z, hq, ← hb]
          · rw [upd_ne z] at hb
            exact e2 _ _ hb⟩
/-- (a, (b, c)) as a target -/
def sh12 (i j k : Nat) : Dsl → Dat → Option Dsl := fun ds d => match d with
  | .tup [x, .tup [y, z]] => some (((ds.set i (some x)).set j (some y)).set k (some z))
  | _ => none
theorem gt_np (i j k : Nat) {n m l : Str} {p1 p2 p3 p4 : Pos} {kk k2 : Nat} (hN : X.N.Nodup) (hi : X.N[i]? = some n := by rfl) (hj : X.N[j]? = some m := by rfl) (hk : X.N[k]? = some l := by rfl) (hc : X.calm = true := by rfl) (hx : Loc X.env.scope n := by first | exact Or.inl rfl | exact Or.inr rfl) (hy : Loc X.env.scope m := by first | exact Or.inl rfl | exact Or.inr rfl) (hz : Loc X.env.scope l := by first | exact Or.inl rfl | exact Or.inr rfl)
    (hf : X.fn n = true ∨ X.env.scope.names.lookup n = some .local := by first | exact .inl rfl | exact .inr rfl) (hf2 : X.fn m = true ∨ X.env.scope.names.lookup m = some .local := by first | exact .inl rfl | exact .inr rfl) (hf3 : X.fn l = true ∨ X.env.scope.names.lookup l = some .local := by first | exact .inl rfl | exact .inr rfl) : GT X C (.Tuple [.Name n p1, .Tuple [.Name m p2, .Name l p3] k2 p4] kk pos) (sh12 i j k) :=
  ⟨gTup X.K 2 (gCons (gName i) (gCons (gTup X.K 2 (gCons (gName j) (gCons (gName k) gNil))) gNil)), pg_tup hc (pgs_cons (pg_name hN hi hx hf) (pgs_cons (pg_tup hc (pgs_cons (pg_name hN hj hy hf2) (pgs_cons (pg_name hN hk hz hf3) pgs_nil))) pgs_nil)), fun ds ds' d h σ H F v e env hd Q q => by
    unfold sh12 at h
    split at h
    · cases h
      cases hd with
      | tup h1 h2 =>
        cases h2 with
        | cons h2 h3 => cases h3 with
          | cons h3 h4 =>
            cases h4
            cases h3 with
            | tup h5 h6 =>
              cases h6 with
              | cons h6 h7 => cases h7 with
                | cons h7 h8 =>
                  cases h8
                  exact ⟨_, _, rfl, SqT.of (e _ _ h1), rfl, _, _, rfl, _, _, rfl, ⟨_, _, rfl, SqT.of (e _ _ h5), rfl, _, _, rfl, _, _, rfl, rfl, rfl, q _ (((env.set i h2).set j h6).set k h7)⟩⟩
    · cases h⟩
/-- the answer, a new thing, is locked -/
theorem pe_lockR {t : TE} (h : PE X e t) : PE X e (fun σ H Q => t σ H fun v H1 => ∃ d u, v = .ref d ∧ H1 d = some u ∧ Mut (some u) ∧ ∀ od, Q v (upd H1 d (.frz od u))) :=
  ⟨fun pins s σ H Q I hw => thn (h.run pins s σ H _ I hw) fun v s1 ⟨x, H1, I1, r, d, u, ex, hd, mu, q⟩ => by
    obtain ⟨od, I2⟩ := I1.lock hd mu
    exact ⟨x, _, I2, r, q od⟩⟩
/-- a dict's comprehension over a walk -/
theorem dc_it {J : It} {n : Nat} {G : Hp → Prop} {Y : Nat → Hp → V → Hp → Prop} (w : Walk J n G Y) {g : TG} {tt : TT} {tk tv : TE} {vs : List Nat} {σ : L2.St} {H1 : Hp} {D : Addr} {Qd : Hp → Prop} (Pv : Nat → Hp → Prop) (h0 : Pv 0 (upd H1 D (.dK []))) (hG : ∀ i H, i ≤ n → Pv i H → G H)
    (hs : ∀ i x H H', i < n → Pv i H → Y i H x H' → g x (wipe σ vs) H' fun σ2 H2 => wipe σ2 vs = wipe σ vs ∧ tt σ2 H2 fun b H3 =>
      if b = true then tk σ2 H3 fun y H4 => tv σ2 H4 fun z H5 => ∃ kvs k, y = kV k ∧ H5 D = some (.dK kvs) ∧ kvs.length < sizeLine ∧ Pv (i + 1) (upd H5 D (.dK (putK kvs k z))) else Pv (i + 1) H3) (hd : ∀ H, Pv n H → Qd H) :
    ∃ W : Nat → Nat → Hp → Prop, (∃ m, W 0 m (upd H1 D (.dK []))) ∧ ∀ i m H, W i m H →
      (J.stop i H ∧ Qd H) ∨ (J.go i H ∧ ∃ Nx : Hp → Prop, (∀ H', Nx H' → ∃ m', m' < m ∧ W (i + 1) m' H') ∧ ∀ x H', J.yld i H x H' → g x (wipe σ vs) H' fun σ2 H2 => wipe σ2 vs = wipe σ vs ∧ tt σ2 H2 fun b H3 =>
        if b = true then tk σ2 H3 fun y H4 => tv σ2 H4 fun z H5 => ∃ kvs k, y = kV k ∧ H5 D = some (.dK kvs) ∧ kvs.length < sizeLine ∧ Nx (upd H5 D (.dK (putK kvs k z))) else Nx H3) := by
  refine ⟨fun i m H => m = n - i ∧ i ≤ n ∧ Pv i H, ⟨n, by simp, Nat.zero_le _, h0⟩, ?_⟩
  rintro i m H ⟨rfl, hi, p⟩
  have q := hG i H hi p
  by_cases hlt : i < n
  · exact .inr ⟨w.goes i H hlt q, Pv (i + 1), fun H' p' => ⟨n - (i + 1), by omega, rfl, hlt, p'⟩, fun x H' y => hs i x H H' hlt p (w.yields i H x H' hlt q y)⟩
  · have e : i = n := by omega
    subst e
    exact .inl ⟨w.stops H q, hd H p⟩
theorem putK_new {zs : List (Key × V)} {k : Key} {v : V} (h : k ∉ zs.map (·.1)) : putK zs k v = zs ++ [(k, v)] := by
  unfold putK
  rw [if_neg]
  intro q
  obtain ⟨p, hp, e⟩ := List.any_eq_true.mp q
  exact h (List.mem_map.mpr ⟨p, hp, of_decide_eq_true e⟩)
/-- a dict's comprehension, the keys ints told apart: what is known of the new dict -/
theorem dc_td {α : Type} {kx vx : Expr} {scope : Scope} {L : List α} {enc : α → Dat} {sh : Dsl → Dat → Option Dsl} {d1 : α → Dsl} {key : α → Int} {val : α → Dat} {own : List (Str × Nat)} {wi : TI} {gg : TG} {σ : L2.St} {H F : Hp}
    (hw : ∀ R : It → Hp → Prop, (∀ J H1 F1, Grow (dom O) F H F1 H1 → Ok X.K C F1 O1 H1 →
      Walk J (L.map enc).length (fun H' => Ex F1 H') (fun i H x H' => ∀ F2, Ex F1 F2 → Ex F2 H → ∃ F3, Grow [] F2 H F3 H' ∧ Ex F3 H' ∧ ∃ d, (L.map enc)[i]? = some d ∧ Dv X.K C F3 x d) → R J H1) → wi σ H R)
    (hgg : ∀ (ds ds' : Dsl) (d : Dat), sh ds d = some ds' → ∀ (σ : L2.St) (H F : Hp) (v : V), Ex F H → EnvOk X.K C F σ ds → Dv X.K C F v d → ∀ Q : L2.St → Hp → Prop, (∀ σ', EnvOk X.K C F σ' ds' → wipe σ' (own.map (·.2)) = wipe σ (own.map (·.2)) → Q σ' H) → gg v σ H Q)
    (hs : ∀ a ∈ L, sh (wipeD ds (own.map (·.2))) (enc a) = some (d1 a)) (hk : ∀ a ∈ L, ∀ s H C' cl fp, ED (Blk X s H scope C' cl fp) C (d1 a) O1 kx (.int (key a)) O1)
    (he : ∀ a ∈ L, ∀ s H C' cl fp, ED (Blk X s H scope C' cl fp) C (d1 a) O1 vx (val a) O1) (hlen : L.length < 100000) (hnd : (L.map key).Nodup) (dm : dom O1 = dom O) (env : EnvOk X.K C F σ ds) {Q : VK}
    (q : ∀ D H' F1 H1 F2 zs, Grow (dom O) F H F1 H1 → Grow (dom O1) F1 H1 F2 H' → H1 D = none → Ok X.K C F2 O1 H' → H' D = some (.dK zs) → F2 D = none → D ∉ dom O1 → zs.map (·.1) = (L.map key).map Sum.inl → DvAll X.K C F2 (zs.map (·.2)) (L.map val) → Q (.ref D) H') :
    tDc wi gg tYes (wI X scope kx) (wI X scope vx) (own.map (·.2)) σ H Q := by
  refine hw _ fun J H1 F1 g1 ok1 w => ?_
  intro D hD
  have hDF : F1 D = none := ok1.ex.free hD
  have hDO : D ∉ dom O1 := notDom ok1 hD
  have envW : EnvOk X.K C F1 (wipe σ (own.map (·.2))) (wipeD ds (own.map (·.2))) := (env.mono g1.ex).wipe _
  refine dc_it w (fun i H' => i ≤ L.length ∧ ∃ F2 zs, Grow (dom O1) F1 H1 F2 H' ∧ Ok X.K C F2 O1 H' ∧ H' D = some (.dK zs) ∧ F2 D = none ∧ zs.map (·.1) = ((L.take i).map key).map Sum.inl ∧ DvAll X.K C F2 (zs.map (·.2)) ((L.take i).map val))
    ⟨Nat.zero_le _, F1, [], Grow.own hD, ok1.grow0 (Grow.own hD) (ok1.ex.side hDF), upd_same, hDF, rfl, .nil⟩ (fun i H' hi ⟨_, F2, zs, g2, ok2, _⟩ => g2.ex.trans ok2.ex) ?_ ?_
  · rintro i v H2 H3 hi ⟨hi', F2, zs, g2, ok2, hzs, hF2, kzs, dzs⟩ y
    obtain ⟨F3, g3, e3, d, hd, dv⟩ := y F2 g2.ex ok2.ex
    rw [List.getElem?_map] at hd
    obtain ⟨a, ha, rfl⟩ := Option.map_eq_some_iff.mp hd
    have haL : a ∈ L := List.mem_of_getElem? ha
    have ok3 := ok2.grow0 g3 e3
    have hzs3 : H3 D = some (.dK zs) := g3.keepE _ _ hzs
    have hF3 : F3 D = none := g3.new D (by rw [hzs]; simp) hF2 (fun xs z => by rw [hzs] at z; cases z)
    have g13 : Grow (dom O1) F1 H1 F3 H3 := g2.trans g3 fun _ m => by simp at m
    have etake : L.take (i + 1) = L.take i ++ [a] := by rw [List.take_add_one, ha]; rfl
    refine hgg _ _ _ (hs a haL) _ H3 F3 v e3 ((envW.mono g2.ex).mono g3.ex) dv _ fun σ' env' hwp => ?_
    refine ⟨hwp.trans ?_, ?_⟩
    · have : ∀ (τ : L2.St) (us ws : List Nat), (∀ u ∈ us, u ∈ ws) → wipe (wipe τ us) ws = wipe τ ws := by
        intro τ us ws
        induction us with
        | nil => intro _; rfl
        | cons u us ih =>
          intro hs
          show wipe ((wipe τ us).set u none) ws = _
          rw [wipe_set _ _ (hs u List.mem_cons_self), ih fun u hu => hs u (List.mem_cons_of_mem _ hu)]
      exact this σ _ _ fun _ h => h
    · unfold tYes
      dsimp only
      rw [if_pos rfl]
      intro s H0 C' cl fp
      refine (hk a haL s H0 C' cl fp).run σ' H3 F3 ok3 env' _ fun u H4 F4 g4 ok4 du => ?_
      cases du
      have hzs4 : H4 D = some (.dK zs) := g4.keep _ _ hzs3 hDO
      have hF4 : F4 D = none := g4.new D (by rw [hzs3]; simp) hF3 (fun xs z => by rw [hzs3] at z; cases z)
      intro s H0 C' cl fp
      refine (he a haL s H0 C' cl fp).run σ' H4 F4 ok4 (env'.mono g4.ex) _ fun u H5 F5 g5 ok5 du => ?_
      have hzs5 : H5 D = some (.dK zs) := g5.keep _ _ hzs4 hDO
      have hF5 : F5 D = none := g5.new D (by rw [hzs4]; simp) hF4 (fun xs z => by rw [hzs4] at z; cases z)
      have dall := ((dzs.mono g3.ex).mono g4.ex).mono g5.ex
      have hi2 : i < L.length := by simpa using hi
      have hzl : zs.length = i := by
        have := congrArg List.length kzs
        simp only [List.length_map, List.length_take] at this
        omega
      have knew : (Sum.inl (key a) : Key) ∉ zs.map (·.1) := by
        rw [kzs]
        intro m
        obtain ⟨k', hk', e⟩ := List.mem_map.mp m
        have e' := inl_inj _ _ e
        subst e'
        have nd2 := hnd
        have eL : L = L.take i ++ a :: L.drop (i + 1) := by
          have h1 : L[i] = a := by rw [List.getElem?_eq_getElem hi2] at ha; exact Option.some.inj ha
          rw [← h1, ← List.drop_eq_getElem_cons hi2, List.take_append_drop]
        rw [eL, List.map_append, List.map_cons] at nd2
        exact (List.nodup_append.mp nd2).2.2 (key a) hk' (key a) List.mem_cons_self rfl
      refine ⟨zs, Sum.inl (key a), rfl, hzs5, szl (by omega), by omega, F5, zs ++ [(Sum.inl (key a), u)], ?_, ?_, ?_, hF5, ?_, ?_⟩
      · exact ((g13.trans g4 fun _ m => .inl m).trans g5 fun _ m => .inl m).trans (Grow.put (D := [D]) (by simp)) fun b m => .inr (by rw [List.mem_singleton.mp m]; exact hD)
      · exact ok5.grow (Grow.put (D := [D]) (by simp)) (ok5.ex.side hF5) fun x hx m => hDO (by rw [← List.mem_singleton.mp m]; exact List.mem_map.mpr ⟨x, hx, rfl⟩)
      · rw [putK_new knew, upd_same]
      · rw [List.map_append, kzs, etake, List.map_append, List.map_append]
        rfl
      · rw [etake, List.map_append, List.map_append]
        exact dall.append (DvAll.one du)
  · rintro H' ⟨_, F2, zs, g2, ok2, hzs, hF2, kzs, dzs⟩
    rw [List.length_map, List.take_length] at kzs dzs
    exact q D H' F1 H1 F2 zs g1 g2 hD ok2 hzs hF2 hDO kzs dzs
/-- {k: v for x in xs}, the keys ints told apart: a frozen dict -/
theorem ed_dcI {α : Type} {kx vx : Expr} {scope : Scope} (L : List α) (enc : α → Dat) (sh : Dsl → Dat → Option Dsl) (d1 : α → Dsl) (key : α → Int) (val : α → Dat) (own : List (Str × Nat)) {items : List Dat} (hi : IT X C ds O tg iter items O1) (hN : X.N.Nodup) (ok : BlkOk X.N X.env.scope scope own)
    (hg : GBt X C scope (own.map (·.2)) tg sh) (hs : ∀ a ∈ L, sh (wipeD ds (own.map (·.2))) (enc a) = some (d1 a)) (hk : ∀ a ∈ L, ∀ s H C' cl fp, ED (Blk X s H scope C' cl fp) C (d1 a) O1 kx (.int (key a)) O1)
    (he : ∀ a ∈ L, ∀ s H C' cl fp, ED (Blk X s H scope C' cl fp) C (d1 a) O1 vx (val a) O1) (hlen : L.length < 100000) (hnd : (L.map key).Nodup) (hit : items = L.map enc := by rfl) (hc : X.calm = true := by rfl) (hfs : ∀ x, foldedSetIterable iter X.env x = pure x := by intro _; rfl) :
    ED X C ds O (.DictComp kx vx [⟨tg, iter, [], 0⟩] scope pos) (.dic (L.map key) (L.map val)) O1 := by
  obtain ⟨wi, pi, hw⟩ := hi.ex
  obtain ⟨gg, pg, hgg⟩ := hg.ex
  subst hit
  refine ed_of (pe_lockR (pe_dc (own := own) hc hN pi ok (fun s H C' cl fp => pg s H C' cl fp) (fun s H C' cl fp => pts_nil) (fun s H C' cl fp => pe_wI) (fun s H C' cl fp => pe_wI) hfs)) hi.dm fun σ H F okH env Q q => ?_
  refine dc_td (hw σ H F okH env) hgg hs hk he hlen hnd hi.dm env fun D H' F1 H1 F2 zs g1 g2 hD ok2 hzs hF2 hDO kzs dzs => ?_
  refine ⟨D, _, rfl, hzs, trivial, fun od => ?_⟩
  have gf : Grow (dom O1) F1 H1 (upd F2 D (.frz od (.dK zs))) (upd H' D (.frz od (.dK zs))) := g2.freezeTo hF2 hD
  exact q _ _ _ (g1.trans gf fun b m => .inl (by rw [← hi.dm]; exact m)) (ok2.freezeTo hF2 hzs hDO) (.dic upd_same kzs (dzs.mono (Ex.new hF2)))
section
open PyProof.Rows
/-- y = {k: v for ..}, y a name of the def -/
theorem ps_dcUsed {i : Nat} {y : Str} {py : Pos} {kx vx : Expr} {scope : Scope} {own : List (Str × Nat)} {spos : Pos} {wi : TI} {g : TG} {tt : TT} {tk tv : TE} (hc : X.calm = true) (hN : X.N.Nodup) (hy : X.N[i]? = some y) (hyl : X.env.scope.names.lookup y = some .local)
    (hsw : swapsWith (.DictComp kx vx [⟨tg, iter, ifs, 0⟩] scope pos) (some (.Name y py)) spos.line X.env = pure true) (hi : PI X tg iter wi) (ok : BlkOk X.N X.env.scope scope own)
    (hg : ∀ (s : Shared) (H : Hp) (C : Addr) (cl : List (Str × Addr)) (fp : List Addr), PG (X.blk s H scope (compEnvC scope cl C X.env) fp) tg g) (ht : ∀ (s : Shared) (H : Hp) (C : Addr) (cl : List (Str × Addr)) (fp : List Addr), PTs (X.blk s H scope (compEnvC scope cl C X.env) fp) ifs tt)
    (hk : ∀ (s : Shared) (H : Hp) (C : Addr) (cl : List (Str × Addr)) (fp : List Addr), PE (X.blk s H scope (compEnvC scope cl C X.env) fp) kx tk)
    (he : ∀ (s : Shared) (H : Hp) (C : Addr) (cl : List (Str × Addr)) (fp : List Addr), PE (X.blk s H scope (compEnvC scope cl C X.env) fp) vx tv) (hs : ∀ x, foldedSetIterable iter X.env x = pure x) :
    PS X (.Assign [.Name y py] (.DictComp kx vx [⟨tg, iter, ifs, 0⟩] scope pos) spos) (tAsg (tDc wi g tt tk tv (own.map (·.2))) (gName i)) := ⟨fun pins s σ H D I h => by
  rw [exec_Assign_Name_used _ _ _ _ hsw]
  have h : tDc wi g tt tk tv (own.map (·.2)) σ H (fun x H1 => gName i x σ H1 D.nx) := h
  have fin : ∀ (L CC : Addr) (s' : Shared) (m : Str → Option Value) (H' : Hp), L2.Inv X pins σ H' s' → gName i (.ref L) σ H' D.nx → s'.heap.Ns CC m → FpOk X pins H' CC → compPost (model X.prog X.w) X.A X.xe (some (assign (.Name y py) X.env)) (fun _ s' => SP X pins D .next s') (.ref L) CC (.ok .next) s' := fun L CC s' m H' I' q hn f => by
    show wpAny _ _ (assign (.Name y py) X.env (.ref L)) _ _ _
    refine wpAny_assign_Name (store_ok2 (v := V.ref L) I' hN hy (.inl hyl) rfl (fun s2 I2 ⟨a, sb, ha⟩ => ?_) (.inr hyl))
    have haC : CC ≠ a := ha.elim (fun z => by rw [z]; exact f.2.1) fun z => fun e => f.2.2.2.2.1 y a z e.symm
    exact ⟨m, hn.sameBut sb haC, fun h3 sb3 => ⟨_, H', I2.turned (t' := s2.toks) (fun b o hb e => (sb3.2 b hb).trans e) f.1 f.2.1 f.2.2.2.1 f.2.2.2.2.1 f.2.2.2.2.2, q⟩⟩
  refine wpAny_bind (wpAny_standAt (wpAny_bind ?_))
  show wpAny _ X.A (do let _ ← comprehension (.DictComp kx vx [⟨tg, iter, ifs, 0⟩] scope pos) scope X.env (firstIterPos [⟨tg, iter, ifs, 0⟩] pos) newDict false (eval iter X.env) (some (assign (.Name y py) X.env))) _ _ s
  exact wpAny_bind (thn (dc_core (Qf := fun _ s' => SP X pins D .next s') hc hN I hi ok hg ht hk he hs h fin) fun _ s' hq => wpAny_pure (wpAny_pure hq))⟩
theorem swd_true {kx vx : Expr} {gs : List Comprehension} {scope : Scope} {pos py : Pos} {y : Str} {l : Nat} {env : Env} (hk : env.scope.kind = .function) (hy : env.scope.names.lookup y = some .local) (hl : (py.line == pos.line) = true)
    (ha : (scope.names.any fun (n, k) => n == y && (k == .local || k == .cell)) = false) : swapsWith (.DictComp kx vx gs scope pos) (some (.Name y py)) l env = pure true := by
  have ky : env.kindOf y = some .local := hy
  have hb : env.blockKind = .function := by unfold Env.blockKind; rw [hk]; rfl
  unfold swapsWith
  simp only [hb, ky, ha, Expr.pos, hl]
  rfl
end
theorem sds_setDc {α : Type} {kx vx : Expr} {scope : Scope} (i : Nat) (L : List α) (enc : α → Dat) (sh : Dsl → Dat → Option Dsl) (d1 : α → Dsl) (key : α → Int) (val : α → Dat) (own : List (Str × Nat)) {n : Str} {py spos : Pos} {items : List Dat} (hi : IT X C ds O tg iter items O1) (hN : X.N.Nodup) (ok : BlkOk X.N X.env.scope scope own)
    (hg : GBt X C scope (own.map (·.2)) tg sh) (hs : ∀ a ∈ L, sh (wipeD ds (own.map (·.2))) (enc a) = some (d1 a)) (hk : ∀ a ∈ L, ∀ s H C' cl fp, ED (Blk X s H scope C' cl fp) C (d1 a) O1 kx (.int (key a)) O1)
    (he : ∀ a ∈ L, ∀ s H C' cl fp, ED (Blk X s H scope C' cl fp) C (d1 a) O1 vx (val a) O1) (hlen : L.length < 100000) (hnd : (L.map key).Nodup)
    (h : ∀ q, SDs X (At X C E (ds.set i (some (.loc q))) ((q, .dI (L.map fun a => (key a, val a))) :: O1)) rest D) (hit : items = L.map enc := by rfl) (hy : X.N[i]? = some n := by rfl) (hyl : X.env.scope.names.lookup n = some .local := by rfl)
    (hsw : swapsWith (.DictComp kx vx [⟨tg, iter, [], 0⟩] scope pos) (some (.Name n py)) spos.line X.env = pure true := by exact swd_true rfl rfl rfl (by decide +kernel)) (hc : X.calm = true := by rfl) (hfs : ∀ x, foldedSetIterable iter X.env x = pure x := by intro _; rfl) :
    SDs X (At X C E ds O) (.Assign [.Name n py] (.DictComp kx vx [⟨tg, iter, [], 0⟩] scope pos) spos :: rest) D := by
  obtain ⟨wi, pi, hw⟩ := hi.ex
  obtain ⟨gg, pg, hgg⟩ := hg.ex
  subst hit
  refine sds_cons (ps_dcUsed (own := own) hc hN hy hyl hsw pi ok (fun s H C' cl fp => pg s H C' cl fp) (fun s H C' cl fp => pts_nil) (fun s H C' cl fp => pe_wI) (fun s H C' cl fp => pe_wI) hfs) fun σ H ⟨F, pp⟩ => ?_
  show tDc wi gg tYes (wI X scope kx) (wI X scope vx) (own.map (·.2)) σ H (fun x H1 => gName i x σ H1 (wSs X rest D))
  refine dc_td (hw σ H F pp.ok pp.env) hgg hs hk he hlen hnd hi.dm pp.env fun D' H' F1 H1 F2 zs g1 g2 hD ok2 hzs hF2 hDO kzs dzs => ?_
  have gg2 : Grow (dom O) F H F2 H' := g1.trans g2 fun b m => .inl (by rw [← hi.dm]; exact m)
  have p2 := pp.step gg2 ok2 hi.dm
  have hEF : E.H D' = none := by
    cases z : E.H D' with
    | none => rfl
    | some u => exact absurd hD (g1.there D' (pp.g.there D' (by rw [z]; simp)))
  refine h D' _ _ ⟨F2, ⟨p2.g, fun e he => ?_, ok2.cons hF2 ⟨zs, hzs, by rw [kzs, List.map_map, List.map_map]; rfl, by rw [List.map_map]; exact dzs⟩ hDO, p2.env.set i (.loc D')⟩⟩
  rcases List.mem_cons.mp he with rfl | he
  · exact .inr hEF
  · exact p2.dm e he
end
end Sw
/-! The data layer: a list of lists that may change. -/
namespace Sw
open PySem PySem.Spec L2
section
variable {K : PySem.W.Frag} {C : Addr} {F H : Hp} {O O' : Led}
theorem Ok.perm (h : Ok K C F O H) (p : O.Perm O') : Ok K C F O' H := ⟨h.ex, fun e he => h.fr e (p.mem_iff.mpr he), (p.map (·.1)).nodup_iff.mp h.nd, fun e he => h.at_ e (p.mem_iff.mpr he)⟩
def tabL (ps : List Addr) (T : List (List Dat)) : Led := List.zipWith (fun p xs => (p, MO.lst xs)) ps T
theorem tabL_dom : ∀ {ps : List Addr} {T : List (List Dat)}, ps.length = T.length → dom (tabL ps T) = ps
  | [], [], _ => rfl
  | p :: ps, t :: T, h => by
    show p :: dom (tabL ps T) = _
    rw [tabL_dom (by simpa using h)]
  | [], _ :: _, h => by simp at h
  | _ :: _, [], h => by simp at h
theorem tabL_get {ps : List Addr} {T : List (List Dat)} {j : Nat} {p : Addr} {xs : List Dat} (h1 : ps[j]? = some p) (h2 : T[j]? = some xs) : (tabL ps T)[j]? = some (p, .lst xs) := by
  unfold tabL
  rw [List.getElem?_zipWith, h1, h2]
theorem tabL_set : ∀ {ps : List Addr} {T : List (List Dat)} {j : Nat} {p : Addr} {xs : List Dat}, ps[j]? = some p → (tabL ps T).set j (p, .lst xs) = tabL ps (T.set j xs)
  | [], _, _, _, _, h => by simp at h
  | q :: ps, [], _, _, _, h => by simp [tabL]
  | q :: ps, t :: T, 0, p, xs, h => by
    simp at h
    subst h
    rfl
  | q :: ps, t :: T, j + 1, p, xs, h => by
    show (q, MO.lst t) :: (tabL ps T).set j (p, .lst xs) = _
    rw [tabL_set (by simpa using h)]
    rfl
theorem dvTab : ∀ {ps : List Addr} {T : List (List Dat)} {vs : List V}, ps.length = T.length → DvAll K C F vs (ps.map .loc) → (∀ (j : Nat) (q : Addr) (xs : List Dat), ps[j]? = some q → T[j]? = some xs → Dv K C F (.ref q) (.lst xs)) → DvAll K C F vs (T.map .lst)
  | [], [], vs, _, h, _ => by cases h; exact .nil
  | q :: ps, t :: T, vs, hl, h, at_ => by
    cases h with
    | cons a b =>
      cases a
      exact .cons (at_ 0 q t rfl rfl) (dvTab (by simpa using hl) b fun j q xs hq hx => at_ (j + 1) q xs (by simpa using hq) (by simpa using hx))
  | [], _ :: _, _, h, _, _ => by simp at h
  | _ :: _, [], _, h, _, _ => by simp at h
theorem tabL_len {ps : List Addr} {T : List (List Dat)} (h : ps.length = T.length) : (tabL ps T).length = ps.length := by
  have := congrArg List.length (tabL_dom h)
  rwa [List.length_map] at this
end
section
variable {X : Cx} {C : Addr} {ds ds' ds1 ds2 : Dsl} {O O' O1 O2 O3 : Led} {e a b c o tg iter elt : Expr} {d x y z : Dat} {E : En} {F F' H H' : Hp} {σ : L2.St} {p p2 q pos : Pos} {k k' : Bool} {es ifs : List Expr} {rest body orelse : List Stmt} {D : Ends}
/-- .. .append(e), the list at the j-th entry -/
theorem ed_appendAt (j : Nat) {xs : List Dat} {r : Addr} {apos : Pos} (ho : ED X C ds O o (.loc r) O1) (he : AD X C ds O1 (e :: es) [x] O1) (hj : O1[j]? = some (r, .lst xs)) (hl : xs.length < 100000) (hb : BmOk X o "append" apos e es pos := by exact ⟨rfl, rfl, rfl, rfl, rfl⟩) :
    ED X C ds O (.Call (.Attribute o "append" apos) (e :: es) [] pos) .non (O1.set j (r, .lst (xs ++ [x]))) := by
  obtain ⟨h1, h2⟩ := List.getElem?_eq_some_iff.mp hj
  have e1 : O1 = O1.take j ++ (r, .lst xs) :: O1.drop (j + 1) := by
    rw [← h2, ← List.drop_eq_getElem_cons h1, List.take_append_drop]
  have e2 : O1.set j (r, .lst (xs ++ [x])) = O1.take j ++ (r, .lst (xs ++ [x])) :: O1.drop (j + 1) := by
    rw [List.set_eq_take_append_cons_drop, if_pos h1]
  rw [e2]
  exact ed_append (O1.take j) (O1.drop (j + 1)) ho (by rw [← e1]; exact he) hl e1 hb
/-- name = [[] for _ in ..] -/
theorem sds_newTab (i : Nat) {items : List Dat} {n : Str} {scope : Scope} {py spos lp : Pos} (sh : Dsl → Dat → Option Dsl) (d1 : Dat → Dsl) (own : List (Str × Nat)) (hi : IT X C ds O tg iter items O1) (hN : X.N.Nodup) (ok : BlkOk X.N X.env.scope scope own)
    (hg : GBt X C scope (own.map (·.2)) tg sh) (hs : ∀ a ∈ items, sh (wipeD ds (own.map (·.2))) a = some (d1 a)) (hlen : items.length ≤ 100000)
    (h : ∀ ps : List Addr, ps.length = items.length → SDs X (At X C E (ds.set i (some (.lst (ps.map .loc)))) (tabL ps (List.replicate items.length []) ++ O1)) rest D) (hy : X.N[i]? = some n := by rfl) (hyl : X.env.scope.names.lookup n = some .local := by rfl)
    (hsw : swapsWith (.ListComp (.List [] lp) [⟨tg, iter, [], 0⟩] scope pos) (some (.Name n py)) spos.line X.env = pure true := by exact sw_true rfl rfl rfl (by decide +kernel)) (hc : X.calm = true := by rfl) (hfs : ∀ x, foldedSetIterable iter X.env x = pure x := by intro _; rfl) :
    SDs X (At X C E ds O) (.Assign [.Name n py] (.ListComp (.List [] lp) [⟨tg, iter, [], 0⟩] scope pos) spos :: rest) D := by
  obtain ⟨wi, pi, hw⟩ := hi.ex
  obtain ⟨gg, pg, hgg⟩ := hg.ex
  refine sds_cons (ps_setLc (own := own) hc hN hy hyl hsw pi ok (fun s H C' cl fp => pg s H C' cl fp) (fun s H C' cl fp => pts_nil) (fun s H C' cl fp => pe_lst pa_nil) hfs) fun σ H ⟨F, pp⟩ => ?_
  show tLc wi gg tYes (tLst tNil) (own.map (·.2)) σ H (fun x H1 => gName i x σ H1 (wSs X rest D))
  refine hw σ H F pp.ok pp.env _ fun J H1 F1 g1 ok1 w => ?_
  intro D hD
  have hDF : F1 D = none := ok1.ex.free hD
  have hDO : D ∉ dom O1 := notDom ok1 hD
  have envW : EnvOk X.K C F1 (wipe σ (own.map (·.2))) (wipeD ds (own.map (·.2))) := (pp.env.mono g1.ex).wipe _
  refine lc_it w (fun j H' => j ≤ items.length ∧ ∃ F2 ps, ps.length = j ∧ Grow (dom O1) F1 H1 F2 H' ∧ Ok X.K C F2 (tabL ps (List.replicate j []) ++ O1) H' ∧ H' D = some (.lst (ps.map V.ref)) ∧ F2 D = none ∧ D ∉ ps ∧ ∀ q ∈ ps, H1 q = none)
    ⟨Nat.zero_le _, F1, [], rfl, Grow.own hD, ok1.grow0 (Grow.own hD) (ok1.ex.side hDF), upd_same, hDF, List.not_mem_nil, fun _ h => nomatch h⟩ (fun j H' hj ⟨_, F2, ps, _, g2, ok2, _⟩ => g2.ex.trans ok2.ex) ?_ ?_
  · rintro j v H2 H3 hj ⟨hj', F2, ps, hps, g2, ok2, hacc, hF2, hDp, hnew⟩ y
    obtain ⟨F3, g3, e3, d, hd, dv⟩ := y F2 g2.ex ok2.ex
    have hdm : d ∈ items := List.mem_of_getElem? hd
    have ok3 := ok2.grow0 g3 e3
    have hacc3 : H3 D = some (.lst (ps.map V.ref)) := g3.keepE _ _ hacc
    have hF3 : F3 D = none := g3.new D (by rw [hacc]; simp) hF2 (fun xs z => by rw [hacc] at z; cases z)
    have g13 : Grow (dom O1) F1 H1 F3 H3 := g2.trans g3 fun _ m => by simp at m
    refine hgg _ _ _ (hs d hdm) _ H3 F3 v e3 ((envW.mono g2.ex).mono g3.ex) dv _ fun σ' env' hwp => ?_
    refine ⟨hwp.trans ?_, ?_⟩
    · have : ∀ (τ : L2.St) (us ws : List Nat), (∀ u ∈ us, u ∈ ws) → wipe (wipe τ us) ws = wipe τ ws := by
        intro τ us ws
        induction us with
        | nil => intro _; rfl
        | cons u us ih =>
          intro hs
          show wipe ((wipe τ us).set u none) ws = _
          rw [wipe_set _ _ (hs u List.mem_cons_self), ih fun u hu => hs u (List.mem_cons_of_mem _ hu)]
      exact this σ _ _ fun _ h => h
    · unfold tYes
      dsimp only
      rw [if_pos rfl]
      refine ⟨Nat.zero_le _, fun q hq => ?_⟩
      have hqD : q ≠ D := fun z => by rw [z, hacc3] at hq; cases hq
      have hFq := ok3.ex.free hq
      have ok4 : Ok X.K C F3 ((q, .lst []) :: (tabL ps (List.replicate j []) ++ O1)) (upd H3 q (.lst [])) := (ok3.grow0 (Grow.own hq) (ok3.ex.side hFq)).cons hFq ⟨[], upd_same, .nil⟩ (notDom ok3 hq)
      have hlt : j < items.length := hj
      have g14 : Grow (dom O1) F1 H1 F3 (upd H3 q (.lst [])) := g13.trans (Grow.own (D := []) hq) fun _ m => by simp at m
      have hH1q : H1 q = none := by
        cases z : H1 q with
        | none => rfl
        | some u => exact absurd hq (g13.there q (by rw [z]; simp))
      refine ⟨ps.map V.ref, by rw [upd_ne hqD.symm]; exact hacc3, szl (by rw [List.length_map]; omega), by omega, F3, ps ++ [q], by simp [hps], ?_, ?_, ?_, hF3, ?_, ?_⟩
      · exact g14.trans (Grow.put (D := [D]) (by simp)) fun b m => .inr (by rw [List.mem_singleton.mp m]; exact hD)
      · have e5 : ((q, MO.lst []) :: (tabL ps (List.replicate j []) ++ O1)).Perm (tabL (ps ++ [q]) (List.replicate (j + 1) []) ++ O1) := by
          have : tabL (ps ++ [q]) (List.replicate (j + 1) []) = tabL ps (List.replicate j []) ++ [(q, .lst [])] := by
            unfold tabL
            rw [List.replicate_succ', List.zipWith_append (by simp [hps])]
            rfl
          rw [this]
          simp only [List.append_assoc, List.singleton_append]
          exact List.perm_middle.symm
        refine (ok4.grow (Grow.put (D := [D]) (by simp)) (ok4.ex.side hF3) fun x hx m => ?_).perm e5
        have hxD : x.1 = D := List.mem_singleton.mp m
        have hmem : D ∈ dom ((q, MO.lst []) :: (tabL ps (List.replicate j []) ++ O1)) := List.mem_map.mpr ⟨x, hx, hxD⟩
        rcases List.mem_cons.mp hmem with z | z
        · exact hqD z.symm
        · replace z : D ∈ dom (tabL ps (List.replicate j []) ++ O1) := z
          rw [show dom (tabL ps (List.replicate j []) ++ O1) = dom (tabL ps (List.replicate j [])) ++ dom O1 from List.map_append, tabL_dom (by simp [hps])] at z
          rcases List.mem_append.mp z with z | z
          · exact hDp z
          · exact hDO z
      · rw [upd_same, List.map_append]
        rfl
      · intro m
        rcases List.mem_append.mp m with m | m
        · exact hDp m
        · exact hqD (List.mem_singleton.mp m).symm
      · intro z hz
        rcases List.mem_append.mp hz with hz | hz
        · exact hnew z hz
        · rw [List.mem_singleton.mp hz]; exact hH1q
  · rintro H' ⟨_, F2, ps, hps, g2, ok2, hacc, hF2, hDp, hnew⟩
    have hDO2 : D ∉ dom (tabL ps (List.replicate items.length []) ++ O1) := fun m => by
      rw [show dom (tabL ps (List.replicate items.length []) ++ O1) = dom (tabL ps (List.replicate items.length [])) ++ dom O1 from List.map_append, tabL_dom (by simp [hps])] at m
      rcases List.mem_append.mp m with m | m
      · exact hDp m
      · exact hDO m
    have p1 := pp.step g1 ok1 hi.dm
    have hE : ∀ q, H1 q = none → E.H q = none := fun q hq => by
      cases z : E.H q with
      | none => rfl
      | some u => exact absurd hq (p1.g.there q (by rw [z]; simp))
    have gf : Grow (dom O1) F1 H1 (upd F2 D (.lst (ps.map V.ref))) H' := g2.freeze hF2 hD
    refine h ps hps _ _ ⟨upd F2 D (.lst (ps.map V.ref)), ⟨p1.g.trans gf fun b m => ?_, fun e he => ?_, ok2.freeze hF2 hacc hDO2, ?_⟩⟩
    · obtain ⟨e, he, rfl⟩ := List.mem_map.mp m
      exact p1.dm e he
    · rcases List.mem_append.mp he with he | he
      · have : e.1 ∈ ps := by
          have h1 : e.1 ∈ dom (tabL ps (List.replicate items.length [])) := List.mem_map.mpr ⟨e, he, rfl⟩
          rwa [tabL_dom (by simp [hps])] at h1
        exact .inr (hE _ (hnew _ this))
      · exact p1.dm e he
    · have locs : ∀ ps : List Addr, DvAll X.K C (upd F2 D (.lst (ps.map V.ref))) (ps.map V.ref) (ps.map Dat.loc) := fun ps => by
        generalize upd F2 D (.lst (ps.map V.ref)) = G
        induction ps with
        | nil => exact .nil
        | cons p ps ih => exact .cons (.loc p) ih
      exact (p1.env.mono gf.ex).set i (.lst upd_same (locs ps))
/-- all the lists of a list are frozen -/
theorem AtF.freezeTab {ps : List Addr} {T : List (List Dat)} (p : AtF X C E ds (tabL ps T ++ O) F σ H) (hl : ps.length = T.length) (hD : ∀ q ∈ ps, q ∉ E.D) : ∃ F', Ex F F' ∧ AtF X C E ds O F' σ H ∧ ∀ v, Dv X.K C F v (.lst (ps.map .loc)) → Dv X.K C F' v (.lst (T.map .lst)) := by
  have hd : dom (tabL ps T ++ O) = ps ++ dom O := by
    show (tabL ps T ++ O).map (·.1) = _
    rw [List.map_append]
    congr 1
    exact tabL_dom hl
  have nd := p.ok.nd
  rw [show (tabL ps T ++ O).map (·.1) = ps ++ dom O from hd] at nd
  obtain ⟨n1, n2, n3⟩ := List.nodup_append.mp nd
  have mem : ∀ q ∈ ps, ∃ e ∈ tabL ps T ++ O, e.1 = q := fun q hq => by
    have : q ∈ dom (tabL ps T ++ O) := by rw [hd]; exact List.mem_append_left _ hq
    obtain ⟨e, he, h⟩ := List.mem_map.mp this
    exact ⟨e, he, h⟩
  have hF : ∀ q ∈ ps, F q = none := fun q hq => by
    obtain ⟨e, he, rfl⟩ := mem q hq
    exact p.ok.fr e he
  have hE : ∀ q ∈ ps, E.H q = none := fun q hq => by
    obtain ⟨e, he, rfl⟩ := mem q hq
    exact (p.dm e he).resolve_left (hD _ hq)
  obtain ⟨F', hF'⟩ : ∃ F' : Hp, ∀ b, (b ∈ ps → F' b = H b) ∧ (b ∉ ps → F' b = F b) :=
    ⟨fun b => if b ∈ ps then H b else F b, fun b => ⟨fun hb => if_pos hb, fun hb => if_neg hb⟩⟩
  have ex : Ex F F' := fun b u e => by
    rw [(hF' b).2 (fun hb => by rw [hF b hb] at e; cases e)]
    exact e
  have ex2 : Ex F' H := fun b u e => by
    by_cases hb : b ∈ ps
    · rw [(hF' b).1 hb] at e; exact e
    · rw [(hF' b).2 hb] at e; exact p.ok.ex b u e
  refine ⟨F', ex, ⟨⟨p.g.ex.trans ex, p.g.keep, p.g.there, fun b n e t => ?_, p.g.ty⟩, fun e he => p.dm e (List.mem_append_right _ he), ⟨ex2, fun e he => ?_, n2, fun e he => (p.ok.at_ e (List.mem_append_right _ he)).mono ex rfl⟩, p.env.mono ex⟩, fun v hv => ?_⟩
  · have hb : b ∉ ps := fun hb => n (hE b hb)
    rw [(hF' b).2 hb]
    exact p.g.new b n e t
  · have hb : e.1 ∉ ps := fun hb => n3 _ hb _ (List.mem_map.mpr ⟨e, he, rfl⟩) rfl
    rw [(hF' _).2 hb]
    exact p.ok.fr e (List.mem_append_right _ he)
  · cases hv.mono ex with
    | @lst a vs _ h1 h2 =>
      refine .lst h1 (dvTab hl h2 fun j q xs hq hx => ?_)
      obtain ⟨ws, w1, w2⟩ := p.ok.at_ (q, .lst xs) (List.mem_append_left _ (List.mem_of_getElem? (tabL_get hq hx)))
      exact .lst (by rw [(hF' q).1 (List.mem_of_getElem? hq)]; exact w1) (w2.mono ex)
/-- the lists of a list handed over: all of them are frozen -/
theorem sds_freezeTab (i : Nat) {ps : List Addr} {T : List (List Dat)} {st : List Stmt} (hl : ps.length = T.length) (hD : ∀ q ∈ ps, q ∉ E.D) (h : SDs X (At X C E (ds.set i (some (.lst (T.map .lst)))) O) st D) (hi : ds[i]? = some (some (.lst (ps.map .loc)))) : SDs X (At X C E ds (tabL ps T ++ O)) st D := h.imp fun σ H ⟨F, p⟩ => by
  obtain ⟨F', ex, p', hv⟩ := p.freezeTab hl hD
  refine ⟨F', ⟨p'.g, p'.dm, p'.ok, ?_⟩⟩
  have env' := p'.env
  refine ⟨by simp [env'.1], fun j d hj => ?_⟩
  by_cases hij : i = j
  · subst hij
    have hil : i < ds.length := (List.getElem?_eq_some_iff.mp hi).1
    rw [List.getElem?_set_self hil] at hj
    cases hj
    obtain ⟨v, e1, e2⟩ := p.env.2 i _ hi
    exact ⟨v, e1, hv v e2⟩
  · rw [List.getElem?_set_ne hij] at hj
    exact env'.2 j d hj
/-- a list of lists handed back: all of them are frozen -/
theorem Rt.freezeTab {ps : List Addr} {T : List (List Dat)} {post : Dat → Led → Prop} {v : V} (hl : ps.length = T.length) (h : Rt X C E (fun d O' => d = .lst (ps.map .loc) ∧ O' = tabL ps T ++ O ∧ (∀ e ∈ O', e.1 ∈ E.D ∨ E.H e.1 = none) ∧ ∀ q ∈ ps, q ∉ E.D) v H) (hp : post (.lst (T.map .lst)) O) : Rt X C E post v H := by
  obtain ⟨F, d, O', g, ok, hd, rfl, rfl, dm, hD⟩ := h
  obtain ⟨F', ex, p', hv⟩ := AtF.freezeTab (σ := []) (ds := []) ⟨g, dm, ok, ⟨rfl, fun i d h => by simp at h⟩⟩ hl hD
  exact ⟨F', _, O, p'.g, p'.ok, hv v hd, hp⟩
end
end Sw
/-! The data layer: three names at once. -/
namespace Sw
open PySem PySem.Spec L2
section
variable {X : Cx} {C : Addr} {ds : Dsl} {O O' : Led} {a b c : Expr} {x y z : Dat} {E : En} {pos : Pos} {rest : List Stmt} {D : Ends}
theorem all3 {K : PySem.W.Frag} {F : Hp} {vs : List V} {x y z : Dat} (h : DvAll K C F vs [x, y, z]) : ∃ v u w, vs = [v, u, w] ∧ Dv K C F v x ∧ Dv K C F u y ∧ Dv K C F w z := by
  cases h with
  | cons h1 h2 => cases h2 with
    | cons h2 h3 => cases h3 with
      | cons h3 h4 => cases h4; exact ⟨_, _, _, rfl, h1, h2, h3⟩
theorem sds_par3 (i j l : Nat) {n m r : Str} {px py pz pt pt2 : Pos} {kt k2 : Nat} (hN : X.N.Nodup) (ha : AD X C ds O [a, b, c] [x, y, z] O') (h : SDs X (At X C E (((ds.set i (some x)).set j (some y)).set l (some z)) O') rest D) (hij : i ≠ j := by decide) (hil : i ≠ l := by decide) (hjl : j ≠ l := by decide) (hi : X.N[i]? = some n := by rfl) (hj : X.N[j]? = some m := by rfl) (hl : X.N[l]? = some r := by rfl)
    (hx : X.env.scope.names.lookup n = some .local := by rfl) (hy : X.env.scope.names.lookup m = some .local := by rfl) (hz : X.env.scope.names.lookup r = some .local := by rfl) (hw : swappedStores [.Tuple [.Name n px, .Name m py, .Name r pz] kt pt] (.Tuple [a, b, c] k2 pt2) X.env = pure (some [n, m, r]) := by rfl)
    (hs : swapsWithSole [.Tuple [.Name n px, .Name m py, .Name r pz] kt pt] (.Tuple [a, b, c] k2 pt2) pos.line X.env = pure false := by rfl) (hc : X.calm = true := by rfl) :
    SDs X (At X C E ds O) (.Assign [.Tuple [.Name n px, .Name m py, .Name r pz] kt pt] (.Tuple [a, b, c] k2 pt2) pos :: rest) D :=
  sds_cons (ps_par3 hc hN hi hj hl hij hil hjl hx hy hz pa_w hw hs) fun σ H ⟨F, p⟩ => ha.run σ H F p.ok p.env _ fun vs H1 F1 g1 ok1 d1 => by
    obtain ⟨v, u, w, rfl, h1, h2, h3⟩ := all3 d1
    have go := h _ _ ⟨F1, (((p.step g1 ok1 ha.dm).set i h1).set j h2).set l h3⟩
    exact ⟨v, u, w, rfl, go⟩
end
theorem star_get {s : SkyD} {i : Int} (h0 : 0 ≤ i) (h1 : i < s.stars.length) : (s.stars.map t3)[i.toNat]? = some (t3 (starAt s i)) := by
  rw [List.getElem?_map]
  unfold starAt
  rw [List.getD_eq_getElem?_getD, List.getElem?_eq_getElem (show i.toNat < s.stars.length by omega)]
  rfl
end Sw
/-! The data layer: a dict of one pair whose key is a tuple. -/
namespace Sw
open PySem PySem.Spec L2
section
variable {X : Cx} {C : Addr} {ds : Dsl} {O O1 O2 O' : Led} {kx vx : Expr} {x y : Dat} {E : En} {pos : Pos} {rest : List Stmt} {D : Ends}
def tDisT (tk tv : TE) : TE := fun σ H Q => ∀ p, H p = none → tk σ (upd H p (.dT [])) fun x H1 => tv σ H1 fun y H2 => ∃ k b, x = .ref b ∧ H2 b = some (.tup (k.map kV)) ∧ H2 p = some (.dT []) ∧ Q (.ref p) (upd H2 p (.dT [(k, y)]))
theorem pe_disT {tk tv : TE} (hu : X.A.units + 2 < cLine) (hk : PE X kx tk) (hv : PE X vx tv) : PE X (.Dict [some kx] [vx] pos) (tDisT tk tv) := ⟨fun pins s σ H Q I h => by
  have hn := I.hok.fresh (Nat.le_refl s.heap.objs.size)
  have I1 := I.laid (a := s.heap.objs.size) (o := .dT []) (h' := s.heap.push { cls := .type "dict", data := .dict #[] }) (t' := s.toks) (fun _ _ q => Heap.get?_push_of_some _ q) (Nat.le_refl _) (dt_empty s.heap I.big)
  rw [arm_eval_Dict, zip_pairTrees [some kx] [vx] X.env pos rfl rfl, dictDisplay_pairs (pairTrees [some kx] [vx] X.env pos) (by intro z; cases z) (by show 1 < 17; decide)]
  refine wpAny_bind (wpAny_standAt (wpAny_bind (wpAny_subDictH (knd := tupleKind (mixKind X.prog X.w)) (Q := fun d s' => wpAny (model X.prog X.w) X.A (pure (Value.ref d)) (EP X pins σ Q) X.xe s') (show X.A.units < cLine by omega) (by show 1 ≤ 15; decide) ?_)))
  refine pairTrees_cons_walk (thn (hk.run pins _ σ _ _ I1 (h _ hn)) fun u s1 ⟨x, H1, I2, rx, q1⟩ => thn (hv.run pins s1 σ H1 _ I2 q1) fun r s2 ⟨y, H2, I3, ry, k, b, ex, eb, ep, q2⟩ => pairTrees_nil_walk ?_)
  subst ex
  obtain rfl : u = Value.ref b := rx
  obtain ⟨z, hd, xs, rel, dd⟩ := dt_of I3.hok ep
  have hx : xs = [] := by
    cases rel
    rfl
  subst hx
  refine ⟨[(k, b, r)], ⟨rfl, rfl, key_of I3.hok eb, trivial⟩, dd, fun h' tk' hm hs => wpAny_pure ?_⟩
  have hm' : h'.DictOfH (tupleKind (mixKind X.prog X.w)) s.heap.objs.size [(k, b, r)] := hm
  obtain ⟨o2, es2, ep2, ho2, h22, h32, h42, _, h52⟩ := hm'
  have hb : b ≠ s.heap.objs.size := fun e => by rw [e, ep] at eb; cases eb
  refine ⟨.ref s.heap.objs.size, _, d_write (ob := .dT [(k, y)]) I3 (by rw [ep]; exact True.intro) hs ⟨o2, ho2⟩ ⟨by show 1 ≤ sizeLine; decide, hd, [(k, b, r)], .cons ⟨rfl, by rw [upd_ne hb]; exact eb, ry⟩ .nil, o2, es2, ep2, ho2, h22, h32, h42, h52⟩, rfl, q2⟩⟩
/-- x = {k: v}, k a tuple of ints -/
theorem sds_newDT (j : Nat) {n : Str} {pos' : Pos} {k : List Int} {d : Dat} (hr : X.A.units + 64 < cLine) (hN : X.N.Nodup) (hk : ED X C ds O kx (.tup (k.map .int)) O) (hv : ED X C ds O vx d O) (h : ∀ q, SDs X (At X C E (ds.set j (some (.loc q))) ((q, .dT [(k, d)]) :: O)) rest D) (hi : X.N[j]? = some n := by rfl) (hx : Loc X.env.scope n := by first | exact Or.inl rfl | exact Or.inr rfl)
    (hs : swapsWith (.Dict [some kx] [vx] pos) (some (.Name n pos')) pos.line X.env = pure false := by rfl) (hf : X.fn n = true ∨ X.env.scope.names.lookup n = some .local := by first | exact .inl rfl | exact .inr rfl) : SDs X (At X C E ds O) (.Assign [.Name n pos'] (.Dict [some kx] [vx] pos) pos :: rest) D :=
  sds_cons (ps_set hN hi hx (pe_disT (by omega) pe_w pe_w) hs hf) fun σ H ⟨F, pp⟩ => fun q hq => by
    have hF := pp.ok.ex.free hq
    have hqO := notDom pp.ok hq
    have ok0 : Ok X.K C F O (upd H q (.dT [])) := pp.ok.grow0 (Grow.own hq) (pp.ok.ex.side hF)
    have g0 : Grow (dom O) F H F (upd H q (.dT [])) := Grow.own hq
    refine hk.run σ _ F ok0 pp.env _ fun u H1 F1 g1 ok1 d1 => ?_
    have e1 : H1 q = some (.dT []) := g1.keep _ _ upd_same hqO
    have f1 : F1 q = none := g1.new q (by rw [upd_same]; simp) hF (fun xs z => by rw [upd_same] at z; cases z)
    refine hv.run σ H1 F1 ok1 (pp.env.mono g1.ex) _ fun w H2 F2 g2 ok2 d2 => ?_
    have e2 : H2 q = some (.dT []) := g2.keep _ _ e1 hqO
    have f2 : F2 q = none := g2.new q (by rw [e1]; simp) f1 (fun xs z => by rw [e1] at z; cases z)
    obtain ⟨b, rfl, eb⟩ := tupKey (H := H2) ok2.ex (d1.mono g2.ex)
    refine ⟨keyT k, b, rfl, eb, e2, ?_⟩
    have g02 : Grow (dom O) F H F2 H2 := (g0.trans g1 fun _ m => .inl m).trans g2 fun _ m => .inl m
    have g3 : Grow (dom O) F H F2 (upd H2 q (.dT [(keyT k, w)])) := g02.trans (Grow.put (D := [q]) (by simp)) fun b m => .inr (by rw [List.mem_singleton.mp m]; exact hq)
    have p3 : AtF X C E ds O F2 σ (upd H2 q (.dT [(keyT k, w)])) := pp.step g3 (ok2.grow (Grow.put (D := [q]) (by simp)) (ok2.ex.side f2) fun x hx m => hqO (by rw [← List.mem_singleton.mp m]; exact List.mem_map.mpr ⟨x, hx, rfl⟩)) rfl
    refine h q _ _ ⟨F2, ⟨p3.g, fun e he => ?_, p3.ok.cons f2 ⟨[(keyT k, w)], upd_same, rfl, DvAll.one d2⟩ hqO, p3.env.set j (.loc q)⟩⟩
    rcases List.mem_cons.mp he with rfl | he
    · refine .inr ?_
      cases hE : E.H q with
      | none => rfl
      | some o => exact absurd hq (pp.g.there q (by rw [hE]; simp))
    · exact p3.dm e he
/-- name += e, ints -/
theorem sds_aug (i : Nat) {n : Str} {e : Expr} {pos' : Pos} {a b : Int} (hN : X.N.Nodup) (hd : ds[i]? = some (some (.int a))) (he : ED X C ds O e (.int b) O1) (h : SDs X (At X C E (ds.set i (some (.int (a + b)))) O1) rest D) (hi : X.N[i]? = some n := by rfl) (hx : Loc X.env.scope n := by first | exact Or.inl rfl | exact Or.inr rfl)
    (hf : X.fn n = true ∨ X.env.scope.names.lookup n = some .local := by first | exact .inl rfl | exact .inr rfl) : SDs X (At X C E ds O) (.AugAssign (.Name n pos') .Add e pos :: rest) D :=
  sds_cons (ps_aug hN hi hx pe_w ip_add hf) fun σ H ⟨F, p⟩ => by
    obtain ⟨v, e1, e2⟩ := p.env.2 i _ hd
    refine ⟨v, e1, he.run σ H F p.ok p.env _ fun u H1 F1 g1 ok1 d1 => ?_⟩
    cases e2
    cases d1
    exact ⟨_, _, rfl, rfl, h _ _ ⟨F1, (p.step g1 ok1 he.dm).set i (.int (a + b))⟩⟩
/-- as sds_freezeD, what stood in the ledger ahead being all that may change -/
theorem sds_freezeDO (j : Nat) {m : MO} {q : Addr} {st : List Stmt} (x : Dat) (hx : (∃ kvs, m = .dI kvs ∧ x = .dic (kvs.map (·.1)) (kvs.map (·.2))) ∨ ∃ kvs, m = .dT kvs ∧ x = .dct (kvs.map (·.1)) (kvs.map (·.2))) (hD : ∀ b ∈ E.D, b ∈ dom O) (h : SDs X (At X C E (ds.set j (some x)) O) st D) (hi : ds[j]? = some (some (.loc q)) := by rfl) : SDs X (At X C E ds ((q, m) :: O)) st D :=
  fun σ H hp => sds_freezeD j x hx (fun hm => by
    obtain ⟨F, p⟩ := hp
    exact (List.nodup_cons.mp p.ok.nd).1 (hD q hm)) h hi σ H hp
end
end Sw
/-! The data layer: dicts whose keys are nested tuples. -/
namespace Sw
open PySem PySem.Spec L2
mutual
def nk : Dat → NestedKey
  | .int i => .num i
  | .tup xs => .tup (nkAll xs)
  | .non | .bl _ | .lst _ | .fzl _ | .loc _ | .sky _ | .dic _ _ | .dct _ _ | .obj _ _ _ => .none
def nkAll : List Dat → List NestedKey
  | [] => []
  | x :: xs => nk x :: nkAll xs
end
mutual
def isK : Dat → Bool
  | .int _ => true
  | .tup xs => isKAll xs
  | .non | .bl _ | .lst _ | .fzl _ | .loc _ | .sky _ | .dic _ _ | .dct _ _ | .obj _ _ _ => false
def isKAll : List Dat → Bool
  | [] => true
  | x :: xs => isK x && isKAll xs
end
section
variable {X : Cx} {pins : List (Addr × Obj)} {σ : L2.St} {H F : Hp} {s : Shared} {C : Addr}
mutual
theorem nk_is (I : L2.Inv X pins σ H s) (e : Ex F H) : ∀ {d : Dat} {v : V} {u : Value}, Dv X.K C F v d → isK d = true → RelV v u → NestedIs s.heap (nk d) u
  | .int i, _, _, .int _, _, r => by
    obtain ⟨t, rfl⟩ := r
    exact .int i t
  | .tup xs, _, _, .tup h1 h2, k, r => by
    cases r
    obtain ⟨its, rv, ⟨o, ho, hc, n, hd⟩, hz⟩ := I.tuple (SqT.of (e _ _ h1))
    exact .tup ho hc hd (by simpa using nkAll_is I e h2 k rv)
  | .non, _, _, _, k, _ => nomatch k
  | .bl _, _, _, _, k, _ => nomatch k
  | .lst _, _, _, _, k, _ => nomatch k
  | .fzl _, _, _, _, k, _ => nomatch k
  | .loc _, _, _, _, k, _ => nomatch k
  | .sky _, _, _, _, k, _ => nomatch k
  | .dic _ _, _, _, _, k, _ => nomatch k
  | .dct _ _, _, _, _, k, _ => nomatch k
  | .obj _ _ _, _, _, _, k, _ => nomatch k
theorem nkAll_is (I : L2.Inv X pins σ H s) (e : Ex F H) : ∀ {ds : List Dat} {vs : List V} {us : List Value}, DvAll X.K C F vs ds → isKAll ds = true → Vals vs us → NestedAll s.heap (nkAll ds) us
  | [], _, _, .nil, _, r => by cases r; exact .nil
  | d :: ds, _, _, .cons h1 h2, k, r => by
    have k' : isK d = true ∧ isKAll ds = true := Bool.and_eq_true_iff.mp k
    cases r with
    | cons r1 r2 => exact .cons (nk_is I e h1 k'.1 r1) (nkAll_is I e h2 k'.2 r2)
end
end
/-- keys told apart by their data -/
structure NK {α : Type} (enc : α → Dat) : Prop where
  inj : ∀ a b, nk (enc a) = nk (enc b) → a = b
  key : ∀ a, isK (enc a) = true
  deep : ∀ a, (nk (enc a)).depth ≤ 8
theorem nk_t3 (a : T3) : nk (t3 a) = .tup [.num a.1, .num a.2.1, .num a.2.2] := rfl
theorem nkAll_t3 : ∀ L : List T3, nkAll (L.map t3) = L.map fun a => NestedKey.tup [.num a.1, .num a.2.1, .num a.2.2]
  | [] => rfl
  | a :: L => by
    show nk (t3 a) :: nkAll (L.map t3) = _
    rw [nkAll_t3 L]
    rfl
theorem isKAll_t3 : ∀ L : List T3, isKAll (L.map t3) = true
  | [] => rfl
  | a :: L => by
    show (isK (t3 a) && isKAll (L.map t3)) = true
    rw [isKAll_t3 L]
    rfl
theorem depth_t3 : ∀ L : List T3, NestedKey.depthAll (nkAll (L.map t3)) ≤ 1
  | [] => Nat.zero_le _
  | a :: L => by
    show max (NestedKey.depth (nk (t3 a))) (NestedKey.depthAll (nkAll (L.map t3))) ≤ 1
    exact Nat.max_le.mpr ⟨by simp [nk_t3, NestedKey.depth, NestedKey.depthAll], depth_t3 L⟩
theorem nk_seen : NK (α := List T3) (encT t3) where
  inj := fun a b h => by
    have h1 : nkAll (a.map t3) = nkAll (b.map t3) := by
      have : NestedKey.tup (nkAll (a.map t3)) = .tup (nkAll (b.map t3)) := h
      injection this
    rw [nkAll_t3, nkAll_t3] at h1
    have inj : ∀ x y : T3, NestedKey.tup [.num x.1, .num x.2.1, .num x.2.2] = .tup [.num y.1, .num y.2.1, .num y.2.2] → x = y := fun x y e => by
      obtain ⟨x1, x2, x3⟩ := x
      obtain ⟨y1, y2, y3⟩ := y
      simpa using e
    have : ∀ {a b : List T3}, (a.map fun a => NestedKey.tup [.num a.1, .num a.2.1, .num a.2.2]) = (b.map fun a => NestedKey.tup [.num a.1, .num a.2.1, .num a.2.2]) → a = b := by
      intro a
      induction a with
      | nil => intro b h; cases b with
        | nil => rfl
        | cons y b => cases h
      | cons x a ih => intro b h; cases b with
        | nil => cases h
        | cons y b =>
          have h' := List.cons.inj h
          rw [inj x y h'.1, ih h'.2]
    exact this h1
  key := fun a => isKAll_t3 a
  deep := fun a => by
    have := depth_t3 a
    show NestedKey.depthAll (nkAll (a.map t3)) + 1 ≤ 8
    omega
def encC (p : T3 × T3) : Dat := .tup [t3 p.1, t3 p.2]
theorem nk_cache : NK encC where
  inj := fun a b h => by
    obtain ⟨⟨a1, a2, a3⟩, b1, b2, b3⟩ := a
    obtain ⟨⟨c1, c2, c3⟩, d1, d2, d3⟩ := b
    simpa [encC, t3, nk, nkAll] using h
  key := fun a => rfl
  deep := fun a => by simp [encC, t3, nk, nkAll, NestedKey.depth, NestedKey.depthAll]
/-! ### what stands -/
section
variable {α : Type} [DecidableEq α] {enc : α → Dat} {K : PySem.W.Frag} {C : Addr} {F : Hp}
/-- the dict's own object -/
def DNp (P : Program) (w : World) (a : Addr) (xs : List (NestedKey × Addr × Value)) (h : Heap) : Prop :=
  ∃ o es ep, h.get? a = some o ∧ o.ExactDict ∧ o.data = .dict es ep ∧ es.toList = xs.map (entryOfKey (nestedKind P w)) ∧ (xs.map (·.1)).Nodup ∧ (a == sysModules) = false ∧ xs.length ≤ sizeLine
def DN (P : Program) (w : World) (a : Addr) (xs : List (NestedKey × Addr × Value)) : HO := .ext (DNp P w a xs)
theorem dn_ok {P : Program} {w : World} {H : Hp} {h : Heap} {a : Addr} {xs : List (NestedKey × Addr × Value)} (x : DNp P w a xs h) : ObjOk P w H h a (DN P w a xs) := by
  have x0 := x
  obtain ⟨o, es, ep, ho, r⟩ := x
  exact ⟨x0, ⟨o, ho⟩, fun h1 h2 p k => let ⟨o', es', ep', ho', r'⟩ := p; ⟨o', es', ep', k _ ho', r'⟩⟩
def EntN (K : PySem.W.Frag) (C : Addr) (enc : α → Dat) (F : Hp) (x : NestedKey × Addr × Value) (p : α × Dat) : Prop := x.1 = nk (enc p.1) ∧ Dv K C F (.ref x.2.1) (enc p.1) ∧ ∃ v, Dv K C F v p.2 ∧ RelV v x.2.2
abbrev RelN (K : PySem.W.Frag) (C : Addr) (enc : α → Dat) (F : Hp) (xs : List (NestedKey × Addr × Value)) (kvs : List (α × Dat)) : Prop := Paired (EntN K C enc F) xs kvs
theorem RelN.mono {F' : Hp} (e : Ex F F') {xs : List (NestedKey × Addr × Value)} {kvs : List (α × Dat)} (h : RelN K C enc F xs kvs) : RelN K C enc F' xs kvs := by
  induction h with
  | nil => exact .nil
  | cons h t ih =>
    obtain ⟨h1, h2, v, h3, h4⟩ := h
    exact .cons ⟨h1, h2.mono e, v, h3.mono e, h4⟩ ih
theorem RelN.len {xs : List (NestedKey × Addr × Value)} {kvs : List (α × Dat)} (h : RelN K C enc F xs kvs) : xs.length = kvs.length := by
  induction h with
  | nil => rfl
  | cons _ _ ih => simp [ih]
theorem RelN.get (N : NK enc) {xs : List (NestedKey × Addr × Value)} {kvs : List (α × Dat)} (h : RelN K C enc F xs kvs) (k : α) : (lookD kvs k = none ∧ atKey xs (nk (enc k)) = none) ∨ ∃ d p v, lookD kvs k = some d ∧ atKey xs (nk (enc k)) = some p ∧ Dv K C F v d ∧ RelV v p.2 := by
  induction h with
  | nil => exact .inl ⟨rfl, rfl⟩
  | @cons x p xs kvs h t ih =>
    obtain ⟨h1, h2, v, h3, h4⟩ := h
    unfold lookD atKey at ih ⊢
    rw [List.find?_cons, List.find?_cons]
    by_cases e : p.1 = k
    · have e2 : x.1 = nk (enc k) := by rw [h1, e]
      rw [decide_eq_true e, decide_eq_true e2]
      exact .inr ⟨p.2, x.2, v, rfl, rfl, h3, h4⟩
    · have e2 : ¬ x.1 = nk (enc k) := fun z => e (N.inj _ _ (h1.symm.trans z))
      rw [decide_eq_false e, decide_eq_false e2]
      exact ih
theorem RelN.put (N : NK enc) {xs : List (NestedKey × Addr × Value)} {kvs : List (α × Dat)} (h : RelN K C enc F xs kvs) (k : α) {b : Addr} {d : Dat} {v : V} {u : Value} (hb : Dv K C F (.ref b) (enc k)) (hd : Dv K C F v d) (hu : RelV v u) : RelN K C enc F (storedH xs (nk (enc k)) b u) (putD kvs k d) := by
  have ha : (kvs.any fun p => decide (p.1 = k)) = (lookD kvs k).isSome := by
    clear h
    induction kvs with
    | nil => rfl
    | cons p kvs ih =>
      unfold lookD at ih ⊢
      rw [List.any_cons, List.find?_cons, ih]
      by_cases e : p.1 = k <;> simp [e]
  have hs : (lookD kvs k).isSome = (atKey xs (nk (enc k))).isSome := by
    rcases h.get N k with ⟨e1, e2⟩ | ⟨_, _, _, e1, e2, _⟩ <;> rw [e1, e2] <;> rfl
  unfold storedH putD
  rw [ha, hs]
  split
  · clear ha hs
    rename_i hx
    clear hx
    induction h with
    | nil => exact .nil
    | @cons x p xs kvs h t ih =>
      obtain ⟨h1, h2, v', h3, h4⟩ := h
      rw [List.map_cons, List.map_cons]
      refine .cons ?_ ih
      unfold putAt
      by_cases e : p.1 = k
      · have e2 : x.1 = nk (enc k) := by rw [h1, e]
        rw [if_pos e, if_pos e2]
        exact ⟨h1, h2, v, hd, hu⟩
      · have e2 : ¬ x.1 = nk (enc k) := fun z => e (N.inj _ _ (h1.symm.trans z))
        rw [if_neg e, if_neg e2]
        exact ⟨h1, h2, v', h3, h4⟩
  · exact h.snoc ⟨rfl, hb, v, hd, hu⟩
/-- the ledger's word of such a dict -/
def moN (P : Program) (w : World) (K : PySem.W.Frag) (C : Addr) (enc : α → Dat) (q : Addr) (kvs : List (α × Dat)) : MO := .ex fun F o => ∃ xs, o = DN P w q xs ∧ RelN K C enc F xs kvs
end
section
variable {X : Cx} {pins : List (Addr × Obj)} {σ : L2.St} {H F : Hp} {s : Shared} {C : Addr} {α : Type} [DecidableEq α] {enc : α → Dat}
theorem moN_at {q : Addr} {kvs : List (α × Dat)} (h : MOk X.K C F H q (moN X.prog X.w X.K C enc q kvs)) : ∃ xs, H q = some (DN X.prog X.w q xs) ∧ RelN X.K C enc F xs kvs := by
  obtain ⟨o, e, _, h⟩ := h
  obtain ⟨xs, rfl, r⟩ := h F (Ex.refl F)
  exact ⟨xs, e, r⟩
theorem moN_ok {q : Addr} {kvs : List (α × Dat)} {xs : List (NestedKey × Addr × Value)} (e : H q = some (DN X.prog X.w q xs)) (r : RelN X.K C enc F xs kvs) : MOk X.K C F H q (moN X.prog X.w X.K C enc q kvs) :=
  ⟨_, e, (fun _ z => nomatch z), fun F' ex => ⟨xs, rfl, r.mono ex⟩⟩
theorem RelN.is (N : NK enc) (I : L2.Inv X pins σ H s) (ex : Ex F H) {xs : List (NestedKey × Addr × Value)} {kvs : List (α × Dat)} (r : RelN X.K C enc F xs kvs) : ∀ x ∈ xs, (nestedKind X.prog X.w).is s.heap x.1 x.2.1 := by
  induction r with
  | nil => exact fun _ h => nomatch h
  | @cons x p xs kvs h t ih =>
    intro y hy
    rcases List.mem_cons.mp hy with rfl | hy
    · obtain ⟨h1, h2, _⟩ := h
      rw [h1]
      exact ⟨nk_is I ex h2 (N.key _) rfl, N.deep _⟩
    · exact ih y hy
theorem dn_of (N : NK enc) (I : L2.Inv X pins σ H s) (ex : Ex F H) {q : Addr} {xs : List (NestedKey × Addr × Value)} {kvs : List (α × Dat)} (e : H q = some (DN X.prog X.w q xs)) (r : RelN X.K C enc F xs kvs) : s.heap.DictOfH (nestedKind X.prog X.w) q xs ∧ (q == sysModules) = false ∧ xs.length ≤ sizeLine := by
  have x : DNp X.prog X.w q xs s.heap := (I.hok q _ e).1
  obtain ⟨o, es, ep, ho, hx, hd, he, hn, hs, hl⟩ := x
  exact ⟨⟨o, es, ep, ho, hx, hd, he, r.is N I ex, hn⟩, hs, hl⟩
theorem key_is (N : NK enc) (I : L2.Inv X pins σ H s) (ex : Ex F H) {b : Addr} {k : α} (h : Dv X.K C F (.ref b) (enc k)) : (nestedKind X.prog X.w).is s.heap (nk (enc k)) b := ⟨nk_is I ex h (N.key k) rfl, N.deep k⟩
theorem dn_write {q : Addr} {xs xs' : List (NestedKey × Addr × Value)} {h' : Heap} {t' : Nat} (I : L2.Inv X pins σ H s) (e : H q = some (DN X.prog X.w q xs)) (hs : Heap.SameBut q s.heap h') (hd : h'.DictOfH (nestedKind X.prog X.w) q xs') (hq : (q == sysModules) = false) (hl : xs'.length ≤ sizeLine) :
    L2.Inv X pins σ (upd H q (DN X.prog X.w q xs')) { s with heap := h', toks := t' } := by
  obtain ⟨o, es, ep, ho, hx, hd, he, _, hn⟩ := hd
  exact d_write I (by rw [e]; exact True.intro) hs ⟨o, ho⟩ (dn_ok ⟨o, es, ep, ho, hx, hd, he, hn, hq, hl⟩)
end
section
variable {X : Cx} {α : Type} [DecidableEq α] {enc : α → Dat} {C : Addr}
/-- k not in d -/
def rNinN (X : Cx) (C : Addr) (enc : α → Dat) : R2 := fun x y H Q => ∃ (F : Hp) (q b : Addr) (xs : List (NestedKey × Addr × Value)) (kvs : List (α × Dat)) (k : α), x = .ref b ∧ y = .ref q ∧ Ex F H ∧ H q = some (DN X.prog X.w q xs) ∧ RelN X.K C enc F xs kvs ∧ Dv X.K C F (.ref b) (enc k) ∧ Q (.bl (lookD kvs k).isNone) H
theorem op_ninN (N : NK enc) (hu : X.A.units + 64 < cLine) : OpR X (compareOp .NotIn) (rNinN X C enc) := by
  intro pins s σ H x y v u Q I rx ry h
  obtain ⟨F, q, b, xs, kvs, k, rfl, rfl, ex, e, r, hk, hq⟩ := h
  cases rx
  cases ry
  obtain ⟨dd, hs, hl⟩ := dn_of N I ex e r
  refine PyProof.Rows.wpAny_notIn_heap (knd := nestedKind X.prog X.w) (show X.A.units + 1 + 8 < cLine by omega) (key_is N I ex hk) hs dd ⟨.bl _, H, I.tok _, ?_, hq⟩
  rcases r.get N k with ⟨e1, e2⟩ | ⟨_, _, _, e1, e2, _⟩ <;> rw [e1, e2] <;> rfl
/-- d[k] -/
def tGetN (X : Cx) (C : Addr) (enc : α → Dat) (td ty : TE) : TE := fun σ H Q => td σ H fun x H1 => ty σ H1 fun y H2 => ∃ (F : Hp) (q b : Addr) (xs : List (NestedKey × Addr × Value)) (kvs : List (α × Dat)) (k : α) (d : Dat), x = .ref q ∧ y = .ref b ∧ Ex F H2 ∧ H2 q = some (DN X.prog X.w q xs) ∧ RelN X.K C enc F xs kvs ∧ Dv X.K C F (.ref b) (enc k) ∧ lookD kvs k = some d ∧
  ∀ v, Dv X.K C F v d → Q v H2
theorem pe_getN (N : NK enc) (hu : X.A.units + 64 < cLine) {o i : Expr} {pos : Pos} {td ty : TE} (ho : PE X o td) (hi : PE X i ty) (hs : NoSl i) : PE X (.Subscript o i pos) (tGetN X C enc td ty) := ⟨fun pins s σ H Q I h => by
  refine subD_of PySem.F.slot_dict_getitem.lookup hs (thn (ho.run pins s σ H _ I h) fun u s1 ⟨x, H1, I1, rx, q1⟩ => thn (hi.run pins s1 σ H1 _ I1 q1) fun iv s2 ⟨y, H2, I2, ry, F, q, b, xs, kvs, k, d, ex, ey, hF, e, r, hk, hl, q2⟩ => ?_)
  subst ex ey
  cases rx
  cases ry
  obtain ⟨dd, hsy, hlen⟩ := dn_of N I2 hF e r
  rcases r.get N k with ⟨e1, _⟩ | ⟨d', p, v, e1, e2, hd, hv⟩
  · rw [hl] at e1; cases e1
  · rw [hl] at e1
    cases e1
    exact ⟨dd.typeIs, PySem.wpAny_getItem_heap (knd := nestedKind X.prog X.w) (show X.A.units + 1 + 8 < cLine by omega) (key_is N I2 hF hk) dd e2 ⟨v, H2, I2.tok _, hv, q2 v hd⟩⟩⟩
/-- d[k] = v -/
def sPutN (X : Cx) (C : Addr) (enc : α → Dat) (td ty tv : TE) : TS := fun D σ H => tv σ H fun v H1 => td σ H1 fun x H2 => ty σ H2 fun y H3 => ∃ (F : Hp) (q b : Addr) (xs : List (NestedKey × Addr × Value)) (kvs : List (α × Dat)) (k : α) (d : Dat), x = .ref q ∧ y = .ref b ∧ Ex F H3 ∧ H3 q = some (DN X.prog X.w q xs) ∧ RelN X.K C enc F xs kvs ∧ Dv X.K C F (.ref b) (enc k) ∧ Dv X.K C F v d ∧ kvs.length < 100000 ∧
  ∀ xs', RelN X.K C enc F xs' (putD kvs k d) → D.nx σ (upd H3 q (DN X.prog X.w q xs'))
theorem storedH_len (xs : List (NestedKey × Addr × Value)) (k : NestedKey) (b : Addr) (u : Value) : (storedH xs k b u).length ≤ xs.length + 1 := by
  unfold storedH
  split
  · rw [List.length_map]; omega
  · simp
theorem ps_putN (N : NK enc) (hu : X.A.units + 64 < cLine) {o i value : Expr} {pos pos' : Pos} {td ty tv : TE} (ho : PE X o td) (hi : PE X i ty) (hv : PE X value tv) (hs : swapsWith value (some (.Subscript o i pos')) pos.line X.env = pure false) : PS X (.Assign [.Subscript o i pos'] value pos) (sPutN X C enc td ty tv) := ⟨fun pins s σ H D I h => by
  refine PySem.wpAny_Assign_Subscript (thn (hv.run pins s σ H _ I h) fun r0 s1 ⟨v, H1, I1, rv, q1⟩ => thn (ho.run pins s1 σ H1 _ I1 q1) fun u s2 ⟨x, H2, I2, rx, q2⟩ => thn (hi.run pins s2 σ H2 _ I2 q2) fun iv s3 ⟨y, H3, I3, ry, F, q, b, xs, kvs, k, d, ex, ey, hF, e, r, hk, hd, hl, q3⟩ => ?_) hs
  subst ex ey
  cases rx
  cases ry
  obtain ⟨dd, hsy, hlen⟩ := dn_of N I3 hF e r
  have hxl := r.len
  refine PySem.wpAny_setItem_heap (knd := nestedKind X.prog X.w) (show X.A.units + 1 + 8 < cLine by omega) (key_is N I3 hF hk) dd (fun h' hm hsb => ?_) hlen
  have l2 := storedH_len xs (nk (enc k)) b r0
  exact ⟨σ, _, dn_write I3 e hsb hm hsy (by have : (100000 : Nat) ≤ sizeLine := by decide
                                            omega), q3 _ (r.put N k hk hd rv)⟩⟩
/-- d.setdefault(k, x) -/
def tSetdN (X : Cx) (C : Addr) (enc : α → Dat) (td ty tx : TE) : TE := fun σ H Q => td σ H fun x H1 => ∃ q xs0, x = .ref q ∧ H1 q = some (DN X.prog X.w q xs0) ∧ ty σ H1 fun y H2 => tx σ H2 fun z H3 => ∃ (F : Hp) (b : Addr) (xs : List (NestedKey × Addr × Value)) (kvs : List (α × Dat)) (k : α) (d : Dat), y = .ref b ∧ Ex F H3 ∧ H3 q = some (DN X.prog X.w q xs) ∧ RelN X.K C enc F xs kvs ∧ Dv X.K C F (.ref b) (enc k) ∧ Dv X.K C F z d ∧ kvs.length < 100000 ∧
  (∀ d', lookD kvs k = some d' → ∀ v, Dv X.K C F v d' → Q v H3) ∧ (lookD kvs k = none → ∀ xs', RelN X.K C enc F xs' (putD kvs k d) → Q z (upd H3 q (DN X.prog X.w q xs')))
theorem pe_setdN (N : NK enc) (hu : X.A.units + 64 < cLine) {o e f : Expr} {apos cpos : Pos} {td ty tx : TE} (ho : PE X o td) (he : PE X e ty) (hf : PE X f tx) (m : M2 X o "setdefault" apos e f cpos) : PE X (.Call (.Attribute o "setdefault" apos) [e, f] [] cpos) (tSetdN X C enc td ty tx) := ⟨fun pins s σ H Q I h => by
  refine PySem.wpAny_Call_method m.base m.few m.line PySem.F.plainAttrs_dict PySem.F.slot_dict_setdefault PySem.F.type_dict_setdefault (thn (ho.run pins s σ H _ I h) fun u s1 ⟨x, H1, I1, rx, q, xs0, ex, e0, q1⟩ => ?_)
  subst ex
  cases rx
  obtain ⟨ob, es, ep, hob, hx, _⟩ := (show DNp X.prog X.w q xs0 s1.heap from (I1.hok q _ e0).1)
  refine ⟨⟨ob, hob, hx.1⟩, fun b z => by cases z; exact ⟨ob, hob, hx.2.1⟩, ?_⟩
  rw [m.trees]
  refine Calls.callWith_builtin rfl (Calls.evalArgs_plain (Calls.spliced_cons (thn (he.run pins s1 σ H1 _ I1 q1) fun iv s2 ⟨y, H2, I2, ry, q2⟩ =>
    Calls.spliced_cons (thn (hf.run pins s2 σ H2 _ I2 q2) fun fv s3 ⟨z, H3, I3, rz, F, b, xs, kvs, k, d, ey, hF, e, r, hk, hd, hl, q3, q4⟩ => Calls.spliced_nil ?_))))
  subst ey
  cases ry
  obtain ⟨dd, hsy, hlen⟩ := dn_of N I3 hF e r
  have hxl := r.len
  refine PySem.call_setdefault_heap (knd := nestedKind X.prog X.w) (show X.A.units + 1 + 8 < cLine by omega) (key_is N I3 hF hk) hsy dd (fun p hp => ?_) (fun hn h' hm hsb => ?_) hlen
  · rcases r.get N k with ⟨_, e2⟩ | ⟨d', p', v, e1, e2, hd', hv'⟩
    · rw [hp] at e2; cases e2
    · rw [hp] at e2
      cases e2
      exact ⟨v, H3, I3.tok _, hv', q3 d' e1 v hd'⟩
  · have l2 := storedH_len xs (nk (enc k)) b fv
    refine ⟨z, _, dn_write I3 e hsb hm hsy (by have : (100000 : Nat) ≤ sizeLine := by decide
                                               omega), rz, q4 ?_ _ (r.put N k hk hd rz)⟩
    rcases r.get N k with ⟨e1, _⟩ | ⟨_, _, _, _, e2, _⟩
    · exact e1
    · rw [hn] at e2; cases e2⟩
end
end Sw
/-! The data layer: rules for dicts whose keys are nested tuples. -/
namespace Sw
open PySem PySem.Spec L2
section
variable {X : Cx} {C : Addr} {ds ds' : Dsl} {O O' O1 O2 O3 : Led} {o i e ve : Expr} {d x y z : Dat} {E : En} {D : Ends} {F F' H H' : Hp} {σ : L2.St} {pos : Pos} {rest : List Stmt} {α : Type} [DecidableEq α] {enc : α → Dat} {k : α}
abbrev mN (X : Cx) (C : Addr) (enc : α → Dat) (q : Addr) (kvs : List (α × Dat)) : Addr × MO := (q, moN X.prog X.w X.K C enc q kvs)
theorem dvRef (N : NK enc) {K : PySem.W.Frag} {v : V} (h : Dv K C F v (enc k)) (ht : ∃ xs, enc k = .tup xs) : ∃ b, v = .ref b ∧ Dv K C F (.ref b) (enc k) := by
  obtain ⟨xs, e⟩ := ht
  rw [e] at h ⊢
  cases h with
  | tup h1 h2 => exact ⟨_, rfl, .tup h1 h2⟩
/-- x = {}, of nested keys -/
theorem sds_newN (j : Nat) (enc : α → Dat) {n : Str} {pos' p : Pos} (hN : X.N.Nodup) (h : ∀ q, SDs X (At X C E (ds.set j (some (.loc q))) (mN X C enc q [] :: O)) rest D) (hi : X.N[j]? = some n := by rfl) (hx : Loc X.env.scope n := by first | exact Or.inl rfl | exact Or.inr rfl)
    (hs : swapsWith (.Dict [] [] p) (some (.Name n pos')) pos.line X.env = pure false := by rfl) (hf : X.fn n = true ∨ X.env.scope.names.lookup n = some .local := by first | exact .inl rfl | exact .inr rfl) : SDs X (At X C E ds O) (.Assign [.Name n pos'] (.Dict [] [] p) pos :: rest) D := by
  have pe : PE X (.Dict [] [] p) (fun _ H Q => ∀ q, H q = none → Q (.ref q) (upd H q (DN X.prog X.w q []))) := ⟨fun pins s σ H Q I h =>
    wpAny_Dict_empty ⟨.ref s.heap.objs.size, _, I.laid (a := s.heap.objs.size) (o := DN X.prog X.w s.heap.objs.size []) (t' := s.toks) (fun _ _ q => Heap.get?_push_of_some _ q) (Nat.le_refl _) (dn_ok ⟨_, #[], 0, Heap.get?_push_size _ rfl, ⟨rfl, rfl, rfl⟩, rfl, rfl, List.nodup_nil, beq_eq_false_iff_ne.mpr (Ne.symm (Nat.ne_of_lt I.big)), Nat.zero_le _⟩), rfl, h _ (I.hok.fresh (Nat.le_refl _))⟩⟩
  exact sds_cons (ps_set hN hi hx pe hs hf) fun σ H ⟨F, pp⟩ => fun q hq => by
    have hF := pp.ok.ex.free hq
    refine h q _ _ ⟨F, ⟨pp.g.trans (Grow.own (D := []) hq) fun _ m => by simp at m, fun e he => ?_, ?_, pp.env.set j (.loc q)⟩⟩
    · rcases List.mem_cons.mp he with rfl | he
      · refine .inr ?_
        cases hE : E.H q with
        | none => rfl
        | some o => exact absurd hq (pp.g.there q (by rw [hE]; simp))
      · exact pp.dm e he
    · exact (pp.ok.grow0 (Grow.own hq) (pp.ok.ex.side hF)).cons hF (moN_ok upd_same .nil) (notDom pp.ok hq)
theorem bd_ninN (N : NK enc) (hu : X.A.units + 64 < cLine) {q : Addr} {kvs : List (α × Dat)} (hi : ED X C ds O i (enc k) O1) (ho : ED X C ds O1 o (.loc q) O2) (hm : mN X C enc q kvs ∈ O2) (ht : ∀ k, ∃ xs, enc k = .tup xs) (hb : behindInMarks .NotIn o = false := by first | exact nobehind _ (by decide) (by decide) | rfl) : BD X C ds O (.Compare i [.NotIn] [o] pos) (lookD kvs k).isNone O2 :=
  bd_of (pt_cmpR (op_ninN (C := C) N hu) pe_w pe_w hb) (ho.dm.trans hi.dm) fun σ H F ok env Q Q' => td2 hi ho ok env fun u v H' F' g ok' d1 d2 => by
    cases d2
    obtain ⟨b, rfl, db⟩ := dvRef N d1 (ht k)
    obtain ⟨xs, e, r⟩ := moN_at (ok'.at_ _ hm)
    exact ⟨F', q, b, xs, kvs, k, rfl, rfl, ok'.ex, e, r, db, _, rfl, Q' H' F' g ok'⟩
theorem ed_getN (N : NK enc) (hu : X.A.units + 64 < cLine) {q : Addr} {kvs : List (α × Dat)} (ho : ED X C ds O o (.loc q) O1) (hi : ED X C ds O1 i (enc k) O2) (hm : mN X C enc q kvs ∈ O2) (hl : lookD kvs k = some d) (ht : ∀ k, ∃ xs, enc k = .tup xs) (hs : NoSl i := by exact fun _ _ => rfl) : ED X C ds O (.Subscript o i pos) d O2 :=
  ed_of (pe_getN (C := C) N hu pe_w pe_w hs) (hi.dm.trans ho.dm) fun σ H F ok env Q Q' => td2 ho hi ok env fun v u H' F' g ok' d1 d2 => by
    cases d1
    obtain ⟨b, rfl, db⟩ := dvRef N d2 (ht k)
    obtain ⟨xs, e, r⟩ := moN_at (ok'.at_ _ hm)
    exact ⟨F', q, b, xs, kvs, k, d, rfl, rfl, ok'.ex, e, r, db, hl, fun v hv => Q' v H' F' g ok' hv⟩
theorem sds_putN (A B : Led) (N : NK enc) (hu : X.A.units + 64 < cLine) {q : Addr} {kvs : List (α × Dat)} {value : Expr} {pos' : Pos} (hv : ED X C ds O value d O1) (ho : ED X C ds O1 o (.loc q) O2) (hi : ED X C ds O2 i (enc k) O3) (hl : kvs.length < 100000) (ht : ∀ k, ∃ xs, enc k = .tup xs) (h : SDs X (At X C E ds (A ++ mN X C enc q (putD kvs k d) :: B)) rest D)
    (he : O3 = A ++ mN X C enc q kvs :: B := by rfl) (hs : swapsWith value (some (.Subscript o i pos')) pos.line X.env = pure false := by rfl) : SDs X (At X C E ds O) (.Assign [.Subscript o i pos'] value pos :: rest) D := by
  subst he
  refine sds_cons (ps_putN (C := C) N hu pe_w pe_w pe_w hs) fun σ H ⟨F, p⟩ => ?_
  refine hv.run σ H F p.ok p.env _ fun v H1 F1 g1 ok1 d1 => ?_
  have p1 := p.step g1 ok1 hv.dm
  refine ho.run σ H1 F1 ok1 p1.env _ fun w H2 F2 g2 ok2 d2 => ?_
  have p2 := p1.step g2 ok2 ho.dm
  cases d2
  refine hi.run σ H2 F2 ok2 p2.env _ fun u H3 F3 g3 ok3 d3 => ?_
  have p3 := p2.step g3 ok3 hi.dm
  obtain ⟨b, rfl, db⟩ := dvRef N d3 (ht k)
  obtain ⟨xs, e, r⟩ := moN_at (ok3.at_ _ (show mN X C enc q kvs ∈ A ++ mN X C enc q kvs :: B by simp))
  refine ⟨F3, q, b, xs, kvs, k, d, rfl, rfl, ok3.ex, e, r, db, (d1.mono g2.ex).mono g3.ex, hl, fun xs' r' => h _ _ ⟨F3, p3.step (Grow.put (by simp) (fun _ z => nomatch z)) (ok3.put (moN_ok upd_same r')) (dom_put A B q _ _)⟩⟩
/-- o.setdefault(k, []).append(v), the key there: the list at the j-th entry -/
theorem sds_setdOld (j : Nat) (N : NK enc) (hu : X.A.units + 64 < cLine) {q p : Addr} {kvs : List (α × Dat)} {xs : List Dat} {ke : Expr} {a1 a2 c1 c2 lp : Pos} (ho : ED X C ds O o (.loc q) O) (hk : ED X C ds O ke (enc k) O) (hm : mN X C enc q kvs ∈ O) (hl : lookD kvs k = some (.loc p)) (ht : ∀ k, ∃ xs, enc k = .tup xs) (hlen : kvs.length < 100000) (hv : AD X C ds O [ve] [x] O) (hj : O[j]? = some (p, .lst xs)) (hx : xs.length < 100000)
    (h : SDs X (At X C E ds (O.set j (p, .lst (xs ++ [x])))) rest D) (m : M2 X o "setdefault" a1 ke (.List [] lp) c1 := by exact ⟨rfl, rfl, rfl, rfl⟩) (hb : BmOk X (.Call (.Attribute o "setdefault" a1) [ke, .List [] lp] [] c1) "append" a2 ve [] c2 := by exact ⟨rfl, rfl, rfl, rfl, rfl⟩)
    (hs : swapsWith (.Call (.Attribute (.Call (.Attribute o "setdefault" a1) [ke, .List [] lp] [] c1) "append" a2) [ve] [] c2) none pos.line X.env = pure false := by rfl) : SDs X (At X C E ds O) (.Expr (.Call (.Attribute (.Call (.Attribute o "setdefault" a1) [ke, .List [] lp] [] c1) "append" a2) [ve] [] c2) pos :: rest) D := by
  obtain ⟨b1, b2, b3, b4, b5⟩ := hb
  refine sds_cons (ps_expr (pe_bm PySem.F.plainAttrs_list PySem.F.slot_list_append PySem.F.type_list_append mt_append (pe_setdN (C := C) N hu pe_w pe_w (pe_lst pa_nil) m) pa_w b1 b2 b3 b4 b5) hs) fun σ H ⟨F, pp⟩ => ?_
  refine ho.run σ H F pp.ok pp.env _ fun v H1 F1 g1 ok1 d1 => ?_
  have p1 := pp.step g1 ok1 rfl
  cases d1
  obtain ⟨xs0, e0, r0⟩ := moN_at (ok1.at_ _ hm)
  refine ⟨q, xs0, rfl, e0, ?_⟩
  refine hk.run σ H1 F1 ok1 p1.env _ fun u H2 F2 g2 ok2 d2 => ?_
  have p2 := p1.step g2 ok2 rfl
  obtain ⟨b, rfl, db⟩ := dvRef N d2 (ht k)
  refine ⟨Nat.zero_le _, fun pn hpn => ?_⟩
  have hFn := ok2.ex.free hpn
  have ok3 : Ok X.K C F2 O (upd H2 pn (.lst [])) := ok2.grow0 (Grow.own hpn) (ok2.ex.side hFn)
  have p3 : AtF X C E ds O F2 σ (upd H2 pn (.lst [])) := p2.step (Grow.own hpn) ok3 rfl
  obtain ⟨xs2, e2, r2⟩ := moN_at (ok3.at_ _ hm)
  refine ⟨F2, b, xs2, kvs, k, .loc pn, rfl, ok3.ex, e2, r2, db, .loc pn, hlen, fun d' hd' v hv' => ?_, fun hn => by rw [hn] at hl; cases hl⟩
  rw [hl] at hd'
  cases hd'
  cases hv'
  have hmem : (p, MO.lst xs) ∈ O := List.mem_of_getElem? hj
  obtain ⟨vs0, h0, _⟩ := ok3.at_ _ hmem
  refine ⟨.inl ⟨rfl, _, SqL.of h0⟩, ?_⟩
  refine hv.run σ _ F2 ok3 p3.env _ fun vs H4 F4 g4 ok4 d4 => ?_
  have p4 := p3.step g4 ok4 rfl
  obtain ⟨w, rfl, dw⟩ := all1 d4
  obtain ⟨vs1, h1, r1⟩ := ok4.at_ _ hmem
  refine ⟨p, vs1, w, rfl, rfl, h1, szl (by rw [r1.length]; exact hx), ?_⟩
  obtain ⟨j1, j2⟩ := List.getElem?_eq_some_iff.mp hj
  have eO : O = O.take j ++ (p, .lst xs) :: O.drop (j + 1) := by rw [← j2, ← List.drop_eq_getElem_cons j1, List.take_append_drop]
  have eS : O.set j (p, .lst (xs ++ [x])) = O.take j ++ (p, .lst (xs ++ [x])) :: O.drop (j + 1) := by rw [List.set_eq_take_append_cons_drop, if_pos j1]
  rw [eS] at h
  have p4' := p4
  rw [eO] at p4'
  refine h _ _ ⟨F4, p4'.step (Grow.put (by simp)) (p4'.ok.put ⟨_, upd_same, r1.append (DvAll.one dw)⟩) (dom_put _ _ p _ _)⟩
/-- .. the key new: a new list -/
theorem sds_setdNew (A B : Led) (N : NK enc) (hu : X.A.units + 64 < cLine) {q : Addr} {kvs : List (α × Dat)} {ke : Expr} {a1 a2 c1 c2 lp : Pos} (ho : ED X C ds O o (.loc q) O) (hk : ED X C ds O ke (enc k) O) (eO : O = A ++ mN X C enc q kvs :: B) (hl : lookD kvs k = none) (ht : ∀ k, ∃ xs, enc k = .tup xs) (hlen : kvs.length < 100000) (hv : ∀ O, AD X C ds O [ve] [x] O)
    (h : ∀ p, SDs X (At X C E ds ((p, .lst [x]) :: (A ++ mN X C enc q (kvs ++ [(k, .loc p)]) :: B))) rest D) (m : M2 X o "setdefault" a1 ke (.List [] lp) c1 := by exact ⟨rfl, rfl, rfl, rfl⟩) (hb : BmOk X (.Call (.Attribute o "setdefault" a1) [ke, .List [] lp] [] c1) "append" a2 ve [] c2 := by exact ⟨rfl, rfl, rfl, rfl, rfl⟩)
    (hs : swapsWith (.Call (.Attribute (.Call (.Attribute o "setdefault" a1) [ke, .List [] lp] [] c1) "append" a2) [ve] [] c2) none pos.line X.env = pure false := by rfl) : SDs X (At X C E ds O) (.Expr (.Call (.Attribute (.Call (.Attribute o "setdefault" a1) [ke, .List [] lp] [] c1) "append" a2) [ve] [] c2) pos :: rest) D := by
  subst eO
  obtain ⟨b1, b2, b3, b4, b5⟩ := hb
  refine sds_cons (ps_expr (pe_bm PySem.F.plainAttrs_list PySem.F.slot_list_append PySem.F.type_list_append mt_append (pe_setdN (C := C) N hu pe_w pe_w (pe_lst pa_nil) m) pa_w b1 b2 b3 b4 b5) hs) fun σ H ⟨F, pp⟩ => ?_
  refine ho.run σ H F pp.ok pp.env _ fun v H1 F1 g1 ok1 d1 => ?_
  have p1 := pp.step g1 ok1 rfl
  cases d1
  obtain ⟨xs0, e0, r0⟩ := moN_at (ok1.at_ _ (show mN X C enc q kvs ∈ A ++ mN X C enc q kvs :: B by simp))
  refine ⟨q, xs0, rfl, e0, ?_⟩
  refine hk.run σ H1 F1 ok1 p1.env _ fun u H2 F2 g2 ok2 d2 => ?_
  have p2 := p1.step g2 ok2 rfl
  obtain ⟨b, rfl, db⟩ := dvRef N d2 (ht k)
  refine ⟨Nat.zero_le _, fun pn hpn => ?_⟩
  have hFn := ok2.ex.free hpn
  have hdO := notDom ok2 hpn
  have ok3 : Ok X.K C F2 (A ++ mN X C enc q kvs :: B) (upd H2 pn (.lst [])) := ok2.grow0 (Grow.own hpn) (ok2.ex.side hFn)
  have p3 : AtF X C E ds (A ++ mN X C enc q kvs :: B) F2 σ (upd H2 pn (.lst [])) := p2.step (Grow.own hpn) ok3 rfl
  obtain ⟨xs2, e2, r2⟩ := moN_at (ok3.at_ _ (show mN X C enc q kvs ∈ A ++ mN X C enc q kvs :: B by simp))
  refine ⟨F2, b, xs2, kvs, k, .loc pn, rfl, ok3.ex, e2, r2, db, .loc pn, hlen, (fun d' hd' => by rw [hl] at hd'; cases hd'), fun _ xs' r' => ?_⟩
  have eput : putD kvs k (.loc pn) = kvs ++ [(k, .loc pn)] := by
    unfold putD
    rw [if_neg]
    intro z
    obtain ⟨y, hy, ey⟩ := List.any_eq_true.mp z
    unfold lookD at hl
    rw [Option.map_eq_none_iff, List.find?_eq_none] at hl
    exact hl y hy ey
  rw [eput] at r'
  have hqn : q ≠ pn := fun z => by rw [← z] at hpn; have := (ok2.at_ _ (show mN X C enc q kvs ∈ A ++ mN X C enc q kvs :: B by simp)).some; exact this hpn
  have ok4 : Ok X.K C F2 (A ++ mN X C enc q (kvs ++ [(k, .loc pn)]) :: B) (upd (upd H2 pn (.lst [])) q (DN X.prog X.w q xs')) := ok3.put (moN_ok upd_same r')
  have p4 : AtF X C E ds (A ++ mN X C enc q (kvs ++ [(k, .loc pn)]) :: B) F2 σ (upd (upd H2 pn (.lst [])) q (DN X.prog X.w q xs')) := p3.step (Grow.put (by simp) (fun _ z => nomatch z)) ok4 (dom_put A B q _ _)
  have hdO4 : pn ∉ dom (A ++ mN X C enc q (kvs ++ [(k, .loc pn)]) :: B) := fun z => hdO (by rw [← dom_put A B q (moN X.prog X.w X.K C enc q kvs) (moN X.prog X.w X.K C enc q (kvs ++ [(k, .loc pn)]))]; exact z)
  have hEn : E.H pn = none := by
    cases hE : E.H pn with
    | none => rfl
    | some o => exact absurd hpn (p2.g.there pn (by rw [hE]; simp))
  have hlst4 : upd (upd H2 pn (.lst [])) q (DN X.prog X.w q xs') pn = some (.lst []) := by rw [upd_ne hqn.symm, upd_same]
  have p5 : AtF X C E ds ((pn, .lst []) :: (A ++ mN X C enc q (kvs ++ [(k, .loc pn)]) :: B)) F2 σ (upd (upd H2 pn (.lst [])) q (DN X.prog X.w q xs')) := ⟨p4.g, fun e he => by
    rcases List.mem_cons.mp he with rfl | he
    · exact .inr hEn
    · exact p4.dm e he, p4.ok.cons hFn ⟨[], hlst4, .nil⟩ hdO4, p4.env⟩
  refine ⟨.inl ⟨rfl, _, SqL.of hlst4⟩, ?_⟩
  refine (hv _).run σ _ F2 p5.ok p5.env _ fun vs H6 F6 g6 ok6 d6 => ?_
  have p6 := p5.step g6 ok6 rfl
  obtain ⟨w, rfl, dw⟩ := all1 d6
  obtain ⟨vs1, h1, r1⟩ := ok6.at_ (pn, .lst []) (by simp)
  refine ⟨pn, vs1, w, rfl, rfl, h1, szl (by rw [r1.length]; decide), ?_⟩
  refine h pn _ _ ⟨F6, p6.step (Grow.put (by simp)) (Ok.put (A := []) p6.ok ⟨_, upd_same, r1.append (DvAll.one dw)⟩) (dom_put [] _ pn _ _)⟩
/-! ### list(d.values()) -/
def valuesO (p q : Addr) : HO := .ext fun h => h.IsValuesView p q
def tValsN (X : Cx) (td : TE) : TE := fun σ H Q => td σ H fun x H1 => ∃ q xs, x = .ref q ∧ H1 q = some (DN X.prog X.w q xs) ∧ ∀ p, H1 p = none → Q (.ref p) (upd H1 p (valuesO p q))
theorem pe_valsN {td : TE} {apos cpos : Pos} (he : PE X e td) (hbase : attributeBase e "values" X.env (eval e X.env) = eval e X.env) (hline : (apos.endLine == cpos.line) = true) : PE X (.Call (.Attribute e "values" apos) [] [] cpos) (tValsN X td) := ⟨fun pins s σ H Q I h => by
  refine PySem.wpAny_Call_method (T := "dict") (id := "dict.values") hbase rfl hline PySem.F.plainAttrs_dict PySem.F.slot_dict_values PySem.F.type_dict_values (thn (he.run pins s σ H _ I h) fun u s1 ⟨x, H1, I1, rx, q, xs, ex, e0, hq⟩ => ?_)
  subst ex
  cases rx
  obtain ⟨ob, es, ep, hob, hx, hd, he', hn, hs, hl⟩ := (show DNp X.prog X.w q xs s1.heap from (I1.hok q _ e0).1)
  have raw : s1.heap.DictRaw q es ep := ⟨ob, hob, hx, hd⟩
  refine ⟨raw.typeIs, fun b z => by cases z; exact ⟨ob, hob, hx.2.1⟩, ?_⟩
  show wpAny _ _ (callWith cpos (.builtin "dict.values") [.ref q] [] []) _ X.xe s1
  have hf : H1 s1.heap.objs.size = none := I1.hok.fresh (Nat.le_refl _)
  have hv : (s1.heap.push { cls := .type "dict_values", data := .fields #[.ref q] }).IsValuesView s1.heap.objs.size q := ⟨_, Heap.get?_push_size _ rfl, rfl, rfl⟩
  refine method_meetsIn PySem.F.slot_dict_values PySem.F.entry_dict_values rfl (PySem.evalArgs_none ⟨rfl, raw.typeIs, PySem.F.args_dict_values_1 _, _, meets_dict_values_raw q hs, ⟨es, ep, raw⟩, ?_⟩)
  refine ⟨.ref s1.heap.objs.size, _, I1.laid (t' := s1.toks) (o := valuesO s1.heap.objs.size q) (fun b u e => Heap.get?_push_of_some _ e) (Nat.le_refl _) ⟨hv, ⟨_, Heap.get?_push_size _ rfl⟩, fun h1 h2 x k => let ⟨o, ho, r⟩ := x; ⟨o, k o ho, r⟩⟩, rfl, hq _ hf⟩⟩
def rListVN (X : Cx) : List V → Hp → VK → Prop := fun xs H Q => ∃ (p q : Addr) (es : List (NestedKey × Addr × Value)) (vs : List V), xs = [.ref p] ∧ H p = some (valuesO p q) ∧ H q = some (DN X.prog X.w q es) ∧ Vals vs (es.map fun x => x.2.2) ∧ ∀ l, H l = none → Q (.ref l) (upd H l (.lst vs))
theorem cr_listVN (hc : X.calm = true) : CallR X (.type "list") (rListVN X) := by
  intro pins s σ H xs us Q I r h
  obtain ⟨p, q, ks, vs, rfl, hp, hq, hv, k⟩ := h
  rw [Vals.ref1 r]
  obtain ⟨ob, es, ep, hob, hx, hd, he, hn, hs, hl⟩ := (show DNp X.prog X.w q ks s.heap from (I.hok q _ hq).1)
  have hview : s.heap.IsValuesView p q := (I.hok p _ hp).1
  have l1 : es.size = ks.length := size_of_entries he
  refine PySem.W.kdl_call (PySem.KdlSrc.rawValues (d := q) (es := es) (ep := ep)) (I.ok.hd hc) ⟨hview, ⟨ob, hob, hx, hd⟩⟩ (by omega) fun h' tk acc' c' kp e it => ?_
  have ea : acc'.toList = ks.map fun x => x.2.2 := by
    have hl2 : acc'.toList.length = ks.length := by rw [Array.length_toList, it.1]; exact l1
    apply List.ext_getElem?
    intro j
    rw [List.getElem?_map]
    cases hj : acc'.toList[j]? with
    | none =>
      have h1 := List.getElem?_eq_none_iff.mp hj
      rw [List.getElem?_eq_none (by omega)]
      rfl
    | some v =>
      obtain ⟨hj2, hv2⟩ := it.2 j v (by rw [← Array.getElem?_toList]; exact hj)
      have qe := entry_at he j
      rw [Array.getElem?_eq_getElem hj2] at qe
      cases hb : ks[j]? with
      | none => rw [hb] at qe; cases qe
      | some b =>
        rw [hb] at qe
        have e2 := Option.some.inj qe
        rw [hv2, e2]
        rfl
  have hz : vs.length ≤ sizeLine := by
    have := hv.length
    rw [List.length_map] at this
    omega
  refine ⟨.ref s.heap.objs.size, _, I.laid (t' := tk) (o := .lst vs) kp (Nat.le_refl _) ⟨hz, acc'.toList, c', by rw [ea]; exact hv, by rw [Array.toArray_toList]; exact e⟩, rfl, k _ (I.hok.fresh (Nat.le_refl _))⟩
theorem vals_of_relN {F : Hp} {xs : List (NestedKey × Addr × Value)} {kvs : List (α × Dat)} (r : RelN X.K C enc F xs kvs) : ∃ vs, Vals vs (xs.map fun x => x.2.2) ∧ DvAll X.K C F vs (kvs.map (·.2)) := by
  induction r with
  | nil => exact ⟨[], .nil, .nil⟩
  | cons h t ih =>
    obtain ⟨_, _, v, h3, h4⟩ := h
    obtain ⟨vs, h5, h6⟩ := ih
    exact ⟨v :: vs, .cons h4 h5, .cons h3 h6⟩
theorem ed_listVals {q : Addr} {kvs : List (α × Dat)} {apos p cpos : Pos} (hm : X.mg "list" = none) (ho : ED X C ds O o (.loc q) O1) (hmem : mN X C enc q kvs ∈ O1) (hg : Gl X "list" := by rfl) (hc : X.calm = true := by rfl) (hbase : attributeBase o "values" X.env (eval o X.env) = eval o X.env := by rfl) (hline : (apos.endLine == cpos.line) = true := by rfl)
    (na : starEach [.Call (.Attribute o "values" apos) [] [] cpos] X.env = (false, eval (.Call (.Attribute o "values" apos) [] [] cpos) X.env) :: starEach [] X.env := by rfl) : ED X C ds O (.Call (.Name "list" p) [.Call (.Attribute o "values" apos) [] [] cpos] [] pos) (.lst (kvs.map (·.2))) O1 :=
  ed_of (pe_callTy (cr_listVN hc) hg hm (by decide +kernel) (pa_cons (pe_valsN pe_w hbase hline) pa_nil na) (by decide) (by decide) na rfl) ho.dm fun σ H F ok env Q Q' => ho.run σ H F ok env _ fun v H1 F1 g1 ok1 d1 => by
    cases d1
    obtain ⟨xs, e, r⟩ := moN_at (ok1.at_ _ hmem)
    refine ⟨q, xs, rfl, e, fun pv hpv => ?_⟩
    have hFv := ok1.ex.free hpv
    have ok2 : Ok X.K C F1 O1 (upd H1 pv (valuesO pv q)) := ok1.grow0 (Grow.own hpv) (ok1.ex.side hFv)
    have hqv : q ≠ pv := fun z => by rw [← z, e] at hpv; cases hpv
    obtain ⟨vs, hv, dv⟩ := vals_of_relN r
    refine ⟨pv, q, xs, vs, rfl, upd_same, by rw [upd_ne hqv]; exact e, hv, fun l hl => ?_⟩
    have hF := ok2.ex.free hl
    have gf : Grow (dom O) F H (upd F1 l (.lst vs)) (upd (upd H1 pv (valuesO pv q)) l (.lst vs)) := (g1.trans (Grow.own (D := []) hpv) fun _ m => by simp at m).trans (Grow.frz (D := []) hl hF) fun _ m => by simp at m
    exact Q' (.ref l) _ _ gf (ok2.grow0 (Grow.frz hl hF) ok2.ex.upd2) (dv_newL (X := X) hF dv)
end
end Sw
namespace Sw
open PySem PySem.Spec L2
section
variable {X : Cx} {C : Addr} {ds : Dsl} {O O' O1 : Led} {e : Expr} {E : En} {D : Ends} {pos : Pos} {rest st : List Stmt}
theorem sds_perm (p : O.Perm O') (h : SDs X (At X C E ds O') st D) : SDs X (At X C E ds O) st D := h.imp fun σ H ⟨F, q⟩ => ⟨F, ⟨q.g, fun e he => q.dm e (p.mem_iff.mpr he), q.ok.perm p, q.env⟩⟩
/-- return e, e a list of lists that may change: they are frozen -/
theorem sds_retTab {ps : List Addr} {T : List (List Dat)} {post : Dat → Led → Prop} (he : ED X C ds O e (.lst (ps.map .loc)) (tabL ps T ++ O')) (hl : ps.length = T.length) (hD : E.D = []) (hp : post (.lst (T.map .lst)) O') (hr : ∀ v H, Rt X C E post v H → D.rt v H := by exact fun _ _ h => h) : SDs X (At X C E ds O) (.Return (some e) pos :: rest) D :=
  sds_cons (ps_ret pe_w) fun σ H ⟨F, p⟩ => he.run σ H F p.ok p.env _ fun v H1 F1 g1 ok1 d1 => by
    obtain ⟨F', ex, p', hv⟩ := (p.step g1 ok1 he.dm).freezeTab hl (fun q _ => by rw [hD]; exact List.not_mem_nil)
    exact hr v H1 ⟨F', _, O', p'.g, p'.ok, hv v d1, hp⟩
end
end Sw
/-! The data layer: a Chart. -/
namespace Sw
open PySem PySem.Spec L2
def chartN : List Str := ["_sky", "_bounds", "_found"]
def chartD (c : Addr) (s : SkyD) (m f : Int) (d : Addr) : Dat := .obj c chartN [.sky s, t2 (m, f), .loc d]
theorem obj3 {K : PySem.W.Frag} {C : Addr} {F : Hp} {v : V} {c : Addr} {d1 d2 d3 : Dat} (h : Dv K C F v (.obj c chartN [d1, d2, d3])) : ∃ a dx v1 v2 v3, v = .ref a ∧ F a = some (.ins c dx [("_sky", v1), ("_bounds", v2), ("_found", v3)]) ∧ Dv K C F v1 d1 ∧ Dv K C F v2 d2 ∧ Dv K C F v3 d3 := by
  cases h with
  | @obj a _ dx zs _ _ h1 h2 h3 =>
    match zs, h2, h3 with
    | [(n1, v1), (n2, v2), (n3, v3)], h2, h3 =>
      have e1 := (List.cons.inj h2).1
      have e2 := (List.cons.inj (List.cons.inj h2).2).1
      have e3 := (List.cons.inj (List.cons.inj (List.cons.inj h2).2).2).1
      dsimp only at e1 e2 e3
      subst e1 e2 e3
      cases h3 with
      | cons a1 r => cases r with
        | cons a2 r => cases r with
          | cons a3 r => exact ⟨a, dx, v1, v2, v3, rfl, h1, a1, a2, a3⟩
/-- the cache: what is known of each answer kept -/
structure CacheOk (n : Int) (val : T3 × T3 → Bool) (kvs : List ((T3 × T3) × Dat)) : Prop where
  nd : (kvs.map (·.1)).Nodup
  v : ∀ p ∈ kvs, p.2 = .bl (val p.1)
  a : ∀ p ∈ kvs, MotOk n p.1.1 ∧ p.1.1.2.2 = 0 ∧ MotOk n p.1.2
theorem CacheOk.nil {n : Int} {val : T3 × T3 → Bool} : CacheOk n val [] := ⟨List.nodup_nil, (fun _ h => nomatch h), (fun _ h => nomatch h)⟩
theorem putD_mem {α : Type} [DecidableEq α] {kvs : List (α × Dat)} {k : α} {d : Dat} {p : α × Dat} (h : p ∈ putD kvs k d) : p = (k, d) ∨ p ∈ kvs := by
  unfold putD at h
  split at h
  · obtain ⟨q, hq, rfl⟩ := List.mem_map.mp h
    split
    · rename_i e
      left
      rw [e]
    · exact .inr hq
  · rcases List.mem_append.mp h with h | h
    · exact .inr h
    · exact .inl (List.mem_singleton.mp h)
theorem putD_keys {α : Type} [DecidableEq α] (kvs : List (α × Dat)) (k : α) (d : Dat) : (putD kvs k d).map (·.1) = if k ∈ kvs.map (·.1) then kvs.map (·.1) else kvs.map (·.1) ++ [k] := by
  have h1 : (kvs.any fun p => decide (p.1 = k)) = decide (k ∈ kvs.map (·.1)) := by
    rw [Bool.eq_iff_iff, List.any_eq_true, decide_eq_true_iff, List.mem_map]
    exact ⟨fun ⟨p, hp, e⟩ => ⟨p, hp, of_decide_eq_true e⟩, fun ⟨p, hp, e⟩ => ⟨p, hp, decide_eq_true e⟩⟩
  unfold putD
  rw [h1]
  by_cases h : k ∈ kvs.map (·.1)
  · rw [decide_eq_true h, if_pos rfl, if_pos h, List.map_map]
    refine List.map_congr_left fun p _ => ?_
    show (if p.1 = k then (p.1, d) else p).1 = p.1
    split <;> rfl
  · rw [decide_eq_false h, if_neg Bool.false_ne_true, if_neg h, List.map_append]
    rfl
theorem CacheOk.put {n : Int} {val : T3 × T3 → Bool} {kvs : List ((T3 × T3) × Dat)} (h : CacheOk n val kvs) {k : T3 × T3} (h1 : MotOk n k.1) (h2 : k.1.2.2 = 0) (h3 : MotOk n k.2) {b : Bool} (hb : b = val k) : CacheOk n val (putD kvs k (.bl b)) where
  nd := by
    rw [putD_keys]
    split
    · exact h.nd
    · rename_i hn
      refine List.nodup_append.mpr ⟨h.nd, by simp, fun x hx y hy e => ?_⟩
      rw [List.mem_singleton.mp hy] at e
      exact hn (e ▸ hx)
  v := fun p hp => by
    rcases putD_mem hp with rfl | hp
    · rw [hb]
    · exact h.v p hp
  a := fun p hp => by
    rcases putD_mem hp with rfl | hp
    · exact ⟨h1, h2, h3⟩
    · exact h.a p hp
theorem CacheOk.few {n : Int} (hn : n ≤ 9) {val : T3 × T3 → Bool} {kvs : List ((T3 × T3) × Dat)} (h : CacheOk n val kvs) : kvs.length ≤ 90000 := by
  have hs : ∀ x ∈ kvs.map (·.1), x ∈ (upto 9).flatMap fun a => (upto 9).flatMap fun b => (tripsM n.toNat).map fun m => ((a, b, (0 : Int)), m) := fun x hx => by
    obtain ⟨p, hp, rfl⟩ := List.mem_map.mp hx
    obtain ⟨h1, h2, h3⟩ := h.a p hp
    refine List.mem_flatMap.mpr ⟨p.1.1.1, mem_upto.mpr ?_, List.mem_flatMap.mpr ⟨p.1.1.2.1, mem_upto.mpr ?_, List.mem_map.mpr ⟨p.1.2, mem_trips h3, ?_⟩⟩⟩
    · have := h1.1; have := h1.2.1; omega
    · have := h1.2.2.1; have := h1.2.2.2.1; omega
    · rw [← h2]
  have := List.Nodup.length_le_of_subset h.nd hs
  rw [List.length_map] at this
  have tl := trips_le (n := n.toNat) (by omega)
  refine Nat.le_trans this ?_
  have u9 : (upto 9).length = 9 := by simp [upto]
  refine Nat.le_trans (flat_le (c := 9 * 324) (fun a => Nat.le_trans (flat_le (c := 324) (fun b => by rw [List.length_map]; exact tl) _) (by rw [u9]; exact Nat.le_refl _)) _) ?_
  rw [u9]
  decide
theorem CacheOk.look {n : Int} {val : T3 × T3 → Bool} {kvs : List ((T3 × T3) × Dat)} (h : CacheOk n val kvs) {k : T3 × T3} {d : Dat} (hl : lookD kvs k = some d) : d = .bl (val k) := by
  unfold lookD at hl
  obtain ⟨p, hp, rfl⟩ := Option.map_eq_some_iff.mp hl
  have h1 := List.find?_some hp
  have h2 := List.mem_of_find?_eq_some hp
  have e : p.1 = k := of_decide_eq_true h1
  rw [← e]
  exact h.v p h2
theorem lookD_put {α : Type} [DecidableEq α] (kvs : List (α × Dat)) (k : α) (d : Dat) : lookD (putD kvs k d) k = some d := by
  unfold putD
  split
  · rename_i h
    induction kvs with
    | nil => simp at h
    | cons p kvs ih =>
      unfold lookD at ih ⊢
      rw [List.map_cons, List.find?_cons]
      by_cases e : p.1 = k
      · simp [e]
      · have h' : (kvs.any fun p => decide (p.1 = k)) = true := by simpa [e] using h
        simp only [e, if_false, decide_false]
        exact ih h'
  · rename_i h
    unfold lookD
    rw [List.find?_append]
    have : kvs.find? (fun p => decide (p.1 = k)) = none := by
      rw [List.find?_eq_none]
      intro x hx e
      exact h (List.any_eq_true.mpr ⟨x, hx, e⟩)
    rw [this]
    simp
theorem encC_tup (k : T3 × T3) : ∃ xs, encC k = .tup xs := ⟨_, rfl⟩
/-- a cache that is as val says, in the ledger -/
def moC (P : Program) (w : World) (K : PySem.W.Frag) (C : Addr) (n : Int) (val : T3 × T3 → Bool) (q : Addr) : MO := .ex fun F o => ∃ kvs, (∃ xs, o = DN P w q xs ∧ RelN K C encC F xs kvs) ∧ CacheOk n val kvs
section
variable {X : Cx} {C : Addr} {ds ds' : Dsl} {O O' O1 O2 O3 : Led} {o i e ve : Expr} {d x y z : Dat} {E : En} {D : Ends} {F F' H H' : Hp} {σ : L2.St} {pos : Pos} {rest st : List Stmt}
theorem moC_ok {q : Addr} {kvs : List ((T3 × T3) × Dat)} {n : Int} {val : T3 × T3 → Bool} (h : MOk X.K C F H q (moN X.prog X.w X.K C encC q kvs)) (c : CacheOk n val kvs) : MOk X.K C F H q (moC X.prog X.w X.K C n val q) := by
  obtain ⟨xs, e, r⟩ := moN_at h
  exact ⟨_, e, (fun _ z => nomatch z), fun F' ex => ⟨kvs, ⟨xs, rfl, r.mono ex⟩, c⟩⟩
theorem Ok.swap {K : PySem.W.Frag} {A B : Led} {q : Addr} {m m' : MO} (h : Ok K C F (A ++ (q, m) :: B) H) (hm : MOk K C F H q m') : Ok K C F (A ++ (q, m') :: B) H where
  ex := h.ex
  fr := fun e he => by
    rcases List.mem_append.mp he with he | he
    · exact h.fr e (List.mem_append_left _ he)
    · rcases List.mem_cons.mp he with rfl | he
      · exact h.fr (q, m) (by simp)
      · exact h.fr e (List.mem_append_right _ (List.mem_cons_of_mem _ he))
  nd := by have := h.nd; simpa using this
  at_ := fun e he => by
    rcases List.mem_append.mp he with he | he
    · exact h.at_ e (List.mem_append_left _ he)
    · rcases List.mem_cons.mp he with rfl | he
      · exact hm
      · exact h.at_ e (List.mem_append_right _ (List.mem_cons_of_mem _ he))
theorem AtF.swap {A B : Led} {q : Addr} {m m' : MO} (p : AtF X C E ds (A ++ (q, m) :: B) F σ H) (hm : MOk X.K C F H q m') : AtF X C E ds (A ++ (q, m') :: B) F σ H :=
  ⟨p.g, fun e he => by
    rcases List.mem_append.mp he with he | he
    · exact p.dm e (List.mem_append_left _ he)
    · rcases List.mem_cons.mp he with rfl | he
      · exact p.dm (q, m) (by simp)
      · exact p.dm e (List.mem_append_right _ (List.mem_cons_of_mem _ he)), p.ok.swap hm, p.env⟩
theorem sds_openC {A B : Led} {q : Addr} {n : Int} {val : T3 × T3 → Bool} (h : ∀ kvs, CacheOk n val kvs → SDs X (At X C E ds (A ++ (q, moN X.prog X.w X.K C encC q kvs) :: B)) st D) : SDs X (At X C E ds (A ++ (q, moC X.prog X.w X.K C n val q) :: B)) st D := fun σ H ⟨F, p⟩ => by
  obtain ⟨o, e, _, hφ⟩ := p.ok.at_ (q, moC X.prog X.w X.K C n val q) (by simp)
  obtain ⟨kvs, ⟨xs, rfl, r⟩, c⟩ := hφ F (Ex.refl F)
  exact h kvs c σ H ⟨F, p.swap (moN_ok e r)⟩
theorem sds_closeC {A B : Led} {q : Addr} {n : Int} {val : T3 × T3 → Bool} {kvs : List ((T3 × T3) × Dat)} (c : CacheOk n val kvs) (h : SDs X (At X C E ds (A ++ (q, moC X.prog X.w X.K C n val q) :: B)) st D) : SDs X (At X C E ds (A ++ (q, moN X.prog X.w X.K C encC q kvs) :: B)) st D :=
  h.imp fun σ H ⟨F, p⟩ => ⟨F, p.swap (moC_ok (p.ok.at_ (q, moN X.prog X.w X.K C encC q kvs) (by simp)) c)⟩
/-- a Chart's fields -/
inductive FldC (s : SkyD) (m f : Int) (d : Addr) : Str → Dat → Prop
  | sky : FldC s m f d "_sky" (.sky s)
  | bounds : FldC s m f d "_bounds" (t2 (m, f))
  | found : FldC s m f d "_found" (.loc d)
theorem ed_fldC {c : Addr} {fn : Str} {s : SkyD} {m f : Int} {dd : Addr} (cl : Cls X.K c) (na : NoAttr X.K c fn) (h : ED X C ds O e (chartD c s m f dd) O1) (hf : FldC s m f dd fn x) (hab : attributeBase e fn X.env (eval e X.env) = eval e X.env := by rfl) : ED X C ds O (.Attribute e fn pos) x O1 :=
  ed_of (pe_fld pe_w hab) h.dm fun σ H F ok env Q q => h.run σ H F ok env _ fun v H1 F1 g1 ok1 d1 => by
    obtain ⟨a, dx, v1, v2, v3, rfl, h1, a1, a2, a3⟩ := obj3 d1
    cases hf with
    | sky => exact ⟨a, c, dx, _, v1, rfl, ok1.ex _ _ h1, cl, na, rfl, q _ H1 F1 g1 ok1 a1⟩
    | bounds => exact ⟨a, c, dx, _, v2, rfl, ok1.ex _ _ h1, cl, na, rfl, q _ H1 F1 g1 ok1 a2⟩
    | found => exact ⟨a, c, dx, _, v3, rfl, ok1.ex _ _ h1, cl, na, rfl, q _ H1 F1 g1 ok1 a3⟩
/-- chart.m(..), the ledger the same behind it -/
theorem ed_methC {c : Addr} {es : List Expr} {apos : Pos} {m : Str} {kk : Nat} {ps : List Str} {r : List Dat → Led → (Dat → Led → Prop) → Prop} {s : SkyD} {m' f' : Int} {dd : Addr} {xs : List Dat} {pl : Sem Bool} (cl : Cls X.K c)
    (M : ∃ f fd, Meth X.K c m f ∧ FnOk X.prog X.w X.K X.mg X.base CX0 kk f fd ps (spL X.K C r) ∧ Binds X.K fd ps []) (hr : Room kk X.A)
    (ho : ED X C ds O o (chartD c s m' f' dd) O) (ha : AD X C ds O (e :: es) xs O) (hz : r (chartD c s m' f' dd :: xs) O fun d' O' => d' = z ∧ O' = O) (hn : ∀ v1 v2 v3 : V, List.lookup m [("_sky", v1), ("_bounds", v2), ("_found", v3)] = none)
    (hst : starEach (e :: es) X.env = (false, eval e X.env) :: starEach es X.env := by rfl) (hpl : (backTo pos (starEach es X.env)).any (·.1) = false := by rfl)
    (ht : eval (.Call (.Attribute o m apos) (e :: es) [] pos) X.env = (do
      let ov ← eval o X.env
      standAt apos.atName
      let (f, first) ← holding [ov] (getMethod ov m pl)
      callWith pos f first (backTo pos (starEach (e :: es) X.env)) (backToKw pos (keywordEach [] X.env))) := by rfl) : ED X C ds O (.Call (.Attribute o m apos) (e :: es) [] pos) z O := by
  obtain ⟨f, fd, h1, h2, h3⟩ := M
  refine ed_of (pe_meth pe_w cl h1 h2 hr h3 .nil pass0 pa_w hst hpl ht) rfl fun σ H F ok env Q q => ho.run σ H F ok env _ fun v H1 F1 g1 ok1 d1 => ?_
  obtain ⟨a, dx, v1, v2, v3, rfl, e1, _⟩ := obj3 d1
  refine ⟨a, dx, _, rfl, ok1.ex _ _ e1, ?_, ?_⟩
  · exact hn v1 v2 v3
  refine ha.run σ H1 F1 ok1 (env.mono g1.ex) _ fun vs H2 F2 g2 ok2 d2 => ?_
  show spL X.K C r (.ref a :: (vs ++ [])) H2 _ _
  rw [List.append_nil]
  exact ⟨F2, O, _, _, ok2, .cons (d1.mono g2.ex) d2, hz, fun v H' F' d' O' g ok' hd ⟨e2, e3⟩ => by
    subst e2 e3
    exact q v H' F' ((g1.trans g2 fun _ m => .inl m).trans g fun _ m => .inl m) ok' hd⟩
end
end Sw
/-! The data layer: instances made. -/
namespace Sw
open PySem PySem.Spec L2
/-- an instance being filled -/
def moI (K : PySem.W.Frag) (C c : Addr) (fs : List Str) (ds : List Dat) : MO := .ex fun F o => ∃ dx zs, o = .ins c dx zs ∧ zs.map (·.1) = fs ∧ DvAll K C F (zs.map (·.2)) ds
theorem putF_new {f : Str} {v : V} : ∀ {fs : List (Str × V)}, f ∉ fs.map (·.1) → putF f v fs = fs ++ [(f, v)]
  | [], _ => rfl
  | (g, x) :: r, h => by
    have h1 : ¬ g = f := fun e => h (by rw [List.map_cons]; exact e ▸ List.mem_cons_self)
    have h2 : f ∉ r.map (·.1) := fun m => h (List.mem_cons_of_mem _ m)
    show (if g = f then (g, v) :: r else (g, x) :: putF f v r) = _
    rw [if_neg h1, putF_new h2]
    rfl
section
variable {X : Cx} {C : Addr} {ds ds' : Dsl} {O O' O1 O2 O3 : Led} {o i e ve : Expr} {d x y z : Dat} {E : En} {D : Ends} {F F' H H' : Hp} {σ : L2.St} {pos pos' p : Pos} {rest st : List Stmt} {es : List Expr}
theorem moI_at {K : PySem.W.Frag} {c q : Addr} {fs : List Str} {dd : List Dat} (h : MOk K C F H q (moI K C c fs dd)) : ∃ dx zs, H q = some (.ins c dx zs) ∧ zs.map (·.1) = fs ∧ DvAll K C F (zs.map (·.2)) dd := by
  obtain ⟨o, e, _, h⟩ := h
  obtain ⟨dx, zs, rfl, h1, h2⟩ := h F (Ex.refl F)
  exact ⟨dx, zs, e, h1, h2⟩
theorem moI_ok {K : PySem.W.Frag} {c q dx : Addr} {zs : List (Str × V)} {fs : List Str} {dd : List Dat} (e : H q = some (.ins c dx zs)) (h1 : zs.map (·.1) = fs) (h2 : DvAll K C F (zs.map (·.2)) dd) : MOk K C F H q (moI K C c fs dd) :=
  ⟨_, e, (fun _ z => nomatch z), fun F' ex => ⟨dx, zs, rfl, h1, h2.mono ex⟩⟩
/-- an expression that may leave new things that may change -/
structure EDG (X : Cx) (C : Addr) (ds : Dsl) (O : Led) (e : Expr) (post : Dat → Led → Prop) : Prop where
  run : ∀ (σ : L2.St) (H F : Hp), Ok X.K C F O H → EnvOk X.K C F σ ds → ∀ Q : VK, (∀ v H' F' d N, Grow (dom O) F H F' H' → Ok X.K C F' (N ++ O) H' → (∀ e ∈ N, H e.1 = none) → Dv X.K C F' v d → post d N → Q v H') → wE X e σ H Q
theorem EDG.of (h : ED X C ds O e d O) : EDG X C ds O e fun d' N => d' = d ∧ N = [] :=
  ⟨fun σ H F ok env Q q => h.run σ H F ok env Q fun v H' F' g ok' hd => q v H' F' d [] g ok' (fun _ h => by simp at h) hd ⟨rfl, rfl⟩⟩
theorem AtF.stepG {N : Led} (h : AtF X C E ds O F σ H) (g : Grow (dom O) F H F' H') (ok : Ok X.K C F' (N ++ O) H') (hn : ∀ e ∈ N, H e.1 = none) : AtF X C E ds (N ++ O) F' σ H' := by
  have e1 : ∀ b, H b = none → E.H b = none := fun b hb => by
    cases q : E.H b with
    | none => rfl
    | some o => exact absurd hb (h.g.there b (by rw [q]; simp))
  refine ⟨h.g.trans g fun b m => ?_, fun e he => ?_, ok, h.env.mono g.ex⟩
  · obtain ⟨x, hx, rfl⟩ := List.mem_map.mp m
    exact h.dm x hx
  · rcases List.mem_append.mp he with he | he
    · exact .inr (e1 _ (hn e he))
    · exact h.dm e he
theorem sds_setG (j : Nat) {n : Str} {pos' : Pos} {post : Dat → Led → Prop} (hN : X.N.Nodup) (he : EDG X C ds O e post) (h : ∀ d N, post d N → SDs X (At X C E (ds.set j (some d)) (N ++ O)) rest D) (hi : X.N[j]? = some n := by rfl) (hx : Loc X.env.scope n := by first | exact Or.inl rfl | exact Or.inr rfl)
    (hs : swapsWith e (some (.Name n pos')) pos.line X.env = pure false := by rfl) (hf : X.fn n = true ∨ X.env.scope.names.lookup n = some .local := by first | exact .inl rfl | exact .inr rfl) : SDs X (At X C E ds O) (.Assign [.Name n pos'] e pos :: rest) D :=
  sds_cons (ps_set hN hi hx pe_w hs hf) fun σ H ⟨F, p⟩ => he.run σ H F p.ok p.env _ fun v H1 F1 d N g1 ok1 hn d1 hp => h d N hp _ _ ⟨F1, (p.stepG g1 ok1 hn).set j d1⟩
theorem edg_newN {α : Type} [DecidableEq α] (enc : α → Dat) : EDG X C ds O (.Dict [] [] p) fun d N => ∃ q, d = .loc q ∧ N = [(q, moN X.prog X.w X.K C enc q [])] := by
  have pe : PE X (.Dict [] [] p) (fun _ H Q => ∀ q, H q = none → Q (.ref q) (upd H q (DN X.prog X.w q []))) := ⟨fun pins s σ H Q I h =>
    wpAny_Dict_empty ⟨.ref s.heap.objs.size, _, I.laid (a := s.heap.objs.size) (o := DN X.prog X.w s.heap.objs.size []) (t' := s.toks) (fun _ _ q => Heap.get?_push_of_some _ q) (Nat.le_refl _) (dn_ok ⟨_, #[], 0, Heap.get?_push_size _ rfl, ⟨rfl, rfl, rfl⟩, rfl, rfl, List.nodup_nil, beq_eq_false_iff_ne.mpr (Ne.symm (Nat.ne_of_lt I.big)), Nat.zero_le _⟩), rfl, h _ (I.hok.fresh (Nat.le_refl _))⟩⟩
  refine ⟨fun σ H F ok env Q k pins s I => pe.run pins s σ H Q I fun q hq => ?_⟩
  have hF := ok.ex.free hq
  exact k _ _ F (.loc q) [(q, moN X.prog X.w X.K C enc q [])] (Grow.own hq) ((ok.grow0 (Grow.own hq) (ok.ex.side hF)).cons hF (moN_ok upd_same .nil) (notDom ok hq)) (fun e he => by rw [List.mem_singleton.mp he]; exact hq) (.loc q) ⟨q, rfl, rfl⟩
/-- self.f = e -/
theorem sds_fld {c q : Addr} {fn : Str} {fs : List Str} {dd : List Dat} {B : Led} {post : Dat → Led → Prop} (cl : Cls X.K c) (na : NoAttr X.K c fn) (he : EDG X C ds ((q, moI X.K C c fs dd) :: B) e post) (ho : ∀ O, ED X C ds O o (.loc q) O) (hf : fn ∉ fs) (hl : fs.length < 1000)
    (h : ∀ d N, post d N → SDs X (At X C E ds (N ++ (q, moI X.K C c (fs ++ [fn]) (dd ++ [d])) :: B)) rest D) (hs : swapsWith e (some (.Attribute o fn pos')) pos.line X.env = pure false := by rfl) : SDs X (At X C E ds ((q, moI X.K C c fs dd) :: B)) (.Assign [.Attribute o fn pos'] e pos :: rest) D :=
  sds_cons (ps_fld pe_w pe_w hs) fun σ H ⟨F, p⟩ => he.run σ H F p.ok p.env _ fun v H1 F1 d N g1 ok1 hn d1 hp => by
    have p1 := p.stepG g1 ok1 hn
    refine (ho _).run σ H1 F1 ok1 p1.env _ fun u H2 F2 g2 ok2 d2 => ?_
    cases d2
    have p2 := p1.step g2 ok2 rfl
    obtain ⟨dx, zs, e1, e2, e3⟩ := moI_at (ok2.at_ (q, moI X.K C c fs dd) (by simp))
    have hf' : fn ∉ zs.map (·.1) := by rw [e2]; exact hf
    refine ⟨q, c, dx, zs, rfl, e1, cl, na, by rw [← e2, List.length_map] at hl; exact hl, ?_⟩
    refine h d N hp _ _ ⟨F2, ?_⟩
    have hm : MOk X.K C F2 (upd H2 q (.ins c dx (putF fn v zs))) q (moI X.K C c (fs ++ [fn]) (dd ++ [d])) := by
      refine moI_ok upd_same ?_ ?_
      · rw [putF_new hf', List.map_append, e2]; rfl
      · rw [putF_new hf', List.map_append]
        exact e3.append (.cons (d1.mono g2.ex) .nil)
    have hq : q ∈ E.D ∨ E.H q = none := p2.dm (q, moI X.K C c fs dd) (by simp)
    refine ⟨?_, fun e he => ?_, ok2.put hm, p2.env⟩
    · exact p2.g.trans (Grow.put (D := [q]) (by simp)) fun b m => by rw [List.mem_singleton.mp m]; exact hq
    · rcases List.mem_append.mp he with he | he
      · exact p2.dm e (List.mem_append_left _ he)
      · rcases List.mem_cons.mp he with rfl | he
        · exact hq
        · exact p2.dm e (List.mem_append_right _ (List.mem_cons_of_mem _ he))
/-- what __init__ does: from self without attributes and the arguments -/
def spI (K : PySem.W.Frag) (C c : Addr) (r : List Dat → (Addr → Led → Prop) → Prop) : Sp := fun vs H Q _ => ∃ F x as post, Ok K C F [(x, moI K C c [] [])] H ∧ DvAll K C F vs (.loc x :: as) ∧ r as post ∧
  ∀ H' F' O', Grow [x] F H F' H' → Ok K C F' O' H' → (∀ e ∈ O', e.1 = x ∨ H e.1 = none) → post x O' → Q .non H'
/-- a class that can be called by its name -/
structure Cmk (P : Program) (w : World) (K : PySem.W.Frag) (mg : Str → Option Value) (base : Heap) (k : Nat) (n : Str) (c : Addr) (ps : List Str) (sp : Sp) : Prop where
  ex : ∃ f fd, Mk K c f ∧ FnOk P w K mg base CX0 k f fd ps sp ∧ mg n = some (.ref c) ∧ Binds K fd ps []
theorem edg_make {c : Addr} {n : Str} {ps : List Str} {kk : Nat} {r : List Dat → (Addr → Led → Prop) → Prop} {as : List Dat} {ipost : Addr → Led → Prop} {post : Dat → Led → Prop} (M : Cmk X.prog X.w X.K X.mg X.base kk n c ps (spI X.K C c r)) (hr : Room (kk + 1) X.A) (h : AD X C ds O (e :: es) as O) (hz : r as ipost)
    (hf : ∀ x O1 F1 H1, ipost x O1 → Ok X.K C F1 O1 H1 → ∃ N fs dd d, O1 = (x, moI X.K C c fs dd) :: N ∧ post d N ∧ ∀ dx zs F2, Ex F1 F2 → F2 x = some (.ins c dx zs) → zs.map (·.1) = fs → DvAll X.K C F2 (zs.map (·.2)) dd → Dv X.K C F2 (.ref x) d)
    (hg : Gl X n := by rfl) (hp : Pl X e es pos := by exact ⟨rfl, rfl⟩) (hdb : (n == ("__debug__" : Str)) = false := by decide) : EDG X C ds O (.Call (.Name n p) (e :: es) [] pos) post := by
  obtain ⟨f, fd, m1, m2, m3, m4⟩ := M.ex
  refine ⟨fun σ H F ok env Q q pins s I => (pe_make m1 m2 hr hg m3 m4 .nil pass0 pa_w hdb hp.1 hp.2).run pins s σ H Q I ?_⟩
  refine h.run σ H F ok env _ fun vs H1 F1 g1 ok1 d1 => fun x dx hx hdx hne => ?_
  rw [List.append_nil]
  have hF := ok1.ex.free hx
  have hFd := ok1.ex.free hdx
  have gA : Grow [] F1 H1 F1 (upd H1 dx (.own x)) := Grow.own hdx
  have exA : Ex F1 (upd H1 dx (.own x)) := ok1.ex.side hFd
  have hx2 : upd H1 dx (.own x) x = none := by rw [upd_ne (Ne.symm hne)]; exact hx
  have gB : Grow [] F1 (upd H1 dx (.own x)) F1 (upd (upd H1 dx (.own x)) x (.ins c dx [])) := Grow.own hx2
  have exB : Ex F1 (upd (upd H1 dx (.own x)) x (.ins c dx [])) := exA.side hF
  have gAB := gA.trans gB fun _ m => .inl m
  refine ⟨F1, x, as, ipost, (Ok.empty exB).cons hF (moI_ok upd_same rfl .nil) (by simp [dom]), .cons (.loc x) d1, hz, fun H' F' O' g ok' hn hpo => ⟨rfl, ?_⟩⟩
  obtain ⟨N, fs, dd, d, rfl, hpd, hv⟩ := hf x O' F' H' hpo ok'
  obtain ⟨dx', zs, e1, e2, e3⟩ := moI_at (ok'.at_ (x, moI X.K C c fs dd) List.mem_cons_self)
  have hFx : F' x = none := ok'.fr (x, moI X.K C c fs dd) List.mem_cons_self
  have gC : Grow [] F1 H1 F' H' := ⟨g.ex, fun b u hb _ => g.keep b u (gAB.keep b u hb (by simp)) (fun m => by
      rw [List.mem_singleton.mp m, hx] at hb; cases hb), fun b hb => g.there b (gAB.there b hb), fun b n0 e0 t0 => g.new b (gAB.there b n0) (gAB.new b n0 e0 t0) (gAB.ty b n0 t0), fun b n0 t0 => g.ty b (gAB.there b n0) (gAB.ty b n0 t0)⟩
  have gD := gC.freeze (o := .ins c dx' zs) hFx hx
  have okO : Ok X.K C F' O H' := ok1.grow0 gC ok'.ex
  have hnx : ∀ e ∈ N, e.1 ≠ x := fun e he z => by
    have := List.nodup_cons.mp ok'.nd
    exact this.1 (z ▸ List.mem_map.mpr ⟨e, he, rfl⟩)
  have hN1 : ∀ e ∈ N, H1 e.1 = none := fun e he => by
    rcases hn e (List.mem_cons_of_mem _ he) with q | q
    · exact absurd q (hnx e he)
    · have h1 : e.1 ≠ x := hnx e he
      rw [upd_ne h1] at q
      by_cases h2 : e.1 = dx
      · rw [h2, upd_same] at q; cases q
      · rw [upd_ne h2] at q; exact q
  have okN : Ok X.K C F' (N ++ O) H' := by
    have t := ok'.tail
    refine ⟨ok'.ex, fun e he => ?_, ?_, fun e he => ?_⟩
    · rcases List.mem_append.mp he with he | he
      · exact t.fr e he
      · exact okO.fr e he
    · rw [List.map_append]
      refine List.nodup_append.mpr ⟨t.nd, okO.nd, fun a ha b hb hab => ?_⟩
      obtain ⟨e1', h1', rfl⟩ := List.mem_map.mp ha
      obtain ⟨e2', h2', rfl⟩ := List.mem_map.mp hb
      exact (ok1.at_ e2' h2').some (hab ▸ hN1 e1' h1')
    · rcases List.mem_append.mp he with he | he
      · exact t.at_ e he
      · exact okO.at_ e he
  have hxO : x ∉ dom (N ++ O) := fun m => by
    obtain ⟨e', h1', h2'⟩ := List.mem_map.mp m
    rcases List.mem_append.mp h1' with h1' | h1'
    · exact hnx e' h1' h2'
    · exact (ok1.at_ e' h1').some (h2' ▸ hx)
  have okF := okN.freeze hFx e1 hxO
  refine q (.ref x) H' _ d N (g1.trans (gD.mono (fun _ m => by simp at m) : Grow (dom O) _ _ _ _) fun _ m => .inl m) okF (fun e he => ?_) (hv dx' zs _ (Ex.new hFx) upd_same e2 (e3.mono (Ex.new hFx))) hpd
  cases hq : H e.1 with
  | none => rfl
  | some o => exact absurd (hN1 e he) (g1.there _ (by rw [hq]; simp))
end
end Sw
/-! The data layer: __init__, arguments that make things, returns. -/
namespace Sw
open PySem PySem.Spec L2
section
variable {X : Cx} {C : Addr} {ds ds' : Dsl} {O O' O1 O2 O3 : Led} {o i e ve : Expr} {d x y z : Dat} {E : En} {D : Ends} {F F' H H' : Hp} {σ : L2.St} {pos pos' p : Pos} {rest st : List Stmt} {es : List Expr}
theorem sds_retC {A B : Led} {q : Addr} {n : Int} {val : T3 × T3 → Bool} {kvs : List ((T3 × T3) × Dat)} {post : Dat → Led → Prop} (c : CacheOk n val kvs) (he : ED X C ds (A ++ (q, moN X.prog X.w X.K C encC q kvs) :: B) e d (A ++ (q, moN X.prog X.w X.K C encC q kvs) :: B)) (hp : post d (A ++ (q, moC X.prog X.w X.K C n val q) :: B)) (hr : ∀ v H, Rt X C E post v H → D.rt v H := by exact fun _ _ h => h) :
    SDs X (At X C E ds (A ++ (q, moN X.prog X.w X.K C encC q kvs) :: B)) (.Return (some e) pos :: rest) D :=
  sds_cons (ps_ret pe_w) fun σ H ⟨F, p⟩ => he.run σ H F p.ok p.env _ fun v H1 F1 g1 ok1 d1 => by
    have p1 := p.step g1 ok1 rfl
    have p2 := p1.swap (moC_ok (n := n) (p1.ok.at_ (q, moN X.prog X.w X.K C encC q kvs) (by simp)) c)
    exact hr v H1 ⟨F1, d, _, p2.g, p2.ok, d1, hp⟩
/-- return e, nothing that may change handed on -/
theorem sds_ret0 {post : Dat → Led → Prop} (he : ED X C ds O e d O') (hp : post d []) (hr : ∀ v H, Rt X C E post v H → D.rt v H := by exact fun _ _ h => h) : SDs X (At X C E ds O) (.Return (some e) pos :: rest) D :=
  sds_cons (ps_ret pe_w) fun σ H ⟨F, p⟩ => he.run σ H F p.ok p.env _ fun v H1 F1 g1 ok1 d1 => hr v H1 ⟨F1, d, [], (p.step g1 ok1 he.dm).g, ok1.nil, d1, hp⟩
/-- arguments that may leave new things -/
structure ADG (X : Cx) (C : Addr) (ds : Dsl) (O : Led) (es : List Expr) (post : List Dat → Led → Prop) : Prop where
  run : ∀ (σ : L2.St) (H F : Hp), Ok X.K C F O H → EnvOk X.K C F σ ds → ∀ Q : List V → Hp → Prop, (∀ vs H' F' xs N, Grow (dom O) F H F' H' → Ok X.K C F' (N ++ O) H' → (∀ e ∈ N, H e.1 = none) → DvAll X.K C F' vs xs → post xs N → Q vs H') → wA X es σ H Q
theorem adg_cons {post : List Dat → Led → Prop} (h : ED X C ds O e x O) (hr : ADG X C ds O es post) (hs : starEach (e :: es) X.env = (false, eval e X.env) :: starEach es X.env := by rfl) : ADG X C ds O (e :: es) fun xs N => ∃ ys, xs = x :: ys ∧ post ys N :=
  ⟨fun σ H F ok env Q q pos pins s I => (pa_cons pe_w pa_w hs).run pos pins s σ H Q I (h.run σ H F ok env _ fun v H1 F1 g1 ok1 d1 => hr.run σ H1 F1 ok1 (env.mono g1.ex) _ fun vs H2 F2 xs N g2 ok2 hn d2 hp =>
    q (v :: vs) H2 F2 (x :: xs) N (g1.trans g2 fun _ m => .inl m) ok2 (fun e he => by
      cases hq : H e.1 with
      | none => rfl
      | some o => exact absurd (hn e he) (g1.there _ (by rw [hq]; simp))) (.cons (d1.mono g2.ex) d2) ⟨xs, rfl, hp⟩)⟩
theorem adg_mk {post : Dat → Led → Prop} {ys : List Dat} (h : EDG X C ds O e post) (hr : ∀ d N, post d N → AD X C ds (N ++ O) es ys (N ++ O)) (hs : starEach (e :: es) X.env = (false, eval e X.env) :: starEach es X.env := by rfl) : ADG X C ds O (e :: es) fun xs N => ∃ d, xs = d :: ys ∧ post d N :=
  ⟨fun σ H F ok env Q q pos pins s I => (pa_cons pe_w pa_w hs).run pos pins s σ H Q I (h.run σ H F ok env _ fun v H1 F1 d N g1 ok1 hn d1 hp => (hr d N hp).run σ H1 F1 ok1 (env.mono g1.ex) _ fun vs H2 F2 g2 ok2 d2 =>
    q (v :: vs) H2 F2 (d :: ys) N (g1.trans g2 fun b m => by
      obtain ⟨e, he, rfl⟩ := List.mem_map.mp m
      rcases List.mem_append.mp he with he | he
      · exact .inr (hn e he)
      · exact .inl (List.mem_map.mpr ⟨e, he, rfl⟩)) ok2 hn (.cons (d1.mono g2.ex) d2) ⟨d, rfl, hp⟩)⟩
/-- return f(..), new things among the arguments -/
theorem sds_retG {n : Str} {ps : List Str} {kk : Nat} {r : List Dat → Led → (Dat → Led → Prop) → Prop} {apost : List Dat → Led → Prop} {post : Dat → Led → Prop} (G : Cal X.prog X.w X.K X.mg X.base kk n ps (spL X.K C r)) (hr : Room kk X.A) (h : ADG X C ds O (e :: es) apost) (hz : ∀ xs N, apost xs N → ∃ po, r xs (N ++ O) po ∧ ∀ d O', po d O' → post d [])
    (hg : Gl X n := by rfl) (hp : Pl X e es pos := by exact ⟨rfl, rfl⟩) (hdb : (n == ("__debug__" : Str)) = false := by decide) (hr' : ∀ v H, Rt X C E post v H → D.rt v H := by exact fun _ _ h => h) :
    SDs X (At X C E ds O) (.Return (some (.Call (.Name n p) (e :: es) [] pos)) pos' :: rest) D := by
  obtain ⟨f, fd, F1, hm, hk, hb⟩ := G.ex
  refine sds_cons (ps_ret (pe_call F1 hr hg hm hk hb .nil pass0 pa_w hdb hp.1 hp.2)) fun σ H ⟨F, p⟩ => ?_
  refine h.run σ H F p.ok p.env _ fun vs H1 F1 xs N g1 ok1 hn d1 hpo => ?_
  obtain ⟨po, h1, h2⟩ := hz xs N hpo
  show spL X.K C r (vs ++ []) H1 _ _
  rw [List.append_nil]
  refine ⟨F1, N ++ O, xs, po, ok1, d1, h1, fun v H2 F2 d O' g2 ok2 hd hpd => ?_⟩
  have p1 := p.stepG g1 ok1 hn
  refine hr' v H2 ⟨F2, d, [], p1.g.trans g2 fun b m => ?_, ok2.nil, hd, h2 d O' hpd⟩
  obtain ⟨e, he, rfl⟩ := List.mem_map.mp m
  exact p1.dm e he
theorem sds_ret0L {post post' : Dat → Led → Prop} (he : EDL X C ds O e post) (hq : ∀ d O', post d O' → post' d []) (hr : ∀ v H, Rt X C E post' v H → D.rt v H := by exact fun _ _ h => h) : SDs X (At X C E ds O) (.Return (some e) pos :: rest) D :=
  sds_cons (ps_ret pe_w) fun σ H ⟨F, p⟩ => he.run σ H F p.ok p.env _ fun v H1 F1 d O' g1 ok1 d1 hp => hr v H1 ⟨F1, d, [], (p.step g1 ok1 (he.dm d O' hp)).g, ok1.nil, d1, hq d O' hp⟩
end
section
variable {P : Program} {w : World} {K : PySem.W.Frag} {mg : Str → Option Value} {base : Heap}
theorem fn_init {C c : Addr} {n q : Str} {pa : Arguments} {body : List Stmt} {sc : Scope} {f : Addr} {fd : FuncData} {N ps : List Str} {k : Nat} {r : List Dat → (Addr → Led → Prop) → Prop} (Fn : FunD K n q pa body sc [] [] f fd) (S : FnScope N ps sc) (hl : ∀ as post, r as post → as.length + 1 = ps.length)
    (hb : ∀ (cdv : Value) (A : Around) (outer : List Env) (s : Shared) (H : Hp) (E' : XK), Room k (A.deeper (PyProof.Rows.envOfC q sc s.heap.objs.size f cdv)) → ∀ F x as post, r as post →
      SDs (Xo P w K mg base N q sc f cdv A outer s H E') (At (Xo P w K mg base N q sc f cdv A outer s H E') C ⟨[x], F, H⟩ (pad N (.loc x :: as)) [(x, moI K C c [] [])]) body ⟨fun σ H' => ∃ ds' O', At (Xo P w K mg base N q sc f cdv A outer s H E') C ⟨[x], F, H⟩ ds' O' σ H' ∧ post x O', fun _ _ => False, fun _ _ => False, fun _ _ => False⟩) :
    FnOk P w K mg base CX0 (k + 1) f fd ps (spI K C c r) := by
  refine Fn.ok S (fun vs H Q E h => ?_) (fun cdv A outer s H vs Q E hr h => ?_)
  · obtain ⟨F, x, as, post, ok, hd, hrr, _⟩ := h
    rw [hd.length]
    exact hl as post hrr
  · obtain ⟨F, x, as, post, ok, hd, hrr, kq⟩ := h
    refine ⟨_, PSs.nox pss_w, ?_⟩
    refine wSs_mono (hb cdv A outer s H E hr F x as post hrr _ _ ⟨F, ⟨Grow.refl, fun e he => .inl (by rw [List.mem_singleton.mp he]; simp), ok, env_start hd⟩⟩) (fun _ H' ⟨ds', O', ⟨F', p⟩, hp⟩ => ?_) (fun v H' h => h.elim) (fun _ _ h => h.elim) (fun _ _ h => h.elim)
    refine kq H' F' O' p.g p.ok (fun e he => ?_) hp
    rcases p.dm e he with m | m
    · exact .inl (List.mem_singleton.mp m)
    · exact .inr m
end
end Sw
/-! The data layer: tests that change what may change; comprehensions with a state. -/
namespace Sw
open PySem PySem.Spec L2
section
variable {X : Cx} {C : Addr} {ds ds' : Dsl} {O O' O1 O2 O3 : Led} {a b c o i e ve tg iter elt : Expr} {d x y z : Dat} {E : En} {D : Ends} {F F' H H' : Hp} {σ : L2.St} {pos pos' p : Pos} {body rest st : List Stmt} {es : List Expr} {scope : Scope} {vs : List Nat}
structure BDL (X : Cx) (C : Addr) (ds : Dsl) (O : Led) (e : Expr) (post : Bool → Led → Prop) : Prop where
  dm : ∀ k O', post k O' → dom O' = dom O
  run : ∀ (σ : L2.St) (H F : Hp), Ok X.K C F O H → EnvOk X.K C F σ ds → ∀ Q : Bool → Hp → Prop, (∀ H' F' k O', Grow (dom O) F H F' H' → Ok X.K C F' O' H' → post k O' → Q k H') → wT X e σ H Q
theorem bdl_val {post : Dat → Led → Prop} {post' : Bool → Led → Prop} (h : EDL X C ds O e post) (hb : ∀ d O', post d O' → ∃ k, d = .bl k ∧ post' k O') (dm : ∀ k O', post' k O' → dom O' = dom O) (he : ∀ whole, isTrue e X.env whole = (do let v ← whole; standAt e.pos; holding [v] (truthy v)) := by intro _; rfl) : BDL X C ds O e post' :=
  ⟨dm, fun σ H F ok env Q q pins s I => (pt_val pe_w he).run pins s σ H Q I (h.run σ H F ok env _ fun v H1 F1 d O' g1 ok1 d1 hp => by
    obtain ⟨k, rfl, hk⟩ := hb d O' hp
    cases d1
    exact ⟨k, rfl, q H1 F1 k O' g1 ok1 hk⟩)⟩
/-- a or b: a is false, b may change things -/
theorem bdl_or {post : Bool → Led → Prop} (h : BD X C ds O a false O) (h2 : BDL X C ds O b post) : BDL X C ds O (.BoolOp .Or [a, b] pos) post :=
  ⟨h2.dm, fun σ H F ok env Q q pins s I => (pw_or pt_w (pw_or1 pt_w)).pt.run pins s σ H Q I (h.run σ H F ok env _ fun H1 F1 g1 ok1 => h2.run σ H1 F1 ok1 (env.mono g1.ex) Q fun H2 F2 k O' g2 ok2 hk => q H2 F2 k O' (g1.trans g2 fun _ m => .inl m) ok2 hk)⟩
theorem sds_ifL {post : Bool → Led → Prop} (hc : BDL X C ds O c post) (h1 : ∀ O', post true O' → SDs X (At X C E ds O') body { D with nx := fun _ _ => False }) (h2 : ∀ O', post false O' → SDs X (At X C E ds O') rest D) : SDs X (At X C E ds O) (.If c body [] pos :: rest) D :=
  sds_cons (ps_if pt_w pss_w pss_w) fun σ H ⟨F, p⟩ => hc.run σ H F p.ok p.env _ fun H1 F1 k O' g1 ok1 hk => by
    have p1 := p.step g1 ok1 (hc.dm k O' hk)
    cases k with
    | true =>
      rw [if_pos rfl]
      exact wSs_mono (h1 O' hk σ H1 ⟨F1, p1⟩) (fun σ H m => m.elim) (fun _ _ h => h) (fun _ _ h => h) (fun _ _ h => h)
    | false =>
      rw [if_neg Bool.false_ne_true]
      exact wSs_mono ((sds_nil (fun _ _ h => h) : SDs X (At X C E ds O') [] { D with nx := At X C E ds O' }) σ H1 ⟨F1, p1⟩) (fun σ H m => h2 O' hk σ H m) (fun _ _ h => h) (fun _ _ h => h) (fun _ _ h => h)
/-- f(..) with new things among the arguments, that are not looked at behind it -/
theorem edl_callG {n : Str} {ps : List Str} {kk : Nat} {r : List Dat → Led → (Dat → Led → Prop) → Prop} {apost : List Dat → Led → Prop} {post : Dat → Led → Prop} (G : Cal X.prog X.w X.K X.mg X.base kk n ps (spL X.K C r)) (hr : Room kk X.A) (h : ADG X C ds O (e :: es) apost)
    (hz : ∀ xs N, apost xs N → ∃ po, r xs (N ++ O) po ∧ ∀ d O', po d O' → ∃ N' O2, O' = N' ++ O2 ∧ post d O2) (dm : ∀ d O', post d O' → dom O' = dom O)
    (hg : Gl X n := by rfl) (hp : Pl X e es pos := by exact ⟨rfl, rfl⟩) (hdb : (n == ("__debug__" : Str)) = false := by decide) : EDL X C ds O (.Call (.Name n p) (e :: es) [] pos) post := by
  obtain ⟨f, fd, F1, hm, hk, hb⟩ := G.ex
  refine ⟨dm, fun σ H F ok env Q q pins s I => (pe_call F1 hr hg hm hk hb .nil pass0 pa_w hdb hp.1 hp.2).run pins s σ H Q I ?_⟩
  refine h.run σ H F ok env _ fun vs H1 F1 xs N g1 ok1 hn d1 hpo => ?_
  obtain ⟨po, h1, h2⟩ := hz xs N hpo
  show spL X.K C r (vs ++ []) H1 _ _
  rw [List.append_nil]
  refine ⟨F1, N ++ O, xs, po, ok1, d1, h1, fun v H2 F2 d O' g2 ok2 hd hpd => ?_⟩
  obtain ⟨N', O2, rfl, hpost⟩ := h2 d O' hpd
  have tl : ∀ (N : Led), Ok X.K C F2 (N ++ O2) H2 → Ok X.K C F2 O2 H2 := fun N => by
    induction N with
    | nil => exact fun h => h
    | cons x N ih => exact fun h => ih h.tail
  refine q v H2 F2 d O2 (g1.trans g2 fun b m => ?_) (tl N' ok2) hd hpost
  obtain ⟨e, he, rfl⟩ := List.mem_map.mp m
  rcases List.mem_append.mp he with he | he
  · exact .inr (hn e he)
  · exact .inl (List.mem_map.mpr ⟨e, he, rfl⟩)
/-- [] among the arguments -/
theorem edg_lst0 : EDG X C ds O (.List [] p) fun d N => ∃ q, d = .loc q ∧ N = [(q, .lst [])] :=
  ⟨fun σ H F ok env Q k pins s I => (pe_lst pa_nil).run pins s σ H Q I ⟨Nat.zero_le _, fun q hq => by
    have hF := ok.ex.free hq
    exact k _ _ F (.loc q) [(q, .lst [])] (Grow.own hq) ((ok.grow0 (Grow.own hq) (ok.ex.side hF)).cons hF ⟨[], upd_same, .nil⟩ (notDom ok hq)) (fun e he => by rw [List.mem_singleton.mp he]; exact hq) (.loc q) ⟨q, rfl, rfl⟩⟩⟩
/-- the reading of a comprehension with a state -/
theorem lcS_td {α β : Type} {L : List α} {enc : α → Dat} {sh : Dsl → Dat → Option Dsl} {d1 : α → Dsl} {g : α → Dat} {wi : TI} {gg : TG} {tt : TT} {σ : L2.St} {H F : Hp} (I : List α → List α → β → Prop) (OI : β → Led) (b0 : β)
    (hw : ∀ R : It → Hp → Prop, (∀ J H1 F1, Grow (dom O) F H F1 H1 → Ok X.K C F1 (OI b0) H1 →
      Walk J (L.map enc).length (fun H' => Ex F1 H') (fun i H x H' => ∀ F2, Ex F1 F2 → Ex F2 H → ∃ F3, Grow [] F2 H F3 H' ∧ Ex F3 H' ∧ ∃ d, (L.map enc)[i]? = some d ∧ Dv X.K C F3 x d) → R J H1) → wi σ H R)
    (hg : ∀ (ds ds' : Dsl) (d : Dat), sh ds d = some ds' → ∀ (σ : L2.St) (H F : Hp) (v : V), Ex F H → EnvOk X.K C F σ ds → Dv X.K C F v d → ∀ Q : L2.St → Hp → Prop, (∀ σ', EnvOk X.K C F σ' ds' → wipe σ' vs = wipe σ vs → Q σ' H) → gg v σ H Q)
    (hs : ∀ a ∈ L, sh (wipeD ds vs) (enc a) = some (d1 a)) (hd : ∀ b, dom (OI b) = dom (OI b0)) (h0 : I [] [] b0)
    (ht : ∀ pre a post kept b, L = pre ++ a :: post → I pre kept b → ∀ (σ : L2.St) (H F : Hp), Ok X.K C F (OI b) H → EnvOk X.K C F σ (d1 a) → ∀ Q : Bool → Hp → Prop, (∀ H' F' k b', Grow (dom (OI b)) F H F' H' → Ok X.K C F' (OI b') H' → (k = true → I (pre ++ [a]) (kept ++ [a]) b') → (k = false → I (pre ++ [a]) kept b') → Q k H') → tt σ H Q)
    (he : ∀ a ∈ L, ∀ b s H C' cl fp, ED (Blk X s H scope C' cl fp) C (d1 a) (OI b) elt (g a) (OI b))
    (dm : dom (OI b0) = dom O) (hlen : L.length ≤ 100000) (env : EnvOk X.K C F σ ds) {Q : VK}
    (q : ∀ v H' F' kept b, Grow (dom O) F H F' H' → Ok X.K C F' (OI b) H' → I L kept b → Dv X.K C F' v (.lst (kept.map g)) → Q v H') : tLc wi gg tt (wI X scope elt) vs σ H Q := by
  refine hw _ fun J H1 F1 g1 ok1 w => ?_
  intro D hD
  have hDF : F1 D = none := ok1.ex.free hD
  have hDO : D ∉ dom (OI b0) := notDom ok1 hD
  have envW : EnvOk X.K C F1 (wipe σ vs) (wipeD ds vs) := (env.mono g1.ex).wipe vs
  refine lc_it w (Qd := fun H => Q (.ref D) H) (fun i H' => i ≤ L.length ∧ ∃ F2 acc kept b, Grow (dom (OI b0)) F1 H1 F2 H' ∧ Ok X.K C F2 (OI b) H' ∧ H' D = some (.lst acc) ∧ F2 D = none ∧ DvAll X.K C F2 acc (kept.map g) ∧ I (L.take i) kept b ∧ kept.length ≤ i)
    ⟨Nat.zero_le _, F1, [], [], b0, Grow.own hD, ok1.grow0 (Grow.own hD) (ok1.ex.side hDF), upd_same, hDF, .nil, h0, Nat.zero_le _⟩ (fun i H' hi ⟨_, F2, acc, kept, b, g2, ok2, _⟩ => g2.ex.trans ok2.ex) ?_ ?_
  · rintro i v H2 H3 hi ⟨hi', F2, acc, kept, b, g2, ok2, hacc, hF2, dacc, hI, hkl⟩ y
    obtain ⟨F3, g3, e3, d, hdd, dv⟩ := y F2 g2.ex ok2.ex
    rw [List.getElem?_map] at hdd
    obtain ⟨a, ha, rfl⟩ := Option.map_eq_some_iff.mp hdd
    have haL : a ∈ L := List.mem_of_getElem? ha
    have ok3 := ok2.grow0 g3 e3
    have hacc3 : H3 D = some (.lst acc) := g3.keepE _ _ hacc
    have hF3 : F3 D = none := g3.new D (by rw [hacc]; simp) hF2 (fun xs z => by rw [hacc] at z; cases z)
    have g13 : Grow (dom (OI b0)) F1 H1 F3 H3 := g2.trans g3 fun _ m => by simp at m
    have etake : L.take (i + 1) = L.take i ++ [a] := by rw [List.take_add_one, ha]; rfl
    have esplit : L = L.take i ++ a :: L.drop (i + 1) := by
      have h1 := List.take_append_drop (i + 1) L
      rw [etake, List.append_assoc] at h1
      exact h1.symm
    refine hg _ _ _ (hs a haL) _ H3 F3 v e3 ((envW.mono g2.ex).mono g3.ex) dv _ fun σ' env' hwp => ?_
    refine ⟨hwp.trans ?_, ?_⟩
    · have : ∀ (τ : L2.St) (us ws : List Nat), (∀ u ∈ us, u ∈ ws) → wipe (wipe τ us) ws = wipe τ ws := by
        intro τ us ws
        induction us with
        | nil => intro _; rfl
        | cons u us ih =>
          intro hs
          show wipe ((wipe τ us).set u none) ws = _
          rw [wipe_set _ _ (hs u List.mem_cons_self), ih fun u hu => hs u (List.mem_cons_of_mem _ hu)]
      exact this σ vs vs fun _ h => h
    · refine ht _ a _ kept b esplit hI σ' H3 F3 ok3 env' _ fun H4 F4 k b' g4 ok4 hk1 hk2 => ?_
      rw [hd b] at g4
      have g14 : Grow (dom (OI b0)) F1 H1 F4 H4 := g13.trans g4 fun _ m => .inl m
      have hacc4 : H4 D = some (.lst acc) := g4.keep _ _ hacc3 hDO
      have hF4 : F4 D = none := g4.new D (by rw [hacc3]; simp) hF3 (fun xs z => by rw [hacc3] at z; cases z)
      cases k with
      | false =>
        rw [if_neg Bool.false_ne_true]
        exact ⟨by simp at hi; omega, F4, acc, kept, b', g14, ok4, hacc4, hF4, (dacc.mono g3.ex).mono g4.ex, by rw [etake]; exact hk2 rfl, by omega⟩
      | true =>
        rw [if_pos rfl]
        intro s H0 C' cl fp
        refine (he a haL b' s H0 C' cl fp).run σ' H4 F4 ok4 (env'.mono g4.ex) _ fun u H5 F5 g5 ok5 du => ?_
        have hDO' : D ∉ dom (OI b') := by rw [hd b']; exact hDO
        have hacc5 : H5 D = some (.lst acc) := g5.keep _ _ hacc4 hDO'
        have hF5 : F5 D = none := g5.new D (by rw [hacc4]; simp) hF4 (fun xs z => by rw [hacc4] at z; cases z)
        have dall := ((dacc.mono g3.ex).mono g4.ex).mono g5.ex
        have hal : acc.length ≤ i := by
          have h1 := dacc.length
          rw [List.length_map] at h1
          omega
        have hi2 : i < L.length := by simpa using hi
        rw [hd b'] at g5
        refine ⟨acc, hacc5, szl (by omega), by omega, F5, acc ++ [u], kept ++ [a], b', ?_, ?_, upd_same, hF5, ?_, by rw [etake]; exact hk1 rfl, by rw [List.length_append]; show kept.length + 1 ≤ i + 1; omega⟩
        · exact (g14.trans g5 fun _ m => .inl m).trans (Grow.put (D := [D]) (by simp)) fun b m => .inr (by rw [List.mem_singleton.mp m]; exact hD)
        · exact ok5.grow (Grow.put (D := [D]) (by simp)) (ok5.ex.side hF5) fun x hx m => hDO' (by rw [← List.mem_singleton.mp m]; exact List.mem_map.mpr ⟨x, hx, rfl⟩)
        · rw [List.map_append]
          exact dall.append (DvAll.one du)
  · rintro H' ⟨_, F2, acc, kept, b, g2, ok2, hacc, hF2, dacc, hI, hkl⟩
    rw [List.length_map, List.take_length] at hI
    have gf : Grow (dom (OI b0)) F1 H1 (upd F2 D (.lst acc)) H' := g2.freeze hF2 hD
    have hDO' : D ∉ dom (OI b) := by rw [hd b]; exact hDO
    exact q _ _ _ kept b (g1.trans gf fun b m => .inl (by rw [← dm]; exact m)) (ok2.freeze hF2 hacc hDO') hI (dv_newL (X := X) hF2 dacc)
theorem edl_lcS {α β : Type} (L : List α) (enc : α → Dat) (sh : Dsl → Dat → Option Dsl) (d1 : α → Dsl) (g : α → Dat) (I : List α → List α → β → Prop) (OI : β → Led) (b0 : β) (own : List (Str × Nat)) {items : List Dat} (hi : IT X C ds O tg iter items (OI b0)) (hN : X.N.Nodup) (ok : BlkOk X.N X.env.scope scope own)
    (hg : GBt X C scope (own.map (·.2)) tg sh) (hs : ∀ a ∈ L, sh (wipeD ds (own.map (·.2))) (enc a) = some (d1 a)) (hd : ∀ b, dom (OI b) = dom (OI b0)) (h0 : I [] [] b0)
    (ht : ∀ pre a post kept b, L = pre ++ a :: post → I pre kept b → ∀ s H C' cl fp, BDL (Blk X s H scope C' cl fp) C (d1 a) (OI b) c fun k O' => ∃ b', O' = OI b' ∧ (k = true → I (pre ++ [a]) (kept ++ [a]) b') ∧ (k = false → I (pre ++ [a]) kept b'))
    (he : ∀ a ∈ L, ∀ b s H C' cl fp, ED (Blk X s H scope C' cl fp) C (d1 a) (OI b) elt (g a) (OI b)) (hlen : L.length ≤ 100000) (hit : items = L.map enc := by rfl) (hc : X.calm = true := by rfl) (hfs : ∀ x, foldedSetIterable iter X.env x = pure x := by intro _; rfl) :
    EDL X C ds O (.ListComp elt [⟨tg, iter, [c], 0⟩] scope pos) fun d O' => ∃ kept b, d = .lst (kept.map g) ∧ O' = OI b ∧ I L kept b := by
  obtain ⟨wi, pi, hw⟩ := hi.ex
  obtain ⟨gg, pg, hgg⟩ := hg.ex
  subst hit
  refine ⟨fun d O' ⟨kept, b, _, e, _⟩ => by rw [e, hd b]; exact hi.dm, fun σ H F okH env Q q pins s Iv => ?_⟩
  refine (pe_lc (own := own) hc hN pi ok (fun s H C' cl fp => pg s H C' cl fp) (fun s H C' cl fp => pts_one pt_wI) (fun s H C' cl fp => pe_wI) hfs).run pins s σ H Q Iv ?_
  refine lcS_td I OI b0 (hw σ H F okH env) hgg hs hd h0 (fun pre a post kept b hL hI σ H F ok env Q q s H0 C' cl fp => (ht pre a post kept b hL hI s H0 C' cl fp).run σ H F ok env Q fun H' F' k O' g' ok' ⟨b', e, h1, h2⟩ => q H' F' k b' g' (e ▸ ok') h1 h2) he hi.dm hlen env fun v H' F' kept b g' ok' hI dv => q v H' F' _ _ g' ok' dv ⟨kept, b, rfl, rfl, hI⟩
end
end Sw
/-! Walks: places, turns, motions. -/
namespace Sw
open PySem PySem.Spec L2
section
variable {P : Program} {w : World} {K : PySem.W.Frag} {mg : Str → Option Value} {base : Heap} {C : Addr}
theorem sc_nearest : FnScope ["side", "number", "rest"] ["side", "number"] (defScope s_nearest) := ⟨rfl, rfl, rfl, by decide +kernel, rfl, by decide +kernel, by decide +kernel⟩
def r_nearest (ds : List Dat) (d : Dat) : Prop := ∃ n z : Int, ds = [.int n, .int z] ∧ 0 < n ∧ d = .int (nearM n z)
theorem cal_nearest (D : Dfn K mg "nearest" s_nearest) : Cal P w K mg base 1 "nearest" ["side", "number"] (spP K C r_nearest) := by
  refine cal_pure D sc_nearest (fun ds d ⟨_, _, h, _⟩ => by rw [h]; rfl) (fun _ _ _ _ _ _ us hl => match us, hl with | [_, _], _ => rfl) fun f cdv A outer s H E' hr F ds d h => ?_
  have nd := sc_nearest.nd
  obtain ⟨n, z, rfl, h0, rfl⟩ := h
  refine sds_set (i := 2) nd (ed_mod (ed_var 1) (ed_var 0) h0) ?_
  refine sds_ret (ed_if (bd_cmp (ed_mul ed_int (ed_var 2) (cmulS (by omega))) (ed_var 0) c_le) (fun _ => ed_var 2) (fun _ => ed_sub (ed_var 2) (ed_var 0))) ?_
  unfold nearM
  by_cases h : 2 * (z % n) ≤ n <;> simp [h]
theorem sc_turned : FnScope ["quarters", "pair", "_", "x", "y"] ["quarters", "pair"] (defScope s_turned) := ⟨rfl, rfl, rfl, by decide +kernel, rfl, by decide +kernel, by decide +kernel⟩
def r_turned (ds : List Dat) (d : Dat) : Prop := ∃ (q : Int) (p : P2), ds = [.int q, t2 p] ∧ d = t2 (turnM q p)
theorem cal_turned (D : Dfn K mg "turned" s_turned) (T : Tx mg) : Cal P w K mg base 1 "turned" ["quarters", "pair"] (spP K C r_turned) := by
  refine cal_pure D sc_turned (fun ds d ⟨_, _, h, _⟩ => by rw [h]; rfl) (fun _ _ _ _ _ _ us hl => match us, hl with | [_, _], _ => rfl) fun f cdv A outer s H E0 hr F ds d h => ?_
  have nd := sc_turned.nd
  obtain ⟨q, p, rfl, rfl⟩ := h
  refine sds_asg (ed_var 1) (gd_tup (gds_cons (gd_name 3 nd) (gds_cons (gd_name 4 nd) gds_nil))) ?_
  refine sds_for (upto (q % 4).toNat) Dat.int (sh1 2) (fun pre => True) (fun pre => [some (.int q), some (t2 p), none, some (.int (rotN pre.length p).1), some (.int (rotN pre.length p).2)]) (fun pre => []) (it_rangeI T.range (ed_mod (ed_var 0) ed_int (by omega)) (by omega) (by omega)) (gt_name 2 nd) trivial (And.intro rfl (And.intro rfl (And.intro rfl (And.intro rfl trivial)))) rfl (fun pre a post hL hI E1 => ⟨_, rfl, ?_⟩) (fun hI => ?_)
  · refine sds_par 3 4 nd (ad_cons (ed_neg (ed_var 4)) (ad_cons (ed_var 3) ad_nil)) ?_
    refine sds_end (fun _ _ h => ⟨trivial, h⟩) ?_
    rw [List.length_append]
    exact And.intro rfl (And.intro rfl (And.intro rfl (And.intro rfl trivial)))
  refine sds_ret (ed_tup (ad_cons (ed_var 3) (ad_cons (ed_var 4) ad_nil))) ?_
  rw [upto_len]
  rfl
theorem sc_moved_place : FnScope ["side", "place", "motion", "_", "x", "y"] ["side", "place", "motion"] (defScope s_moved_place) := ⟨rfl, rfl, rfl, by decide +kernel, rfl, by decide +kernel, by decide +kernel⟩
def r_moved_place (ds : List Dat) (d : Dat) : Prop := ∃ (n : Int) (p : P2) (m : T3), ds = [.int n, t2 p, t3 m] ∧ 0 < n ∧ 0 ≤ m.2.2 ∧ m.2.2 ≤ 3 ∧ d = t2 (movePM n p m)
theorem cal_moved_place (D : Dfn K mg "moved_place" s_moved_place) (T : Tx mg) : Cal P w K mg base 1 "moved_place" ["side", "place", "motion"] (spP K C r_moved_place) := by
  refine cal_pure D sc_moved_place (fun ds d ⟨_, _, _, h, _⟩ => by rw [h]; rfl) (fun _ _ _ _ _ _ us hl => match us, hl with | [_, _, _], _ => rfl) fun f cdv A outer s H E0 hr F ds d h => ?_
  have nd := sc_moved_place.nd
  obtain ⟨n, p, m, rfl, h0, h1, h2, rfl⟩ := h
  refine sds_asg (ed_var 1) (gd_tup (gds_cons (gd_name 4 nd) (gds_cons (gd_name 5 nd) gds_nil))) ?_
  refine sds_for (upto m.2.2.toNat) Dat.int (sh1 3) (fun pre => True) (fun pre => [some (.int n), some (t2 p), some (t3 m), none, some (.int (rotN pre.length p).1), some (.int (rotN pre.length p).2)]) (fun pre => []) (it_rangeI T.range (ed_ixT (ed_var 2) (by exact ed_int) rfl) h1 (by omega)) (gt_name 3 nd) trivial (And.intro rfl (And.intro rfl (And.intro rfl (And.intro rfl (And.intro rfl trivial))))) rfl (fun pre a post hL hI E1 => ⟨_, rfl, ?_⟩) (fun hI => ?_)
  · refine sds_par 4 5 nd (ad_cons (ed_neg (ed_var 5)) (ad_cons (ed_var 4) ad_nil)) ?_
    refine sds_end (fun _ _ h => ⟨trivial, h⟩) ?_
    rw [List.length_append]
    exact And.intro rfl (And.intro rfl (And.intro rfl (And.intro rfl (And.intro rfl trivial))))
  refine sds_ret (ed_tup (ad_cons (ed_mod (ed_add (ed_var 4) (ed_ixT (ed_var 2) (by exact ed_int) rfl)) (ed_var 0) (by omega)) (ad_cons (ed_mod (ed_add (ed_var 5) (ed_ixT (ed_var 2) (by exact ed_int) rfl)) (ed_var 0) (by omega)) ad_nil))) ?_
  rw [upto_len]
  rfl
theorem sc_is_star : FnScope ["side", "star"] ["side", "star"] (defScope s_is_star) := ⟨rfl, rfl, rfl, by decide +kernel, rfl, by decide +kernel, by decide +kernel⟩
def r_is_star (ds : List Dat) (d : Dat) : Prop := ∃ (n : Int) (t : T3), ds = [.int n, t3 t] ∧ StarOk n t ∧ d = .bl true
theorem cal_is_star (D : Dfn K mg "is_star" s_is_star) (T : Tx mg) : Cal P w K mg base 1 "is_star" ["side", "star"] (spP K C r_is_star) := by
  refine cal_pure D sc_is_star (fun ds d ⟨_, _, h, _⟩ => by rw [h]; rfl) (fun _ _ _ _ _ _ us hl => match us, hl with | [_, _], _ => rfl) fun f cdv A outer s H E0 hr F ds d h => ?_
  have nd := sc_is_star.nd
  obtain ⟨n, t, rfl, ⟨h1, h2, h3, h4, h5, h6⟩, rfl⟩ := h
  refine sds_ret (ed_and (ed_cmp (ed_len T.len (ad_cons (ed_var 1) ad_nil) (LenD.tup _)) ed_int c_eq) (fun _ => (ed_and (ed_chain ed_int (ed_ixT (ed_var 1) (by exact ed_int) rfl) (ed_var 0) c_le c_lt) (fun _ => (ed_and (ed_chain ed_int (ed_ixT (ed_var 1) (by exact ed_int) rfl) (ed_var 0) c_le c_lt) (fun _ => (ed_one (ed_chain ed_int (ed_ixT (ed_var 1) (by exact ed_int) rfl) ed_int c_le c_le)))))))) ?_
  simp [h1, h2, h3, h4, h5, h6]
theorem sc_is_motion : FnScope ["side", "motion"] ["side", "motion"] (defScope s_is_motion) := ⟨rfl, rfl, rfl, by decide +kernel, rfl, by decide +kernel, by decide +kernel⟩
def r_is_motion (ds : List Dat) (d : Dat) : Prop := ∃ (n : Int) (t : T3), ds = [.int n, t3 t] ∧ MotOk n t ∧ d = .bl true
theorem cal_is_motion (D : Dfn K mg "is_motion" s_is_motion) (T : Tx mg) : Cal P w K mg base 1 "is_motion" ["side", "motion"] (spP K C r_is_motion) := by
  refine cal_pure D sc_is_motion (fun ds d ⟨_, _, h, _⟩ => by rw [h]; rfl) (fun _ _ _ _ _ _ us hl => match us, hl with | [_, _], _ => rfl) fun f cdv A outer s H E0 hr F ds d h => ?_
  have nd := sc_is_motion.nd
  obtain ⟨n, t, rfl, ⟨h1, h2, h3, h4, h5, h6⟩, rfl⟩ := h
  refine sds_ret (ed_and (ed_cmp (ed_len T.len (ad_cons (ed_var 1) ad_nil) (LenD.tup _)) ed_int c_eq) (fun _ => (ed_and (ed_chain ed_int (ed_ixT (ed_var 1) (by exact ed_int) rfl) (ed_var 0) c_le c_lt) (fun _ => (ed_and (ed_chain ed_int (ed_ixT (ed_var 1) (by exact ed_int) rfl) (ed_var 0) c_le c_lt) (fun _ => (ed_one (ed_chain ed_int (ed_ixT (ed_var 1) (by exact ed_int) rfl) ed_int c_le c_le)))))))) ?_
  simp [h1, h2, h3, h4, h5, h6]
def camD (r b g l : Int) : Dat := .tup [.int r, .int b, .int g, .int l]
theorem sc_is_camera : FnScope ["side", "camera", "reach", "blur", "glare", "limit"] ["side", "camera"] (defScope s_is_camera) := ⟨rfl, rfl, rfl, by decide +kernel, rfl, by decide +kernel, by decide +kernel⟩
def r_is_camera (ds : List Dat) (d : Dat) : Prop := ∃ (n r b g l : Int), ds = [.int n, camD r b g l] ∧ CamOk n r b g l ∧ d = .bl true
theorem cal_is_camera (D : Dfn K mg "is_camera" s_is_camera) (T : Tx mg) : Cal P w K mg base 1 "is_camera" ["side", "camera"] (spP K C r_is_camera) := by
  refine cal_pure D sc_is_camera (fun ds d ⟨_, _, _, _, _, h, _⟩ => by rw [h]; rfl) (fun _ _ _ _ _ _ us hl => match us, hl with | [_, _], _ => rfl) fun f cdv A outer s H E0 hr F ds d h => ?_
  have nd := sc_is_camera.nd
  obtain ⟨n, r, b, g, l, rfl, c, rfl⟩ := h
  obtain ⟨a1, a2, a3, a4, a5, a6, a7, a8, a9, a10⟩ := c
  refine sds_ifN (bd_conv (bd_cmp (ed_len T.len (ad_cons (ed_var 1) ad_nil) (LenD.tup _)) ed_int c_ne) (by rfl)) ?_
  refine sds_asg (ed_var 1) (gd_tup (gds_cons (gd_name 2 nd) (gds_cons (gd_name 3 nd) (gds_cons (gd_name 4 nd) (gds_cons (gd_name 5 nd) gds_nil))))) ?_
  refine sds_ifN (bd_conv (BW.bd (bw_or (bd_not (bd_chain ed_int (ed_var 2) ed_int c_le c_le)) (fun _ => (bw_or (bd_not (bd_chain ed_int (ed_var 3) ed_int c_le c_le)) (fun _ => (bw_or (bd_not (bd_chain ed_int (ed_var 4) ed_int c_le c_le)) (fun _ => (bw_or1 (bd_not (bd_chain ed_int (ed_var 5) ed_int c_le c_le)))))))))) (by simp [a1, a2, a3, a4, a5, a6, a7, a8])) ?_
  refine sds_ret (ed_and (ed_cmp (ed_var 3) (ed_var 2) c_le) (fun _ => (ed_one (ed_cmp (ed_add (ed_mul ed_int (ed_add (ed_var 2) (ed_var 3)) (cmulS (by omega))) ed_int) (ed_var 0) c_le)))) ?_
  simp [a9, a10]
end
end Sw
/-! Walks: triples, offsets, what is seen, motions. -/
namespace Sw
open PySem PySem.Spec L2
section
variable {P : Program} {w : World} {K : PySem.W.Frag} {mg : Str → Option Value} {base : Heap} {C : Addr}
theorem sc_is_spot : FnScope ["sky", "spot"] ["sky", "spot"] (defScope s_is_spot) := ⟨rfl, rfl, rfl, by decide +kernel, rfl, by decide +kernel, by decide +kernel⟩
def r_is_spot (ds : List Dat) (d : Dat) : Prop := ∃ (s : SkyD) (t : T3), ds = [.sky s, t3 t] ∧ SpotOk s t ∧ d = .bl true
theorem cal_is_spot (D : Dfn K mg "is_spot" s_is_spot) (T : Tx mg) (Y : Sy P w K mg base C) : Cal P w K mg base 3 "is_spot" ["sky", "spot"] (spP K C r_is_spot) := by
  refine cal_pure D sc_is_spot (fun ds d ⟨_, _, h, _⟩ => by rw [h]; rfl) (fun _ _ _ _ _ _ us hl => match us, hl with | [_, _], _ => rfl) fun f cdv A outer s0 H E0 hr F ds d h => ?_
  have nd := sc_is_spot.nd
  obtain ⟨s, t, rfl, ⟨a1, a2, a3, a4, a5, a6⟩, rfl⟩ := h
  refine sds_ifN (bd_conv (BW.bd (bw_or (bd_cmp (ed_len T.len (ad_cons (ed_var 1) ad_nil) (LenD.tup _)) ed_int c_ne) (fun _ => (bw_or1 (bd_not (bd_chain (ed_limit Y (hr.mono (by decide)) (ed_var 0)) (ed_ixT (ed_var 1) (by exact ed_int) rfl) (ed_add ed_int (ed_glare Y (hr.mono (by decide)) (ed_var 0))) c_le c_le)))))) (by simp [a5, a6])) ?_
  refine sds_ret (ed_and (ed_chain (ed_neg (ed_reach Y (hr.mono (by decide)) (ed_var 0))) (ed_ixT (ed_var 1) (by exact ed_int) rfl) (ed_reach Y (hr.mono (by decide)) (ed_var 0)) c_le c_le) (fun _ => (ed_one (ed_chain (ed_neg (ed_reach Y (hr.mono (by decide)) (ed_var 0))) (ed_ixT (ed_var 1) (by exact ed_int) rfl) (ed_reach Y (hr.mono (by decide)) (ed_var 0)) c_le c_le)))) ?_
  simp [a1, a2, a3, a4]
theorem sc_check_sighting : FnScope ["sky", "sighting", "spot"] ["sky", "sighting"] (defScope s_check_sighting) := ⟨rfl, rfl, rfl, by decide +kernel, rfl, by decide +kernel, by decide +kernel⟩
def r_check_sighting (ds : List Dat) (d : Dat) : Prop := ∃ (s : SkyD) (L : List T3), ds = [.sky s, .tup (L.map t3)] ∧ L.length ≤ 60 ∧ (∀ t ∈ L, SpotOk s t) ∧ SrT L ∧ d = .non
theorem cal_check_sighting (D : Dfn K mg "check_sighting" s_check_sighting) (T : Tx mg) (h_is_spot : Cal P w K mg base 3 "is_spot" ["sky", "spot"] (spP K C r_is_spot)) : Cal P w K mg base 4 "check_sighting" ["sky", "sighting"] (spP K C r_check_sighting) := by
  refine cal_pure D sc_check_sighting (fun ds d ⟨_, _, h, _⟩ => by rw [h]; rfl) (fun _ _ _ _ _ _ us hl => match us, hl with | [_, _], _ => rfl) fun f cdv A outer s0 H E0 hr F ds d h => ?_
  have nd := sc_check_sighting.nd
  obtain ⟨s, L, rfl, hl, hs, ho, rfl⟩ := h
  refine sds_ifN (bd_conv (BW.bd (bw_or (bd_cmp (ed_len T.len (ad_cons (ed_var 1) ad_nil) (LenD.tup _)) (ed_gint rfl T.MOST_SPOTS) c_gt) (fun _ => (bw_or1 (bd_not (bd_val (ed_all T.all (ad_cons (ed_lcB L t3 (sh1 2) (fun a => [some (.sky s), some (.tup (L.map t3)), some (t3 a)]) (fun _ => true) [("spot", 2)] (it_tup (ed_var 1)) nd (blkOk_by (N := ["sky", "sighting", "spot"]) (sc := defScope s_check_sighting) (by decide +kernel)) (gb_name 2 nd) (fun a ha => rfl) (fun a ha s H C1 cl fp => (ed_call h_is_spot (hr.mono (by decide)) (ad_cons (ed_var 0) (ad_cons (ed_var 2) ad_nil)) ⟨_, _, rfl, hs a ha, rfl⟩)) (by omega)) ad_nil)))))))) (by simp; omega)) ?_
  refine sds_ifN (bd_conv (bd_cmp (ed_listOf T.list (ad_cons (ed_var 1) ad_nil) (.inr rfl)) (ed_sorted3 T.sorted (ad_cons (ed_var 1) ad_nil) (SeqD.tup _)) (c_neD (enc := encL t3) (a := L) (b := sort3 L) eqc_t3.lst hr.units (by decide))) (by rw [← sort3_of ho (List.Perm.refl _)]; simp)) ?_
  exact sds_fall rfl
theorem sc_all_triples : FnScope ["side", "found", "x", "y", "quarter"] ["side"] (defScope s_all_triples) := ⟨rfl, rfl, rfl, by decide +kernel, rfl, by decide +kernel, by decide +kernel⟩
def r_all_triples (ds : List Dat) (d : Dat) : Prop := ∃ (n : Int), ds = [.int n] ∧ 0 ≤ n ∧ n ≤ 9 ∧ d = .lst ((tripsM n.toNat).map t3)
theorem cal_all_triples (D : Dfn K mg "all_triples" s_all_triples) (T : Tx mg) : Cal P w K mg base 1 "all_triples" ["side"] (spP K C r_all_triples) := by
  refine cal_pure D sc_all_triples (fun ds d ⟨_, h, _⟩ => by rw [h]; rfl) (fun _ _ _ _ _ _ us hl => match us, hl with | [_], _ => rfl) fun f cdv A outer s0 H E0 hr F ds d h => ?_
  have nd := sc_all_triples.nd
  obtain ⟨n, rfl, h0, h9, rfl⟩ := h
  have eN : (upto n.toNat).length ≤ 9 := by rw [upto_len]; omega
  have l1 : ∀ (a : Int) (l : List Int), (l.flatMap fun y => (upto 4).map fun q => t3 (a, y, q)).length = l.length * 4 := fun a l => flat_len (f := fun y => (upto 4).map fun q => t3 (a, y, q)) (c := 4) (fun _ => rfl) l
  have l2 : ∀ (l : List Int), (l.flatMap fun x => (upto n.toNat).flatMap fun y => (upto 4).map fun q => t3 (x, y, q)).length = l.length * ((upto n.toNat).length * 4) := fun l => flat_len (f := fun x => (upto n.toNat).flatMap fun y => (upto 4).map fun q => t3 (x, y, q)) (fun x => l1 x _) l
  refine sds_newL (i := 1) nd fun q1 => ?_
  refine sds_for (upto n.toNat) .int (sh1 2) (fun pre => True) (fun pre => [some (.int n), some (.loc q1), none, none, none]) (fun pre => [(q1, .lst (pre.flatMap fun x => (upto n.toNat).flatMap fun y => (upto 4).map fun q => t3 (x, y, q)))]) (it_rangeI T.range (ed_var 0) h0 (by omega)) (gt_name 2 nd) trivial (by repeat (first | exact trivial | refine And.intro rfl ?_)) rfl (fun pre a post hL hI E1 => ⟨_, rfl, ?_⟩) (fun hI => ?_)
  · have p1 := pre_len hL
    refine sds_for (upto n.toNat) .int (sh1 3) (fun pre => True) (fun pre => [some (.int n), some (.loc q1), some (.int a), none, none]) (fun pre2 => [(q1, .lst ((pre.flatMap fun x => (upto n.toNat).flatMap fun y => (upto 4).map fun q => t3 (x, y, q)) ++ pre2.flatMap fun y => (upto 4).map fun q => t3 (a, y, q)))]) (it_rangeI T.range (ed_var 0) h0 (by omega)) (gt_name 3 nd) trivial (by repeat (first | exact trivial | refine And.intro rfl ?_)) (by simp) (fun pre2 b post2 hL2 hI2 E2 => ⟨_, rfl, ?_⟩) (fun hI2 => ?_)
    · have p2 := pre_len hL2
      refine sds_expr (ed_extend [] _ (ed_var 1) (ad_cons (ed_lcM (upto 4) .int (sh1 4) (fun q => [some (.int n), some (.loc q1), some (.int a), some (.int b), some (.int q)]) (fun q => t3 (a, b, q)) [("quarter", 4)] (it_rangeI T.range ed_int (by omega) (by omega)) nd (blkOk_by (N := ["side", "found", "x", "y", "quarter"]) (sc := defScope s_all_triples) (by decide +kernel)) (gb_name 4 nd) (fun a ha => rfl) (fun a ha s H C1 cl fp => (ed_tup (ad_cons (ed_var 2) (ad_cons (ed_var 3) (ad_cons (ed_var 4) ad_nil))))) (by decide)) ad_nil) (by
        rw [List.length_append, l1, l2, List.length_map, upto_len 4]
        have : pre.length * ((upto n.toNat).length * 4) ≤ 9 * (9 * 4) := Nat.mul_le_mul (by omega) (Nat.mul_le_mul eN (Nat.le_refl _))
        omega)) ?_
      refine sds_end (fun _ _ h => ⟨trivial, h⟩) (by repeat (first | exact trivial | refine And.intro rfl ?_)) (by simp)
    refine sds_end (fun _ _ h => ⟨trivial, h⟩) (by repeat (first | exact trivial | refine And.intro rfl ?_)) (by simp)
  refine sds_freeze (i := 1) List.not_mem_nil ?_
  refine sds_ret (ed_var 1) ?_
  simp [tripsM, List.map_flatMap]
  rfl
theorem sc_attitudes : FnScope ["sky"] ["sky"] (defScope s_attitudes) := ⟨rfl, rfl, rfl, by decide +kernel, rfl, by decide +kernel, by decide +kernel⟩
def r_attitudes (ds : List Dat) (d : Dat) : Prop := ∃ (s : SkyD), ds = [.sky s] ∧ 0 ≤ s.side ∧ s.side ≤ 9 ∧ d = .lst ((tripsM s.side.toNat).map t3)
theorem cal_attitudes (D : Dfn K mg "attitudes" s_attitudes) (T : Tx mg) (Y : Sy P w K mg base C) (h_all_triples : Cal P w K mg base 1 "all_triples" ["side"] (spP K C r_all_triples)) : Cal P w K mg base 3 "attitudes" ["sky"] (spP K C r_attitudes) := by
  refine cal_pure D sc_attitudes (fun ds d ⟨_, h, _⟩ => by rw [h]; rfl) (fun _ _ _ _ _ _ us hl => match us, hl with | [_], _ => rfl) fun f cdv A outer s0 H E0 hr F ds d h => ?_
  have nd := sc_attitudes.nd
  obtain ⟨s, rfl, h0, h9, rfl⟩ := h
  refine sds_ret (ed_call h_all_triples (hr.mono (by decide)) (ad_cons (ed_side Y (hr.mono (by decide)) (ed_var 0)) ad_nil) ⟨_, rfl, h0, h9, rfl⟩) ?_
  rfl
theorem sc_motions : FnScope ["sky"] ["sky"] (defScope s_motions) := ⟨rfl, rfl, rfl, by decide +kernel, rfl, by decide +kernel, by decide +kernel⟩
def r_motions (ds : List Dat) (d : Dat) : Prop := ∃ (s : SkyD), ds = [.sky s] ∧ 0 ≤ s.side ∧ s.side ≤ 9 ∧ d = .lst ((tripsM s.side.toNat).map t3)
theorem cal_motions (D : Dfn K mg "motions" s_motions) (T : Tx mg) (Y : Sy P w K mg base C) (h_all_triples : Cal P w K mg base 1 "all_triples" ["side"] (spP K C r_all_triples)) : Cal P w K mg base 3 "motions" ["sky"] (spP K C r_motions) := by
  refine cal_pure D sc_motions (fun ds d ⟨_, h, _⟩ => by rw [h]; rfl) (fun _ _ _ _ _ _ us hl => match us, hl with | [_], _ => rfl) fun f cdv A outer s0 H E0 hr F ds d h => ?_
  have nd := sc_motions.nd
  obtain ⟨s, rfl, h0, h9, rfl⟩ := h
  refine sds_ret (ed_call h_all_triples (hr.mono (by decide)) (ad_cons (ed_side Y (hr.mono (by decide)) (ed_var 0)) ad_nil) ⟨_, rfl, h0, h9, rfl⟩) ?_
  rfl
theorem sc_check_attitude : FnScope ["sky", "attitude"] ["sky", "attitude"] (defScope s_check_attitude) := ⟨rfl, rfl, rfl, by decide +kernel, rfl, by decide +kernel, by decide +kernel⟩
def r_check_attitude (ds : List Dat) (d : Dat) : Prop := ∃ (s : SkyD) (a : T3), ds = [.sky s, t3 a] ∧ MotOk s.side a ∧ d = .non
theorem cal_check_attitude (D : Dfn K mg "check_attitude" s_check_attitude) (T : Tx mg) (Y : Sy P w K mg base C) (h_is_motion : Cal P w K mg base 1 "is_motion" ["side", "motion"] (spP K C r_is_motion)) : Cal P w K mg base 3 "check_attitude" ["sky", "attitude"] (spP K C r_check_attitude) := by
  refine cal_pure D sc_check_attitude (fun ds d ⟨_, _, h, _⟩ => by rw [h]; rfl) (fun _ _ _ _ _ _ us hl => match us, hl with | [_, _], _ => rfl) fun f cdv A outer s0 H E0 hr F ds d h => ?_
  have nd := sc_check_attitude.nd
  obtain ⟨s, a, rfl, ha, rfl⟩ := h
  refine sds_ifN (bd_conv (bd_not (bd_val (ed_call h_is_motion (hr.mono (by decide)) (ad_cons (ed_side Y (hr.mono (by decide)) (ed_var 0)) (ad_cons (ed_var 1) ad_nil)) ⟨_, _, rfl, ha, rfl⟩))) rfl) ?_
  exact sds_fall rfl
theorem sc_check_motion : FnScope ["sky", "motion"] ["sky", "motion"] (defScope s_check_motion) := ⟨rfl, rfl, rfl, by decide +kernel, rfl, by decide +kernel, by decide +kernel⟩
def r_check_motion (ds : List Dat) (d : Dat) : Prop := ∃ (s : SkyD) (a : T3), ds = [.sky s, t3 a] ∧ MotOk s.side a ∧ d = .non
theorem cal_check_motion (D : Dfn K mg "check_motion" s_check_motion) (T : Tx mg) (Y : Sy P w K mg base C) (h_is_motion : Cal P w K mg base 1 "is_motion" ["side", "motion"] (spP K C r_is_motion)) : Cal P w K mg base 3 "check_motion" ["sky", "motion"] (spP K C r_check_motion) := by
  refine cal_pure D sc_check_motion (fun ds d ⟨_, _, h, _⟩ => by rw [h]; rfl) (fun _ _ _ _ _ _ us hl => match us, hl with | [_, _], _ => rfl) fun f cdv A outer s0 H E0 hr F ds d h => ?_
  have nd := sc_check_motion.nd
  obtain ⟨s, a, rfl, ha, rfl⟩ := h
  refine sds_ifN (bd_conv (bd_not (bd_val (ed_call h_is_motion (hr.mono (by decide)) (ad_cons (ed_side Y (hr.mono (by decide)) (ed_var 0)) (ad_cons (ed_var 1) ad_nil)) ⟨_, _, rfl, ha, rfl⟩))) rfl) ?_
  exact sds_fall rfl
theorem sc_check_command : FnScope ["sky", "command"] ["sky", "command"] (defScope s_check_command) := ⟨rfl, rfl, rfl, by decide +kernel, rfl, by decide +kernel, by decide +kernel⟩
def r_check_command (ds : List Dat) (d : Dat) : Prop := ∃ (s : SkyD) (c : T3), ds = [.sky s, t3 c] ∧ 0 ≤ c.2.2 ∧ c.2.2 ≤ 3 ∧ maxI (absI c.1) (absI c.2.1) < s.side ∧ d = .non
theorem cal_check_command (D : Dfn K mg "check_command" s_check_command) (T : Tx mg) (Y : Sy P w K mg base C) : Cal P w K mg base 3 "check_command" ["sky", "command"] (spP K C r_check_command) := by
  refine cal_pure D sc_check_command (fun ds d ⟨_, _, h, _⟩ => by rw [h]; rfl) (fun _ _ _ _ _ _ us hl => match us, hl with | [_, _], _ => rfl) fun f cdv A outer s0 H E0 hr F ds d h => ?_
  have nd := sc_check_command.nd
  obtain ⟨s, c, rfl, h0, h3, hm, rfl⟩ := h
  refine sds_ifN (bd_conv (BW.bd (bw_or (bd_cmp (ed_len T.len (ad_cons (ed_var 1) ad_nil) (LenD.tup _)) ed_int c_ne) (fun _ => (bw_or (bd_not (bd_chain ed_int (ed_ixT (ed_var 1) (by exact ed_int) rfl) ed_int c_le c_le)) (fun _ => (bw_or1 (bd_cmp (ed_max2 T.max (ad_cons (ed_abs T.abs (ad_cons (ed_ixT (ed_var 1) (by exact ed_int) rfl) ad_nil)) (ad_cons (ed_abs T.abs (ad_cons (ed_ixT (ed_var 1) (by exact ed_int) rfl) ad_nil)) ad_nil))) (ed_side Y (hr.mono (by decide)) (ed_var 0)) c_ge))))))) (by
    have hm2 : decide (s.side ≤ maxI (absI c.1) (absI c.2.1)) = false := decide_eq_false (by omega)
    unfold maxI absI at hm2
    simp [h0, h3, hm2])) ?_
  exact sds_fall rfl
theorem sc_offset_of : FnScope ["sky", "attitude", "star", "x", "y"] ["sky", "attitude", "star"] (defScope s_offset_of) := ⟨rfl, rfl, rfl, by decide +kernel, rfl, by decide +kernel, by decide +kernel⟩
def r_offset_of (ds : List Dat) (d : Dat) : Prop := ∃ (s : SkyD) (a : T3) (t : T3), ds = [.sky s, t3 a, t3 t] ∧ 0 < s.side ∧ d = optD t2 (offM s a t)
theorem cal_offset_of (D : Dfn K mg "offset_of" s_offset_of) (T : Tx mg) (Y : Sy P w K mg base C) (h_nearest : Cal P w K mg base 1 "nearest" ["side", "number"] (spP K C r_nearest)) (h_turned : Cal P w K mg base 1 "turned" ["quarters", "pair"] (spP K C r_turned)) : Cal P w K mg base 3 "offset_of" ["sky", "attitude", "star"] (spP K C r_offset_of) := by
  refine cal_pure D sc_offset_of (fun ds d ⟨_, _, _, h, _⟩ => by rw [h]; rfl) (fun _ _ _ _ _ _ us hl => match us, hl with | [_, _, _], _ => rfl) fun f cdv A outer s0 H E0 hr F ds d h => ?_
  have nd := sc_offset_of.nd
  obtain ⟨s, a, t, rfl, h0, rfl⟩ := h
  refine sds_set (i := 3) nd (ed_call h_nearest (hr.mono (by decide)) (ad_cons (ed_side Y (hr.mono (by decide)) (ed_var 0)) (ad_cons (ed_sub (ed_ixT (ed_var 2) (by exact ed_int) rfl) (ed_ixT (ed_var 1) (by exact ed_int) rfl)) ad_nil)) ⟨_, _, rfl, h0, rfl⟩) ?_
  refine sds_set (i := 4) nd (ed_call h_nearest (hr.mono (by decide)) (ad_cons (ed_side Y (hr.mono (by decide)) (ed_var 0)) (ad_cons (ed_sub (ed_ixT (ed_var 2) (by exact ed_int) rfl) (ed_ixT (ed_var 1) (by exact ed_int) rfl)) ad_nil)) ⟨_, _, rfl, h0, rfl⟩) ?_
  refine sds_ifR (bd_cmp (ed_max2 T.max (ad_cons (ed_abs T.abs (ad_cons (ed_var 3) ad_nil)) (ad_cons (ed_abs T.abs (ad_cons (ed_var 4) ad_nil)) ad_nil))) (ed_add (ed_reach Y (hr.mono (by decide)) (ed_var 0)) (ed_blur Y (hr.mono (by decide)) (ed_var 0))) c_gt) (fun h => ?_) (fun h => ?_)
  · refine sds_ret ed_non ?_
    have e : offM s a t = none := if_pos (of_decide_eq_true h)
    rw [e]; rfl
  refine sds_ret (ed_call h_turned (hr.mono (by decide)) (ad_cons (ed_neg (ed_ixT (ed_var 1) (by exact ed_int) rfl)) (ad_cons (ed_tup (ad_cons (ed_var 3) (ad_cons (ed_var 4) ad_nil))) ad_nil)) ⟨_, (nearM s.side (t.1 - a.1), nearM s.side (t.2.1 - a.2.1)), rfl, rfl⟩) ?_
  have e : offM s a t = some _ := if_neg (of_decide_eq_false h)
  rw [e]; rfl
def r_star_at (ds : List Dat) (d : Dat) : Prop := ∃ (s : SkyD) (i : Int), ds = [.sky s, .int i] ∧ 0 ≤ i ∧ i < s.stars.length ∧ d = t3 (starAt s i)
theorem sc_offset : FnScope ["sky", "attitude", "number"] ["sky", "attitude", "number"] (defScope s_offset) := ⟨rfl, rfl, rfl, by decide +kernel, rfl, by decide +kernel, by decide +kernel⟩
def r_offset (ds : List Dat) (d : Dat) : Prop := ∃ (s : SkyD) (a : T3) (i : Int), ds = [.sky s, t3 a, .int i] ∧ MotOk s.side a ∧ 0 ≤ i ∧ i < s.stars.length ∧ d = optD t2 (offM s a (starAt s i))
theorem cal_offset (D : Dfn K mg "offset" s_offset) (T : Tx mg) (Y : Sy P w K mg base C) (h_check_attitude : Cal P w K mg base 3 "check_attitude" ["sky", "attitude"] (spP K C r_check_attitude)) (h_offset_of : Cal P w K mg base 3 "offset_of" ["sky", "attitude", "star"] (spP K C r_offset_of)) (h_star_at : Mtd P w K mg base C 1 "star_at" ["self", "number"] (spP K C r_star_at)) : Cal P w K mg base 4 "offset" ["sky", "attitude", "number"] (spP K C r_offset) := by
  refine cal_pure D sc_offset (fun ds d ⟨_, _, _, h, _⟩ => by rw [h]; rfl) (fun _ _ _ _ _ _ us hl => match us, hl with | [_, _, _], _ => rfl) fun f cdv A outer s0 H E0 hr F ds d h => ?_
  have nd := sc_offset.nd
  obtain ⟨s, a, i, rfl, ha, h0, h1, rfl⟩ := h
  refine sds_expr (ed_call h_check_attitude (hr.mono (by decide)) (ad_cons (ed_var 0) (ad_cons (ed_var 1) ad_nil)) ⟨_, _, rfl, ha, rfl⟩) ?_
  refine sds_ret (ed_call h_offset_of (hr.mono (by decide)) (ad_cons (ed_var 0) (ad_cons (ed_var 1) (ad_cons (ed_methS Y.cl h_star_at (hr.mono (by decide)) (ed_var 0) (ad_cons (ed_var 2) ad_nil) ⟨_, _, rfl, h0, h1, rfl⟩) ad_nil))) ⟨_, _, _, rfl, by have := ha.1; have := ha.2; omega, rfl⟩) ?_
  rfl
theorem sc_within : FnScope ["sky", "attitude", "room", "least", "found", "number", "star", "place"] ["sky", "attitude", "room", "least"] (defScope s_within) := ⟨rfl, rfl, rfl, by decide +kernel, rfl, by decide +kernel, by decide +kernel⟩
def r_within (ds : List Dat) (d : Dat) : Prop := ∃ (s : SkyD) (a : T3) (room least : Int), ds = [.sky s, t3 a, .int room, .int least] ∧ 0 < s.side ∧ s.stars.length ≤ 1000 ∧ d = .lst ((withinM s a room least).map .int)
theorem cal_within (D : Dfn K mg "within" s_within) (T : Tx mg) (Y : Sy P w K mg base C) (h_offset_of : Cal P w K mg base 3 "offset_of" ["sky", "attitude", "star"] (spP K C r_offset_of)) : Cal P w K mg base 4 "within" ["sky", "attitude", "room", "least"] (spP K C r_within) := by
  refine cal_pure D sc_within (fun ds d ⟨_, _, _, _, h, _⟩ => by rw [h]; rfl) (fun _ _ _ _ _ _ us hl => match us, hl with | [_, _, _, _], _ => rfl) fun f cdv A outer s0 H E0 hr F ds d h => ?_
  have nd := sc_within.nd
  obtain ⟨s, a, room, least, rfl, h0, hl, rfl⟩ := h
  refine sds_newL (i := 4) nd fun q4 => ?_
  refine sds_for s.stars.zipIdx (fun p : T3 × Nat => .tup [.int (p.2 : Nat), t3 p.1]) (sh2 5 6) (fun pre => True) (fun pre => [some (.sky s), some (t3 a), some (.int room), some (.int least), some (.loc q4), none, none, none]) (fun pre => [(q4, .lst ((pre.filter fun p => inRoom s a room least p.1).map fun p => .int ((p.2 : Nat) : Int)))]) (it_enumT T.enumerate (ed_stars Y (hr.mono (by decide)) (ed_var 0))) (gt_pair 5 6 nd) trivial (by repeat (first | exact trivial | refine And.intro rfl ?_)) rfl (fun pre b post hL hI E1 => ⟨_, rfl, ?_⟩) (fun hI => ?_) (hit := zip_enum _ _)
  · refine sds_set (i := 7) nd (ed_call h_offset_of (hr.mono (by decide)) (ad_cons (ed_var 0) (ad_cons (ed_var 1) (ad_cons (ed_var 6) ad_nil))) ⟨_, _, _, rfl, h0, rfl⟩) ?_
    have p1 := pre_len hL
    rw [List.length_zipIdx] at p1
    have hlen : ((pre.filter fun p => inRoom s a room least p.1).map fun p => Dat.int ((p.2 : Nat) : Int)).length < 100000 := by
      rw [List.length_map]
      have := List.length_filter_le (fun p : T3 × Nat => inRoom s a room least p.1) pre
      omega
    cases ho : offM s a b.1 with
    | none =>
      refine sds_ifN (bd_conv (BW.bd (bw_and (k' := false) (bd_cmp (x := .non) (ed_var 7) ed_non c_notN) (fun h => Bool.noConfusion (show false = true from h)))) (by rfl)) ?_
      refine sds_end (fun _ _ h => ⟨trivial, h⟩) (by repeat (first | exact trivial | refine And.intro rfl ?_)) (by rw [neg_rest _ _ _ (by unfold inRoom; rw [ho])])
    | some o =>
      refine sds_ifJ ([some (.sky s), some (t3 a), some (.int room), some (.int least), some (.loc q4), none, none, none]) ([(q4, .lst (((pre ++ [b]).filter fun p => inRoom s a room least p.1).map fun p => .int ((p.2 : Nat) : Int)))]) (BW.bd (bw_and (bd_cmp (ed_var 7) ed_non c_notN) (fun _ => (bw_and (bd_cmp (ed_max2 T.max (ad_cons (ed_abs T.abs (ad_cons (ed_ixT (ed_var 7) (by exact ed_int) rfl) ad_nil)) (ad_cons (ed_abs T.abs (ad_cons (ed_ixT (ed_var 7) (by exact ed_int) rfl) ad_nil)) ad_nil))) (ed_var 2) c_le) (fun _ => (bw_and1 (bd_cmp (ed_ixT (ed_var 6) (by exact ed_int) rfl) (ed_var 3) c_ge))))))) (fun h => ?_) (fun h => ?_) ?_
      · refine sds_expr (ed_append [] _ (ed_var 4) (ad_cons (ed_var 5) ad_nil) hlen) ?_
        refine sds_end (fun _ _ h => h) (by repeat (first | exact trivial | refine And.intro rfl ?_)) (by rw [pos_rest _ _ _ (by unfold inRoom; rw [ho]; exact h)]; simp)
      · refine sds_end (fun _ _ h => h) (by repeat (first | exact trivial | refine And.intro rfl ?_)) (by rw [neg_rest _ _ _ (by unfold inRoom; rw [ho]; exact h)])
      · refine sds_end (fun _ _ h => ⟨trivial, h⟩) (by repeat (first | exact trivial | refine And.intro rfl ?_))
  refine sds_freeze (i := 4) List.not_mem_nil ?_
  refine sds_ret (ed_var 4) ?_
  unfold withinM
  rw [List.map_map]
  rfl
theorem sc_seen_stars : FnScope ["sky", "attitude"] ["sky", "attitude"] (defScope s_seen_stars) := ⟨rfl, rfl, rfl, by decide +kernel, rfl, by decide +kernel, by decide +kernel⟩
def r_seen_stars (ds : List Dat) (d : Dat) : Prop := ∃ (s : SkyD) (a : T3), ds = [.sky s, t3 a] ∧ MotOk s.side a ∧ s.stars.length ≤ 1000 ∧ d = .lst ((seenM s a).map .int)
theorem cal_seen_stars (D : Dfn K mg "seen_stars" s_seen_stars) (T : Tx mg) (Y : Sy P w K mg base C) (h_check_attitude : Cal P w K mg base 3 "check_attitude" ["sky", "attitude"] (spP K C r_check_attitude)) (h_within : Cal P w K mg base 4 "within" ["sky", "attitude", "room", "least"] (spP K C r_within)) : Cal P w K mg base 5 "seen_stars" ["sky", "attitude"] (spP K C r_seen_stars) := by
  refine cal_pure D sc_seen_stars (fun ds d ⟨_, _, h, _⟩ => by rw [h]; rfl) (fun _ _ _ _ _ _ us hl => match us, hl with | [_, _], _ => rfl) fun f cdv A outer s0 H E0 hr F ds d h => ?_
  have nd := sc_seen_stars.nd
  obtain ⟨s, a, rfl, ha, hl, rfl⟩ := h
  refine sds_expr (ed_call h_check_attitude (hr.mono (by decide)) (ad_cons (ed_var 0) (ad_cons (ed_var 1) ad_nil)) ⟨_, _, rfl, ha, rfl⟩) ?_
  refine sds_ret (ed_call h_within (hr.mono (by decide)) (ad_cons (ed_var 0) (ad_cons (ed_var 1) (ad_cons (ed_add (ed_reach Y (hr.mono (by decide)) (ed_var 0)) (ed_blur Y (hr.mono (by decide)) (ed_var 0))) (ad_cons (ed_sub (ed_limit Y (hr.mono (by decide)) (ed_var 0)) (ed_glare Y (hr.mono (by decide)) (ed_var 0))) ad_nil)))) ⟨_, _, _, _, rfl, by have := ha.1; have := ha.2; omega, hl, rfl⟩) ?_
  rfl
theorem sc_sure_stars : FnScope ["sky", "attitude"] ["sky", "attitude"] (defScope s_sure_stars) := ⟨rfl, rfl, rfl, by decide +kernel, rfl, by decide +kernel, by decide +kernel⟩
def r_sure_stars (ds : List Dat) (d : Dat) : Prop := ∃ (s : SkyD) (a : T3), ds = [.sky s, t3 a] ∧ MotOk s.side a ∧ s.stars.length ≤ 1000 ∧ d = .lst ((sureM s a).map .int)
theorem cal_sure_stars (D : Dfn K mg "sure_stars" s_sure_stars) (T : Tx mg) (Y : Sy P w K mg base C) (h_check_attitude : Cal P w K mg base 3 "check_attitude" ["sky", "attitude"] (spP K C r_check_attitude)) (h_within : Cal P w K mg base 4 "within" ["sky", "attitude", "room", "least"] (spP K C r_within)) : Cal P w K mg base 5 "sure_stars" ["sky", "attitude"] (spP K C r_sure_stars) := by
  refine cal_pure D sc_sure_stars (fun ds d ⟨_, _, h, _⟩ => by rw [h]; rfl) (fun _ _ _ _ _ _ us hl => match us, hl with | [_, _], _ => rfl) fun f cdv A outer s0 H E0 hr F ds d h => ?_
  have nd := sc_sure_stars.nd
  obtain ⟨s, a, rfl, ha, hl, rfl⟩ := h
  refine sds_expr (ed_call h_check_attitude (hr.mono (by decide)) (ad_cons (ed_var 0) (ad_cons (ed_var 1) ad_nil)) ⟨_, _, rfl, ha, rfl⟩) ?_
  refine sds_ret (ed_call h_within (hr.mono (by decide)) (ad_cons (ed_var 0) (ad_cons (ed_var 1) (ad_cons (ed_sub (ed_reach Y (hr.mono (by decide)) (ed_var 0)) (ed_blur Y (hr.mono (by decide)) (ed_var 0))) (ad_cons (ed_add (ed_limit Y (hr.mono (by decide)) (ed_var 0)) (ed_glare Y (hr.mono (by decide)) (ed_var 0))) ad_nil)))) ⟨_, _, _, _, rfl, by have := ha.1; have := ha.2; omega, hl, rfl⟩) ?_
  rfl
theorem sc_commanded : FnScope ["sky", "attitude", "command", "x", "y"] ["sky", "attitude", "command"] (defScope s_commanded) := ⟨rfl, rfl, rfl, by decide +kernel, rfl, by decide +kernel, by decide +kernel⟩
def r_commanded (ds : List Dat) (d : Dat) : Prop := ∃ (s : SkyD) (a : T3) (c : T3), ds = [.sky s, t3 a, t3 c] ∧ MotOk s.side a ∧ 0 ≤ c.2.2 ∧ c.2.2 ≤ 3 ∧ maxI (absI c.1) (absI c.2.1) < s.side ∧ d = t3 (cmdM s.side a c)
theorem cal_commanded (D : Dfn K mg "commanded" s_commanded) (T : Tx mg) (Y : Sy P w K mg base C) (h_check_attitude : Cal P w K mg base 3 "check_attitude" ["sky", "attitude"] (spP K C r_check_attitude)) (h_check_command : Cal P w K mg base 3 "check_command" ["sky", "command"] (spP K C r_check_command)) (h_turned : Cal P w K mg base 1 "turned" ["quarters", "pair"] (spP K C r_turned)) : Cal P w K mg base 4 "commanded" ["sky", "attitude", "command"] (spP K C r_commanded) := by
  refine cal_pure D sc_commanded (fun ds d ⟨_, _, _, h, _⟩ => by rw [h]; rfl) (fun _ _ _ _ _ _ us hl => match us, hl with | [_, _, _], _ => rfl) fun f cdv A outer s0 H E0 hr F ds d h => ?_
  have nd := sc_commanded.nd
  obtain ⟨s, a, c, rfl, ha, h0, h3, hm, rfl⟩ := h
  have hn : 0 < s.side := by have := ha.1; have := ha.2; omega
  refine sds_expr (ed_call h_check_attitude (hr.mono (by decide)) (ad_cons (ed_var 0) (ad_cons (ed_var 1) ad_nil)) ⟨_, _, rfl, ha, rfl⟩) ?_
  refine sds_expr (ed_call h_check_command (hr.mono (by decide)) (ad_cons (ed_var 0) (ad_cons (ed_var 2) ad_nil)) ⟨_, _, rfl, h0, h3, hm, rfl⟩) ?_
  refine sds_asg (ed_call h_turned (hr.mono (by decide)) (ad_cons (ed_ixT (ed_var 1) (by exact ed_int) rfl) (ad_cons (ed_slT (ed_var 2) pd_none (pd_some ed_int)) ad_nil)) ⟨_, (c.1, c.2.1), rfl, rfl⟩) (gd_tup (gds_cons (gd_name 3 nd) (gds_cons (gd_name 4 nd) gds_nil))) ?_
  refine sds_ret (ed_tup (ad_cons (ed_mod (ed_add (ed_ixT (ed_var 1) (by exact ed_int) rfl) (ed_var 3)) (ed_side Y (hr.mono (by decide)) (ed_var 0)) (by omega)) (ad_cons (ed_mod (ed_add (ed_ixT (ed_var 1) (by exact ed_int) rfl) (ed_var 4)) (ed_side Y (hr.mono (by decide)) (ed_var 0)) (by omega)) (ad_cons (ed_mod (ed_add (ed_ixT (ed_var 1) (by exact ed_int) rfl) (ed_ixT (ed_var 2) (by exact ed_int) rfl)) ed_int (by omega)) ad_nil)))) ?_
  rfl
theorem sc_moved : FnScope ["sky", "attitude", "motion"] ["sky", "attitude", "motion"] (defScope s_moved) := ⟨rfl, rfl, rfl, by decide +kernel, rfl, by decide +kernel, by decide +kernel⟩
def r_moved (ds : List Dat) (d : Dat) : Prop := ∃ (s : SkyD) (a : T3) (m : T3), ds = [.sky s, t3 a, t3 m] ∧ MotOk s.side a ∧ MotOk s.side m ∧ d = t3 (moveM s.side a m)
theorem cal_moved (D : Dfn K mg "moved" s_moved) (T : Tx mg) (Y : Sy P w K mg base C) (h_check_attitude : Cal P w K mg base 3 "check_attitude" ["sky", "attitude"] (spP K C r_check_attitude)) (h_check_motion : Cal P w K mg base 3 "check_motion" ["sky", "motion"] (spP K C r_check_motion)) (h_moved_place : Cal P w K mg base 1 "moved_place" ["side", "place", "motion"] (spP K C r_moved_place)) : Cal P w K mg base 4 "moved" ["sky", "attitude", "motion"] (spP K C r_moved) := by
  refine cal_pure D sc_moved (fun ds d ⟨_, _, _, h, _⟩ => by rw [h]; rfl) (fun _ _ _ _ _ _ us hl => match us, hl with | [_, _, _], _ => rfl) fun f cdv A outer s0 H E0 hr F ds d h => ?_
  have nd := sc_moved.nd
  obtain ⟨s, a, m, rfl, ha, hm, rfl⟩ := h
  refine sds_expr (ed_call h_check_attitude (hr.mono (by decide)) (ad_cons (ed_var 0) (ad_cons (ed_var 1) ad_nil)) ⟨_, _, rfl, ha, rfl⟩) ?_
  refine sds_expr (ed_call h_check_motion (hr.mono (by decide)) (ad_cons (ed_var 0) (ad_cons (ed_var 2) ad_nil)) ⟨_, _, rfl, hm, rfl⟩) ?_
  refine sds_ret (ed_catT (ed_call h_moved_place (hr.mono (by decide)) (ad_cons (ed_side Y (hr.mono (by decide)) (ed_var 0)) (ad_cons (ed_slT (ed_var 1) pd_none (pd_some ed_int)) (ad_cons (ed_var 2) ad_nil))) ⟨_, (a.1, a.2.1), _, rfl, by have := ha.1; have := ha.2; omega, hm.2.2.2.2.1, hm.2.2.2.2.2, rfl⟩) (ed_tup (ad_cons (ed_mod (ed_add (ed_ixT (ed_var 1) (by exact ed_int) rfl) (ed_ixT (ed_var 2) (by exact ed_int) rfl)) ed_int (by omega)) ad_nil))) ?_
  rfl
theorem sc_motion_between : FnScope ["sky", "one", "other", "quarter", "x", "y"] ["sky", "one", "other"] (defScope s_motion_between) := ⟨rfl, rfl, rfl, by decide +kernel, rfl, by decide +kernel, by decide +kernel⟩
def r_motion_between (ds : List Dat) (d : Dat) : Prop := ∃ (s : SkyD) (a : T3) (b : T3), ds = [.sky s, t3 a, t3 b] ∧ MotOk s.side a ∧ MotOk s.side b ∧ d = t3 (betwM s.side a b)
theorem cal_motion_between (D : Dfn K mg "motion_between" s_motion_between) (T : Tx mg) (Y : Sy P w K mg base C) (h_check_attitude : Cal P w K mg base 3 "check_attitude" ["sky", "attitude"] (spP K C r_check_attitude)) (h_turned : Cal P w K mg base 1 "turned" ["quarters", "pair"] (spP K C r_turned)) : Cal P w K mg base 4 "motion_between" ["sky", "one", "other"] (spP K C r_motion_between) := by
  refine cal_pure D sc_motion_between (fun ds d ⟨_, _, _, h, _⟩ => by rw [h]; rfl) (fun _ _ _ _ _ _ us hl => match us, hl with | [_, _, _], _ => rfl) fun f cdv A outer s0 H E0 hr F ds d h => ?_
  have nd := sc_motion_between.nd
  obtain ⟨s, a, b, rfl, ha, hb, rfl⟩ := h
  have hn : 0 < s.side := by have := ha.1; have := ha.2; omega
  refine sds_expr (ed_call h_check_attitude (hr.mono (by decide)) (ad_cons (ed_var 0) (ad_cons (ed_var 1) ad_nil)) ⟨_, _, rfl, ha, rfl⟩) ?_
  refine sds_expr (ed_call h_check_attitude (hr.mono (by decide)) (ad_cons (ed_var 0) (ad_cons (ed_var 2) ad_nil)) ⟨_, _, rfl, hb, rfl⟩) ?_
  refine sds_set (i := 3) nd (ed_mod (ed_sub (ed_ixT (ed_var 2) (by exact ed_int) rfl) (ed_ixT (ed_var 1) (by exact ed_int) rfl)) ed_int (by omega)) ?_
  refine sds_asg (ed_call h_turned (hr.mono (by decide)) (ad_cons (ed_var 3) (ad_cons (ed_slT (ed_var 1) pd_none (pd_some ed_int)) ad_nil)) ⟨_, (a.1, a.2.1), rfl, rfl⟩) (gd_tup (gds_cons (gd_name 4 nd) (gds_cons (gd_name 5 nd) gds_nil))) ?_
  refine sds_ret (ed_tup (ad_cons (ed_mod (ed_sub (ed_ixT (ed_var 2) (by exact ed_int) rfl) (ed_var 4)) (ed_side Y (hr.mono (by decide)) (ed_var 0)) (by omega)) (ad_cons (ed_mod (ed_sub (ed_ixT (ed_var 2) (by exact ed_int) rfl) (ed_var 5)) (ed_side Y (hr.mono (by decide)) (ed_var 0)) (by omega)) (ad_cons (ed_var 3) ad_nil)))) ?_
  rfl
theorem sc_reversed_motion : FnScope ["sky", "motion", "x", "y"] ["sky", "motion"] (defScope s_reversed_motion) := ⟨rfl, rfl, rfl, by decide +kernel, rfl, by decide +kernel, by decide +kernel⟩
def r_reversed_motion (ds : List Dat) (d : Dat) : Prop := ∃ (s : SkyD) (m : T3), ds = [.sky s, t3 m] ∧ MotOk s.side m ∧ d = t3 (revM s.side m)
theorem cal_reversed_motion (D : Dfn K mg "reversed_motion" s_reversed_motion) (T : Tx mg) (Y : Sy P w K mg base C) (h_check_motion : Cal P w K mg base 3 "check_motion" ["sky", "motion"] (spP K C r_check_motion)) (h_turned : Cal P w K mg base 1 "turned" ["quarters", "pair"] (spP K C r_turned)) : Cal P w K mg base 4 "reversed_motion" ["sky", "motion"] (spP K C r_reversed_motion) := by
  refine cal_pure D sc_reversed_motion (fun ds d ⟨_, _, h, _⟩ => by rw [h]; rfl) (fun _ _ _ _ _ _ us hl => match us, hl with | [_, _], _ => rfl) fun f cdv A outer s0 H E0 hr F ds d h => ?_
  have nd := sc_reversed_motion.nd
  obtain ⟨s, m, rfl, hm, rfl⟩ := h
  have hn : 0 < s.side := by have := hm.1; have := hm.2; omega
  refine sds_expr (ed_call h_check_motion (hr.mono (by decide)) (ad_cons (ed_var 0) (ad_cons (ed_var 1) ad_nil)) ⟨_, _, rfl, hm, rfl⟩) ?_
  refine sds_asg (ed_call h_turned (hr.mono (by decide)) (ad_cons (ed_neg (ed_ixT (ed_var 1) (by exact ed_int) rfl)) (ad_cons (ed_tup (ad_cons (ed_neg (ed_ixT (ed_var 1) (by exact ed_int) rfl)) (ad_cons (ed_neg (ed_ixT (ed_var 1) (by exact ed_int) rfl)) ad_nil))) ad_nil)) ⟨_, (-m.1, -m.2.1), rfl, rfl⟩) (gd_tup (gds_cons (gd_name 2 nd) (gds_cons (gd_name 3 nd) gds_nil))) ?_
  refine sds_ret (ed_tup (ad_cons (ed_mod (ed_var 2) (ed_side Y (hr.mono (by decide)) (ed_var 0)) (by omega)) (ad_cons (ed_mod (ed_var 3) (ed_side Y (hr.mono (by decide)) (ed_var 0)) (by omega)) (ad_cons (ed_mod (ed_neg (ed_ixT (ed_var 1) (by exact ed_int) rfl)) ed_int (by omega)) ad_nil)))) ?_
  rfl
end
end Sw
/-! Walks: sightings, needs, what is seen. -/
namespace Sw
open PySem PySem.Spec L2
section
variable {P : Program} {w : World} {K : PySem.W.Frag} {mg : Str → Option Value} {base : Heap} {C : Addr}
theorem sc_fitting : FnScope ["sky", "attitude", "star", "sighting", "place", "found", "number", "spot", "far"] ["sky", "attitude", "star", "sighting"] (defScope s_fitting) := ⟨rfl, rfl, rfl, by decide +kernel, rfl, by decide +kernel, by decide +kernel⟩
def r_fitting (ds : List Dat) (d : Dat) : Prop := ∃ (s : SkyD) (a : T3) (t : T3) (sg : List T3), ds = [.sky s, t3 a, t3 t, .tup (sg.map t3)] ∧ 0 < s.side ∧ sg.length ≤ 1000 ∧ d = .lst ((fitM s a t sg).map .int)
theorem cal_fitting (D : Dfn K mg "fitting" s_fitting) (T : Tx mg) (Y : Sy P w K mg base C) (h_offset_of : Cal P w K mg base 3 "offset_of" ["sky", "attitude", "star"] (spP K C r_offset_of)) : Cal P w K mg base 4 "fitting" ["sky", "attitude", "star", "sighting"] (spP K C r_fitting) := by
  refine cal_pure D sc_fitting (fun ds d ⟨_, _, _, _, h, _⟩ => by rw [h]; rfl) (fun _ _ _ _ _ _ us hl => match us, hl with | [_, _, _, _], _ => rfl) fun f cdv A outer s0 H E0 hr F ds d h => ?_
  have nd := sc_fitting.nd
  obtain ⟨s, a, t, sg, rfl, h0, hl, rfl⟩ := h
  refine sds_set (i := 4) nd (ed_call h_offset_of (hr.mono (by decide)) (ad_cons (ed_var 0) (ad_cons (ed_var 1) (ad_cons (ed_var 2) ad_nil))) ⟨_, _, _, rfl, h0, rfl⟩) ?_
  cases ho : offM s a t with
  | none =>
    refine sds_ifR (bd_cmp (x := .non) (ed_var 4) ed_non c_isN) (fun h => ?_) (fun h => Bool.noConfusion (show true = false from h))
    refine sds_ret (ed_lst ad_nil) ?_
    have e : fitM s a t sg = [] := by
      unfold fitM fitB
      rw [ho]
      simp
    rw [e]
    rfl
  | some o =>
    refine sds_ifR (bd_cmp (x := t2 o) (ed_var 4) ed_non c_isN) (fun h => Bool.noConfusion (show false = true from h)) (fun h => ?_)
    refine sds_newL (i := 5) nd fun q5 => ?_
    refine sds_for sg.zipIdx (fun p : T3 × Nat => .tup [.int (p.2 : Nat), t3 p.1]) (sh2 6 7) (fun pre => True) (fun pre => [some (.sky s), some (t3 a), some (t3 t), some (.tup (sg.map t3)), some (t2 o), some (.loc q5), none, none, none]) (fun pre => [(q5, .lst ((pre.filter fun p => fitB s a t p.1).map fun p => .int ((p.2 : Nat) : Int)))]) (it_enumT T.enumerate (ed_var 3)) (gt_pair 6 7 nd) trivial (by repeat (first | exact trivial | refine And.intro rfl ?_)) rfl (fun pre b post hL hI E1 => ⟨_, rfl, ?_⟩) (fun hI => ?_) (hit := zip_enum _ _)
    · have p1 := pre_len hL
      rw [List.length_zipIdx] at p1
      have hlen : ((pre.filter fun p => fitB s a t p.1).map fun p => Dat.int ((p.2 : Nat) : Int)).length < 100000 := by
        rw [List.length_map]
        have := List.length_filter_le (fun p : T3 × Nat => fitB s a t p.1) pre
        omega
      refine sds_set (i := 8) nd (ed_max2 T.max (ad_cons (ed_abs T.abs (ad_cons (ed_sub (ed_ixT (ed_var 4) (by exact ed_int) rfl) (ed_ixT (ed_var 7) (by exact ed_int) rfl)) ad_nil)) (ad_cons (ed_abs T.abs (ad_cons (ed_sub (ed_ixT (ed_var 4) (by exact ed_int) rfl) (ed_ixT (ed_var 7) (by exact ed_int) rfl)) ad_nil)) ad_nil))) ?_
      refine sds_ifJ ([some (.sky s), some (t3 a), some (t3 t), some (.tup (sg.map t3)), some (t2 o), some (.loc q5), none, none, none]) ([(q5, .lst (((pre ++ [b]).filter fun p => fitB s a t p.1).map fun p => .int ((p.2 : Nat) : Int)))]) (BW.bd (bw_and (bd_cmp (ed_var 8) (ed_blur Y (hr.mono (by decide)) (ed_var 0)) c_le) (fun _ => (bw_and1 (bd_cmp (ed_abs T.abs (ad_cons (ed_sub (ed_ixT (ed_var 2) (by exact ed_int) rfl) (ed_ixT (ed_var 7) (by exact ed_int) rfl)) ad_nil)) (ed_glare Y (hr.mono (by decide)) (ed_var 0)) c_le))))) (fun h => ?_) (fun h => ?_) ?_
      · refine sds_expr (ed_append [] _ (ed_var 5) (ad_cons (ed_var 6) ad_nil) hlen) ?_
        refine sds_end (fun _ _ h => h) (by repeat (first | exact trivial | refine And.intro rfl ?_)) (by rw [pos_rest _ _ _ (by unfold fitB; rw [ho]; exact h)]; simp)
      · refine sds_end (fun _ _ h => h) (by repeat (first | exact trivial | refine And.intro rfl ?_)) (by rw [neg_rest _ _ _ (by unfold fitB; rw [ho]; exact h)])
      · refine sds_end (fun _ _ h => ⟨trivial, h⟩) (by repeat (first | exact trivial | refine And.intro rfl ?_))
    refine sds_freeze (i := 5) List.not_mem_nil ?_
    refine sds_ret (ed_var 5) ?_
    unfold fitM
    rw [List.map_map]
    rfl
theorem sc_table_in : FnScope ["sky", "attitude", "sighting", "star"] ["sky", "attitude", "sighting"] (defScope s_table_in) := ⟨rfl, rfl, rfl, by decide +kernel, rfl, by decide +kernel, by decide +kernel⟩
def r_table_in (ds : List Dat) (d : Dat) : Prop := ∃ (s : SkyD) (a : T3) (sg : List T3), ds = [.sky s, t3 a, .tup (sg.map t3)] ∧ 0 < s.side ∧ sg.length ≤ 1000 ∧ s.stars.length ≤ 1000 ∧ d = encL (encL .int) (tableM s a sg)
theorem cal_table_in (D : Dfn K mg "table_in" s_table_in) (T : Tx mg) (Y : Sy P w K mg base C) (h_fitting : Cal P w K mg base 4 "fitting" ["sky", "attitude", "star", "sighting"] (spP K C r_fitting)) : Cal P w K mg base 5 "table_in" ["sky", "attitude", "sighting"] (spP K C r_table_in) := by
  refine cal_pure D sc_table_in (fun ds d ⟨_, _, _, h, _⟩ => by rw [h]; rfl) (fun _ _ _ _ _ _ us hl => match us, hl with | [_, _, _], _ => rfl) fun f cdv A outer s0 H E0 hr F ds d h => ?_
  have nd := sc_table_in.nd
  obtain ⟨s, a, sg, rfl, h0, hl, hs, rfl⟩ := h
  refine sds_ret (ed_lcE s.stars t3 (sh1 3) (fun t => [some (.sky s), some (t3 a), some (.tup (sg.map t3)), some (t3 t)]) (encL .int) (fun t => fitM s a t sg) [("star", 3)] (it_tup (ed_stars Y (hr.mono (by decide)) (ed_var 0))) nd (blkOk_by (N := ["sky", "attitude", "sighting", "star"]) (sc := defScope s_table_in) (by decide +kernel)) (gb_name 3 nd) (fun a ha => rfl) (fun t ht s0 H C1 cl fp => (ed_call h_fitting (hr.mono (by decide)) (ad_cons (ed_var 0) (ad_cons (ed_var 1) (ad_cons (ed_var 3) (ad_cons (ed_var 2) ad_nil)))) ⟨_, _, _, _, rfl, h0, hl, rfl⟩)) (by omega)) ?_
  rfl
def r_most (ds : List Dat) (d : Dat) : Prop := ∃ (table : List (List Int)) (rows : List Int) (c : Nat), ds = [encL (encL .int) table, encL .int rows] ∧ TabOk table c ∧ RowsOk table.length rows ∧ d = .int (matM table rows c : Nat)
theorem sc_need_of : FnScope ["table", "sure", "many"] ["table", "sure", "many"] (defScope s_need_of) := ⟨rfl, rfl, rfl, by decide +kernel, rfl, by decide +kernel, by decide +kernel⟩
def r_need_of (ds : List Dat) (d : Dat) : Prop := ∃ (table : List (List Int)) (sure : List Int) (c : Nat) (many : Int), ds = [encL (encL .int) table, encL .int sure, .int many] ∧ TabOk table c ∧ RowsOk table.length sure ∧ d = t2 (needOf table sure c many)
theorem cal_need_of (D : Dfn K mg "need_of" s_need_of) (T : Tx mg) (h_most : Cal P w K mg base 6 "most" ["table", "rows"] (spP K C r_most)) : Cal P w K mg base 7 "need_of" ["table", "sure", "many"] (spP K C r_need_of) := by
  refine cal_pure D sc_need_of (fun ds d ⟨_, _, _, _, h, _⟩ => by rw [h]; rfl) (fun _ _ _ _ _ _ us hl => match us, hl with | [_, _, _], _ => rfl) fun f cdv A outer s0 H E0 hr F ds d h => ?_
  have nd := sc_need_of.nd
  obtain ⟨table, sure, c, many, rfl, ht, hs, rfl⟩ := h
  refine sds_ret (ed_tup (ad_cons (ed_sub (ed_len T.len (ad_cons (ed_var 1) ad_nil) (LenD.lst _)) (ed_call h_most (hr.mono (by decide)) (ad_cons (ed_var 0) (ad_cons (ed_var 1) ad_nil)) ⟨_, _, c, rfl, ht, hs, rfl⟩)) (ad_cons (ed_sub (ed_var 2) (ed_call h_most (hr.mono (by decide)) (ad_cons (ed_var 0) (ad_cons (ed_listRg T.list T.range (ed_len T.len (ad_cons (ed_var 0) ad_nil) (LenD.lst _)) (by have := ht.few; simp; omega)) ad_nil)) ⟨table, upto table.length, c, by simp [encL], ht, upto_rows _, rfl⟩)) ad_nil))) ?_
  simp [needOf, t2]
theorem sc_need_in : FnScope ["sky", "attitude", "sighting"] ["sky", "attitude", "sighting"] (defScope s_need_in) := ⟨rfl, rfl, rfl, by decide +kernel, rfl, by decide +kernel, by decide +kernel⟩
def r_need_in (ds : List Dat) (d : Dat) : Prop := ∃ (s : SkyD) (a : T3) (sg : List T3), ds = [.sky s, t3 a, .tup (sg.map t3)] ∧ MotOk s.side a ∧ sg.length ≤ 1000 ∧ s.stars.length ≤ 1000 ∧ d = t2 (needM s a sg)
theorem cal_need_in (D : Dfn K mg "need_in" s_need_in) (T : Tx mg) (h_need_of : Cal P w K mg base 7 "need_of" ["table", "sure", "many"] (spP K C r_need_of)) (h_table_in : Cal P w K mg base 5 "table_in" ["sky", "attitude", "sighting"] (spP K C r_table_in)) (h_sure_stars : Cal P w K mg base 5 "sure_stars" ["sky", "attitude"] (spP K C r_sure_stars)) : Cal P w K mg base 8 "need_in" ["sky", "attitude", "sighting"] (spP K C r_need_in) := by
  refine cal_pure D sc_need_in (fun ds d ⟨_, _, _, h, _⟩ => by rw [h]; rfl) (fun _ _ _ _ _ _ us hl => match us, hl with | [_, _, _], _ => rfl) fun f cdv A outer s0 H E0 hr F ds d h => ?_
  have nd := sc_need_in.nd
  obtain ⟨s, a, sg, rfl, ha, hl, hs, rfl⟩ := h
  refine sds_ret (ed_call h_need_of (hr.mono (by decide)) (ad_cons (ed_call h_table_in (hr.mono (by decide)) (ad_cons (ed_var 0) (ad_cons (ed_var 1) (ad_cons (ed_var 2) ad_nil))) ⟨_, _, _, rfl, by have := ha.1; have := ha.2; omega, hl, hs, rfl⟩) (ad_cons (ed_call h_sure_stars (hr.mono (by decide)) (ad_cons (ed_var 0) (ad_cons (ed_var 1) ad_nil)) ⟨_, _, rfl, ha, hs, rfl⟩) (ad_cons (ed_len T.len (ad_cons (ed_var 2) ad_nil) (LenD.tup _)) ad_nil))) ⟨_, _, sg.length, _, rfl, table_ok a hs hl, by rw [tableM, List.length_map]; exact within_rows _ _ _ _, rfl⟩) ?_
  simp [needM]
theorem sc_check_both : FnScope ["sky", "attitude", "sighting"] ["sky", "attitude", "sighting"] (defScope s_check_both) := ⟨rfl, rfl, rfl, by decide +kernel, rfl, by decide +kernel, by decide +kernel⟩
def r_check_both (ds : List Dat) (d : Dat) : Prop := ∃ (s : SkyD) (a : T3) (L : List T3), ds = [.sky s, t3 a, .tup (L.map t3)] ∧ MotOk s.side a ∧ L.length ≤ 60 ∧ (∀ t ∈ L, SpotOk s t) ∧ SrT L ∧ d = .non
theorem cal_check_both (D : Dfn K mg "check_both" s_check_both) (T : Tx mg) (h_check_attitude : Cal P w K mg base 3 "check_attitude" ["sky", "attitude"] (spP K C r_check_attitude)) (h_check_sighting : Cal P w K mg base 4 "check_sighting" ["sky", "sighting"] (spP K C r_check_sighting)) : Cal P w K mg base 5 "check_both" ["sky", "attitude", "sighting"] (spP K C r_check_both) := by
  refine cal_pure D sc_check_both (fun ds d ⟨_, _, _, h, _⟩ => by rw [h]; rfl) (fun _ _ _ _ _ _ us hl => match us, hl with | [_, _, _], _ => rfl) fun f cdv A outer s0 H E0 hr F ds d h => ?_
  have nd := sc_check_both.nd
  obtain ⟨s, a, L, rfl, ha, hl, hs, ho, rfl⟩ := h
  refine sds_expr (ed_call h_check_attitude (hr.mono (by decide)) (ad_cons (ed_var 0) (ad_cons (ed_var 1) ad_nil)) ⟨_, _, rfl, ha, rfl⟩) ?_
  refine sds_expr (ed_call h_check_sighting (hr.mono (by decide)) (ad_cons (ed_var 0) (ad_cons (ed_var 2) ad_nil)) ⟨_, _, rfl, hl, hs, ho, rfl⟩) ?_
  exact sds_fall rfl
theorem sc_need : FnScope ["sky", "attitude", "sighting"] ["sky", "attitude", "sighting"] (defScope s_need) := ⟨rfl, rfl, rfl, by decide +kernel, rfl, by decide +kernel, by decide +kernel⟩
def r_need (ds : List Dat) (d : Dat) : Prop := ∃ (s : SkyD) (a : T3) (L : List T3), ds = [.sky s, t3 a, .tup (L.map t3)] ∧ MotOk s.side a ∧ L.length ≤ 60 ∧ (∀ t ∈ L, SpotOk s t) ∧ SrT L ∧ s.stars.length ≤ 1000 ∧ d = t2 (needM s a L)
theorem cal_need (D : Dfn K mg "need" s_need) (T : Tx mg) (h_check_both : Cal P w K mg base 5 "check_both" ["sky", "attitude", "sighting"] (spP K C r_check_both)) (h_need_in : Cal P w K mg base 8 "need_in" ["sky", "attitude", "sighting"] (spP K C r_need_in)) : Cal P w K mg base 9 "need" ["sky", "attitude", "sighting"] (spP K C r_need) := by
  refine cal_pure D sc_need (fun ds d ⟨_, _, _, h, _⟩ => by rw [h]; rfl) (fun _ _ _ _ _ _ us hl => match us, hl with | [_, _, _], _ => rfl) fun f cdv A outer s0 H E0 hr F ds d h => ?_
  have nd := sc_need.nd
  obtain ⟨s, a, L, rfl, ha, hl, hs, ho, hn, rfl⟩ := h
  refine sds_expr (ed_call h_check_both (hr.mono (by decide)) (ad_cons (ed_var 0) (ad_cons (ed_var 1) (ad_cons (ed_var 2) ad_nil))) ⟨_, _, _, rfl, ha, hl, hs, ho, rfl⟩) ?_
  refine sds_ret (ed_call h_need_in (hr.mono (by decide)) (ad_cons (ed_var 0) (ad_cons (ed_var 1) (ad_cons (ed_var 2) ad_nil))) ⟨_, _, _, rfl, ha, by omega, hn, rfl⟩) ?_
  rfl
theorem sc_sees : FnScope ["sky", "attitude", "number"] ["sky", "attitude"] (defScope s_sees) := ⟨rfl, rfl, rfl, by decide +kernel, rfl, by decide +kernel, by decide +kernel⟩
def r_sees (ds : List Dat) (d : Dat) : Prop := ∃ (s : SkyD) (a : T3), ds = [.sky s, t3 a] ∧ MotOk s.side a ∧ s.stars.length ≤ 1000 ∧ d = encL t3 (seesM s a)
theorem cal_sees (D : Dfn K mg "sees" s_sees) (T : Tx mg) (Y : Sy P w K mg base C) (h_offset : Cal P w K mg base 4 "offset" ["sky", "attitude", "number"] (spP K C r_offset)) (h_seen_stars : Cal P w K mg base 5 "seen_stars" ["sky", "attitude"] (spP K C r_seen_stars)) (h_star_at : Mtd P w K mg base C 1 "star_at" ["self", "number"] (spP K C r_star_at)) : Cal P w K mg base 6 "sees" ["sky", "attitude"] (spP K C r_sees) := by
  refine cal_pure D sc_sees (fun ds d ⟨_, _, h, _⟩ => by rw [h]; rfl) (fun _ _ _ _ _ _ us hl => match us, hl with | [_, _], _ => rfl) fun f cdv A outer s0 H E0 hr F ds d h => ?_
  have nd := sc_sees.nd
  obtain ⟨s, a, rfl, ha, hl, rfl⟩ := h
  refine sds_ret (ed_sorted3 T.sorted (ad_cons (ed_lcE (seenM s a) .int (sh1 2) (fun i => [some (.sky s), some (t3 a), some (.int i)]) t3 (fun i => ((offAt s a i).1, (offAt s a i).2, (starAt s i).2.2)) [("number", 2)] (it_list (ed_call h_seen_stars (hr.mono (by decide)) (ad_cons (ed_var 0) (ad_cons (ed_var 1) ad_nil)) ⟨_, _, rfl, ha, hl, rfl⟩)) nd (blkOk_by (N := ["sky", "attitude", "number"]) (sc := defScope s_sees) (by decide +kernel)) (gb_name 2 nd) (fun a ha => rfl) (fun i hi s0 H C1 cl fp => (ed_catT (xs := [.int (offAt s a i).1, .int (offAt s a i).2]) (ed_call h_offset (hr.mono (by decide)) (ad_cons (ed_var 0) (ad_cons (ed_var 1) (ad_cons (ed_var 2) ad_nil))) ⟨_, _, _, rfl, ha, (within_at hi).1, (within_at hi).2.1, by rw [(within_at hi).2.2.1]; rfl⟩) (ed_tup (ad_cons (ed_ixT (ed_methS Y.cl h_star_at (hr.mono (by decide)) (ed_var 0) (ad_cons (ed_var 2) ad_nil) ⟨_, _, rfl, (within_at hi).1, (within_at hi).2.1, rfl⟩) (by exact ed_int) rfl) ad_nil)))) (by have := within_len s a (s.reach + s.blur) (s.limit - s.glare); exact Nat.le_trans this (by omega))) ad_nil) (SeqD.lst (LstD.lst _))) ?_
  rfl
end
end Sw
/-! Walks: telling, still motions. -/
namespace Sw
open PySem PySem.Spec L2
section
variable {P : Program} {w : World} {K : PySem.W.Frag} {mg : Str → Option Value} {base : Heap} {C : Addr}
theorem sc_spots_of : FnScope ["sky", "seen", "bounds", "part"] ["sky", "seen"] (defScope s_spots_of) := ⟨rfl, rfl, rfl, by decide +kernel, rfl, by decide +kernel, by decide +kernel⟩
def r_spots_of (ds : List Dat) (d : Dat) : Prop := ∃ (s : SkyD) (v : T3), ds = [.sky s, t3 v] ∧ d = encL t2 (boundsM s v)
theorem cal_spots_of (D : Dfn K mg "spots_of" s_spots_of) (T : Tx mg) (Y : Sy P w K mg base C) : Cal P w K mg base 3 "spots_of" ["sky", "seen"] (spP K C r_spots_of) := by
  refine cal_pure D sc_spots_of (fun ds d ⟨_, _, h, _⟩ => by rw [h]; rfl) (fun _ _ _ _ _ _ us hl => match us, hl with | [_, _], _ => rfl) fun f cdv A outer s0 H E0 hr F ds d h => ?_
  have nd := sc_spots_of.nd
  obtain ⟨s, v, rfl, rfl⟩ := h
  refine sds_newL (i := 2) nd fun q2 => ?_
  refine sds_for [v.1, v.2.1] .int (sh1 3) (fun pre => True) (fun pre => [some (.sky s), some (t3 v), some (.loc q2), none]) (fun pre => [(q2, .lst (pre.map fun p => t2 (maxI (-s.reach) (p - s.blur), minI s.reach (p + s.blur))))]) (it_tup (ed_slT (ed_var 1) pd_none (pd_some ed_int))) (gt_name 3 nd) trivial (by repeat (first | exact trivial | refine And.intro rfl ?_)) rfl (fun pre a post hL hI E1 => ⟨_, rfl, ?_⟩) (fun hI => ?_)
  · have p1 := pre_len hL
    refine sds_expr (ed_append [] _ (ed_var 2) (ad_cons (ed_tup (ad_cons (ed_max2 T.max (ad_cons (ed_neg (ed_reach Y (hr.mono (by decide)) (ed_var 0))) (ad_cons (ed_sub (ed_var 3) (ed_blur Y (hr.mono (by decide)) (ed_var 0))) ad_nil))) (ad_cons (ed_min2 T.min (ad_cons (ed_reach Y (hr.mono (by decide)) (ed_var 0)) (ad_cons (ed_add (ed_var 3) (ed_blur Y (hr.mono (by decide)) (ed_var 0))) ad_nil))) ad_nil))) ad_nil) (by rw [List.length_map]; simp at p1; omega)) ?_
    refine sds_end (fun _ _ h => ⟨trivial, h⟩) (by repeat (first | exact trivial | refine And.intro rfl ?_)) (by rw [List.map_append]; rfl)
  refine sds_ret (ed_catL (ed_var 2) (ed_lst (ad_cons (ed_tup (ad_cons (ed_max2 T.max (ad_cons (ed_limit Y (hr.mono (by decide)) (ed_var 0)) (ad_cons (ed_sub (ed_ixT (ed_var 1) (by exact ed_int) rfl) (ed_glare Y (hr.mono (by decide)) (ed_var 0))) ad_nil))) (ad_cons (ed_add (ed_ixT (ed_var 1) (by exact ed_int) rfl) (ed_glare Y (hr.mono (by decide)) (ed_var 0))) ad_nil))) ad_nil)) (LstD.loc List.mem_cons_self) (LstD.lst _) (by exact Nat.le_of_ble_eq_true rfl)) ?_
  rfl
theorem sc_lies_in : FnScope ["bounds", "others", "one", "other"] ["bounds", "others"] (defScope s_lies_in) := ⟨rfl, rfl, rfl, by decide +kernel, rfl, by decide +kernel, by decide +kernel⟩
def r_lies_in (ds : List Dat) (d : Dat) : Prop := ∃ (b : List P2) (o : List P2), ds = [encL t2 b, encL t2 o] ∧ b.length ≤ 1000 ∧ d = .bl (liesM b o)
theorem cal_lies_in (D : Dfn K mg "lies_in" s_lies_in) (T : Tx mg) : Cal P w K mg base 1 "lies_in" ["bounds", "others"] (spP K C r_lies_in) := by
  refine cal_pure D sc_lies_in (fun ds d ⟨_, _, h, _⟩ => by rw [h]; rfl) (fun _ _ _ _ _ _ us hl => match us, hl with | [_, _], _ => rfl) fun f cdv A outer s0 H E0 hr F ds d h => ?_
  have nd := sc_lies_in.nd
  obtain ⟨b, o, rfl, hl, rfl⟩ := h
  refine sds_ret (ed_all T.all (ad_cons (ed_lcB (b.zip o) (fun p => .tup [t2 p.1, t2 p.2]) (sh2 2 3) (fun p => [some (encL t2 b), some (encL t2 o), some (t2 p.1), some (t2 p.2)]) (fun p => decide (p.2.1 ≤ p.1.1) && decide (p.1.2 ≤ p.2.2)) [("one", 2), ("other", 3)] (it_zip T.zip (ed_var 0) (ed_var 1)) nd (blkOk_by (N := ["bounds", "others", "one", "other"]) (sc := defScope s_lies_in) (by decide +kernel)) (gb_pair 2 3 nd) (fun a ha => rfl) (fun a ha s H C1 cl fp => (ed_and (ed_cmp (ed_ixT (ed_var 3) (by exact ed_int) rfl) (ed_ixT (ed_var 2) (by exact ed_int) rfl) c_le) (fun _ => (ed_one (ed_cmp (ed_ixT (ed_var 2) (by exact ed_int) rfl) (ed_ixT (ed_var 3) (by exact ed_int) rfl) c_le))))) (by rw [List.length_zip]; omega) (hit := by simp [zipD, List.zip_map])) ad_nil)) ?_
  simp [liesM, List.all_map]
theorem sc_spot_outside : FnScope ["bounds", "others", "spot", "one", "other"] ["bounds", "others"] (defScope s_spot_outside) := ⟨rfl, rfl, rfl, by decide +kernel, rfl, by decide +kernel, by decide +kernel⟩
def r_spot_outside (ds : List Dat) (d : Dat) : Prop := ∃ (b : List P2) (o : List P2), ds = [encL t2 b, encL t2 o] ∧ b.length = 3 ∧ o.length = 3 ∧ d = t3 (outT b o)
theorem cal_spot_outside (D : Dfn K mg "spot_outside" s_spot_outside) (T : Tx mg) : Cal P w K mg base 1 "spot_outside" ["bounds", "others"] (spP K C r_spot_outside) := by
  refine cal_pure D sc_spot_outside (fun ds d ⟨_, _, h, _⟩ => by rw [h]; rfl) (fun _ _ _ _ _ _ us hl => match us, hl with | [_, _], _ => rfl) fun f cdv A outer s0 H E0 hr F ds d h => ?_
  have nd := sc_spot_outside.nd
  obtain ⟨b, o, rfl, hb, ho, rfl⟩ := h
  refine sds_newL (i := 2) nd fun q2 => ?_
  refine sds_for (b.zip o) (fun p => .tup [t2 p.1, t2 p.2]) (sh2 3 4) (fun pre => True) (fun pre => [some (encL t2 b), some (encL t2 o), some (.loc q2), none, none]) (fun pre => [(q2, .lst (pre.map fun p => .int (if p.1.1 < p.2.1 then p.1.1 else p.1.2)))]) (it_zip T.zip (ed_var 0) (ed_var 1)) (gt_pair 3 4 nd) trivial (by repeat (first | exact trivial | refine And.intro rfl ?_)) rfl (fun pre a post hL hI E1 => ⟨_, rfl, ?_⟩) (fun hI => ?_) (hit := by simp [zipD, List.zip_map])
  · have p1 := pre_len hL
    rw [List.length_zip] at p1
    refine sds_expr (ed_append [] _ (ed_var 2) (ad_cons (ed_conv (z := .int (if a.1.1 < a.2.1 then a.1.1 else a.1.2)) (ed_if (bd_cmp (ed_ixT (ed_var 3) (by exact ed_int) rfl) (ed_ixT (ed_var 4) (by exact ed_int) rfl) c_lt) (fun _ => (ed_ixT (ed_var 3) (by exact ed_int) rfl)) (fun _ => (ed_ixT (ed_var 3) (by exact ed_int) rfl))) (by by_cases h : a.1.1 < a.2.1 <;> simp [h])) ad_nil) (by rw [List.length_map]; omega)) ?_
    refine sds_end (fun _ _ h => ⟨trivial, h⟩) (by repeat (first | exact trivial | refine And.intro rfl ?_)) (by rw [List.map_append]; rfl)
  refine sds_ret (ed_tupleOf T.tuple (ad_cons (ed_var 2) ad_nil) (LstD.loc List.mem_cons_self)) ?_
  match b, o, hb, ho with
  | [b1, b2, b3], [o1, o2, o3], _, _ => rfl
theorem sc_least_unlike : FnScope ["sky", "first", "second", "unlike", "bounds", "seen", "other"] ["sky", "first", "second"] (defScope s_least_unlike) := ⟨rfl, rfl, rfl, by decide +kernel, rfl, by decide +kernel, by decide +kernel⟩
def r_least_unlike (ds : List Dat) (d : Dat) : Prop := ∃ (s : SkyD) (f : List T3) (g : List T3), ds = [.sky s, encL t3 f, encL t3 g] ∧ f.length ≤ 1000 ∧ g.length ≤ 1000 ∧ d = optD (encL t2) (leastM s f g)
theorem cal_least_unlike (D : Dfn K mg "least_unlike" s_least_unlike) (T : Tx mg) (h_spots_of : Cal P w K mg base 3 "spots_of" ["sky", "seen"] (spP K C r_spots_of)) (h_lies_in : Cal P w K mg base 1 "lies_in" ["bounds", "others"] (spP K C r_lies_in)) : Cal P w K mg base 4 "least_unlike" ["sky", "first", "second"] (spP K C r_least_unlike) := by
  refine cal_pure D sc_least_unlike (fun ds d ⟨_, _, _, h, _⟩ => by rw [h]; rfl) (fun _ _ _ _ _ _ us hl => match us, hl with | [_, _, _], _ => rfl) fun f cdv A outer s0 H E0 hr F ds d h => ?_
  have nd := sc_least_unlike.nd
  obtain ⟨s, f, g, rfl, hf, hg, rfl⟩ := h
  refine sds_setLc (i := 3) (f ++ g) t3 (sh1 5) (fun v => [some (.sky s), some (encL t3 f), some (encL t3 g), none, none, some (t3 v), none]) (fun v => !decide (cnt v f = cnt v g)) (fun v => encL t2 (boundsM s v)) [("seen", 5)] (it_list (ed_catL (ed_var 1) (ed_var 2) (LstD.lst _) (LstD.lst _) (by rw [List.length_map, List.length_map]; omega))) nd (blkOk_by (N := ["sky", "first", "second", "unlike", "bounds", "seen", "other"]) (sc := defScope s_least_unlike) (by decide +kernel)) (gb_name 5 nd) (fun a ha => rfl) (cd_one (cs (f ++ g) fun v hv s0 H C1 cl fp => (bd_conv (bd_cmp (ed_count (enc := t3) (xs := f) (v := v) eqc_t3 (hu65 hr) (ed_var 1) (ad_cons (ed_var 5) ad_nil) (LstD.lst _)) (ed_count (enc := t3) (xs := g) (v := v) eqc_t3 (hu65 hr) (ed_var 2) (ad_cons (ed_var 5) ad_nil) (LstD.lst _)) c_ne) (by congr 1; rw [Bool.eq_iff_iff, decide_eq_true_iff, decide_eq_true_iff]; unfold cnt; omega)))) (fun a ha ht s0 H C1 cl fp => (ed_call h_spots_of (hr.mono (by decide)) (ad_cons (ed_var 0) (ad_cons (ed_var 5) ad_nil)) ⟨_, _, rfl, rfl⟩)) (by rw [List.length_append]; omega) ?_ (hit := by rw [List.map_append])
  have eu : Dat.lst (((f ++ g).filter fun v => !decide (cnt v f = cnt v g)).map fun v => encL t2 (boundsM s v)) = encL (encL t2) (unlikeM s f g) := by
    unfold unlikeM encL
    rw [List.map_map]
    rfl
  have hul : (unlikeM s f g).length ≤ 2000 := by
    unfold unlikeM
    rw [List.length_map]
    refine Nat.le_trans (List.length_filter_le _ _) ?_
    rw [List.length_append]
    omega
  rw [eu]
  have hres : leastM s f g = (unlikeM s f g).find? fun b => !((unlikeM s f g).any fun o => !decide (o = b) && liesM o b) := rfl
  have bl : ∀ o ∈ unlikeM s f g, o.length ≤ 1000 := fun o ho => by
    unfold unlikeM at ho
    obtain ⟨v, _, rfl⟩ := List.mem_map.mp ho
    show 3 ≤ 1000
    decide
  generalize unlikeM s f g = U at hres hul bl
  refine sds_for U (encL t2) (sh1 4) (fun pre => pre.find? (fun b => !(U.any fun o => !decide (o = b) && liesM o b)) = none) (fun pre => [some (.sky s), some (encL t3 f), some (encL t3 g), some (encL (encL t2) U), none, none, none]) (fun pre => []) (it_list (ed_var 3)) (gt_name 4 nd) rfl (by repeat (first | exact trivial | refine And.intro rfl ?_)) rfl (fun pre a post hL hI E1 => ⟨_, rfl, ?_⟩) (fun hI => ?_)
  · refine sds_ifR (bd_not (bd_val (ed_any T.any (ad_cons (ed_lcB U (encL t2) (sh1 6) (fun o => [some (.sky s), some (encL t3 f), some (encL t3 g), some (encL (encL t2) U), some (encL t2 a), none, some (encL t2 o)]) (fun o => !decide (o = a) && liesM o a) [("other", 6)] (it_list (ed_var 3)) nd (blkOk_by (N := ["sky", "first", "second", "unlike", "bounds", "seen", "other"]) (sc := defScope s_least_unlike) (by decide +kernel)) (gb_name 6 nd) (fun a ha => rfl) (fun o ho s0 H C1 cl fp => (ed_and (ed_cmp (ed_var 6) (ed_var 4) (c_neD (enc := encL t2) (a := o) (b := a) eqc_t2.lst hr.units)) (fun _ => (ed_one (ed_call h_lies_in (hr.mono (by decide)) (ad_cons (ed_var 6) (ad_cons (ed_var 4) ad_nil)) ⟨_, _, rfl, bl o ho, rfl⟩))))) (by omega)) ad_nil)))) (fun h => ?_) (fun h => ?_)
    · refine sds_ret (ed_var 4) ?_
      rw [List.any_map] at h
      have key : ∀ p : List P2 → Bool, pre.find? p = none → p a = true → U.find? p = some a := fun p h1 h2 => by
        rw [hL, List.find?_append, h1, List.find?_cons_of_pos h2]
        rfl
      rw [hres, key _ hI h]
      rfl
    · refine sds_end (fun _ _ hh => ⟨?_, hh⟩) (by repeat (first | exact trivial | refine And.intro rfl ?_))
      rw [List.any_map] at h
      rw [List.find?_append, hI, List.find?_cons_of_neg (by rw [show (!(U.any fun o => !decide (o = a) && liesM o a)) = false from h]; simp)]
      rfl
  refine sds_ret ed_non ?_
  rw [hres, hI]
  rfl
theorem sc_showing_outside : FnScope ["sky", "seen", "bounds", "one"] ["sky", "seen", "bounds"] (defScope s_showing_outside) := ⟨rfl, rfl, rfl, by decide +kernel, rfl, by decide +kernel, by decide +kernel⟩
def r_showing_outside (ds : List Dat) (d : Dat) : Prop := ∃ (s : SkyD) (v : List T3) (b : List P2), ds = [.sky s, encL t3 v, encL t2 b] ∧ v.length ≤ 1000 ∧ b.length = 3 ∧ d = .tup ((showM s v b).map t3)
theorem cal_showing_outside (D : Dfn K mg "showing_outside" s_showing_outside) (T : Tx mg) (h_spot_outside : Cal P w K mg base 1 "spot_outside" ["bounds", "others"] (spP K C r_spot_outside)) (h_spots_of : Cal P w K mg base 3 "spots_of" ["sky", "seen"] (spP K C r_spots_of)) : Cal P w K mg base 4 "showing_outside" ["sky", "seen", "bounds"] (spP K C r_showing_outside) := by
  refine cal_pure D sc_showing_outside (fun ds d ⟨_, _, _, h, _⟩ => by rw [h]; rfl) (fun _ _ _ _ _ _ us hl => match us, hl with | [_, _, _], _ => rfl) fun f cdv A outer s0 H E0 hr F ds d h => ?_
  have nd := sc_showing_outside.nd
  obtain ⟨s, v, b, rfl, hv, hb, rfl⟩ := h
  refine sds_ret (ed_tupleOf T.tuple (ad_cons (ed_sorted3 T.sorted (ad_cons (ed_lcE v t3 (sh1 3) (fun x => [some (.sky s), some (encL t3 v), some (encL t2 b), some (t3 x)]) t3 (fun x => outT (boundsM s x) b) [("one", 3)] (it_list (ed_var 1)) nd (blkOk_by (N := ["sky", "seen", "bounds", "one"]) (sc := defScope s_showing_outside) (by decide +kernel)) (gb_name 3 nd) (fun a ha => rfl) (fun a ha s0 H C1 cl fp => (ed_call h_spot_outside (hr.mono (by decide)) (ad_cons (ed_call h_spots_of (hr.mono (by decide)) (ad_cons (ed_var 0) (ad_cons (ed_var 3) ad_nil)) ⟨_, _, rfl, rfl⟩) (ad_cons (ed_var 2) ad_nil)) ⟨_, _, rfl, rfl, hb, rfl⟩)) (by omega)) ad_nil) (SeqD.lst (LstD.lst _))) ad_nil) (LstD.lst _)) ?_
  rfl
theorem sc_count_outside : FnScope ["sky", "seen", "bounds", "one"] ["sky", "seen", "bounds"] (defScope s_count_outside) := ⟨rfl, rfl, rfl, by decide +kernel, rfl, by decide +kernel, by decide +kernel⟩
def r_count_outside (ds : List Dat) (d : Dat) : Prop := ∃ (s : SkyD) (v : List T3) (b : List P2), ds = [.sky s, encL t3 v, encL t2 b] ∧ v.length ≤ 1000 ∧ d = .int (cntM s v b : Nat)
theorem cal_count_outside (D : Dfn K mg "count_outside" s_count_outside) (T : Tx mg) (h_lies_in : Cal P w K mg base 1 "lies_in" ["bounds", "others"] (spP K C r_lies_in)) (h_spots_of : Cal P w K mg base 3 "spots_of" ["sky", "seen"] (spP K C r_spots_of)) : Cal P w K mg base 4 "count_outside" ["sky", "seen", "bounds"] (spP K C r_count_outside) := by
  refine cal_pure D sc_count_outside (fun ds d ⟨_, _, _, h, _⟩ => by rw [h]; rfl) (fun _ _ _ _ _ _ us hl => match us, hl with | [_, _, _], _ => rfl) fun f cdv A outer s0 H E0 hr F ds d h => ?_
  have nd := sc_count_outside.nd
  obtain ⟨s, v, b, rfl, hv, rfl⟩ := h
  refine sds_ret (ed_len T.len (ad_cons (ed_lcF v t3 (sh1 3) (fun x => [some (.sky s), some (encL t3 v), some (encL t2 b), some (t3 x)]) (fun x => !liesM (boundsM s x) b) [("one", 3)] (it_list (ed_var 1)) nd (blkOk_by (N := ["sky", "seen", "bounds", "one"]) (sc := defScope s_count_outside) (by decide +kernel)) (gb_name 3 nd) (fun a ha => rfl) (cd_one (cs v fun a ha s0 H C1 cl fp => (bd_not (bd_val (ed_call h_lies_in (hr.mono (by decide)) (ad_cons (ed_call h_spots_of (hr.mono (by decide)) (ad_cons (ed_var 0) (ad_cons (ed_var 3) ad_nil)) ⟨_, _, rfl, rfl⟩) (ad_cons (ed_var 2) ad_nil)) ⟨_, _, rfl, (show 3 ≤ 1000 by decide), rfl⟩))))) (fun a ha s0 H C1 cl fp => (ed_var 3)) (by omega)) ad_nil) (LenD.lst _)) ?_
  rw [List.length_map]
  rfl
theorem sees_le {s : SkyD} (a : T3) (h : s.stars.length ≤ 1000) : (seesM s a).length ≤ 1000 := by
  unfold seesM
  rw [(sort3_perm _).length_eq, List.length_map]
  exact Nat.le_trans (within_len s a _ _) h
theorem sc_telling_sighting : FnScope ["sky", "one", "other", "bounds", "counts", "which", "first", "second"] ["sky", "one", "other"] (defScope s_telling_sighting) := ⟨rfl, rfl, rfl, by decide +kernel, rfl, by decide +kernel, by decide +kernel⟩
def r_telling_sighting (ds : List Dat) (d : Dat) : Prop := ∃ (s : SkyD) (a : T3) (b : T3) (bd : List P2), ds = [.sky s, t3 a, t3 b] ∧ MotOk s.side a ∧ MotOk s.side b ∧ s.stars.length ≤ 1000 ∧ seesM s a ≠ seesM s b ∧ leastM s (seesM s a) (seesM s b) = some bd ∧ bd.length = 3 ∧ d = .tup [.int (whichM s (seesM s a) (seesM s b) bd), .tup ((showM s (if whichM s (seesM s a) (seesM s b) bd = 0 then seesM s a else seesM s b) bd).map t3)]
theorem cal_telling_sighting (D : Dfn K mg "telling_sighting" s_telling_sighting) (T : Tx mg) (h_least_unlike : Cal P w K mg base 4 "least_unlike" ["sky", "first", "second"] (spP K C r_least_unlike)) (h_sees : Cal P w K mg base 6 "sees" ["sky", "attitude"] (spP K C r_sees)) (h_showing_outside : Cal P w K mg base 4 "showing_outside" ["sky", "seen", "bounds"] (spP K C r_showing_outside)) (h_count_outside : Cal P w K mg base 4 "count_outside" ["sky", "seen", "bounds"] (spP K C r_count_outside)) : Cal P w K mg base 7 "telling_sighting" ["sky", "one", "other"] (spP K C r_telling_sighting) := by
  refine cal_pure D sc_telling_sighting (fun ds d ⟨_, _, _, _, h, _⟩ => by rw [h]; rfl) (fun _ _ _ _ _ _ us hl => match us, hl with | [_, _, _], _ => rfl) fun f cdv A outer s0 H E0 hr F ds d h => ?_
  have nd := sc_telling_sighting.nd
  obtain ⟨s, a, b, bd, rfl, ha, hb, hl, hne, hlu, hbl, rfl⟩ := h
  refine sds_par 6 7 nd (ad_cons (ed_call h_sees (hr.mono (by decide)) (ad_cons (ed_var 0) (ad_cons (ed_var 1) ad_nil)) ⟨_, _, rfl, ha, hl, rfl⟩) (ad_cons (ed_call h_sees (hr.mono (by decide)) (ad_cons (ed_var 0) (ad_cons (ed_var 2) ad_nil)) ⟨_, _, rfl, hb, hl, rfl⟩) ad_nil)) ?_
  have lf : (seesM s a).length ≤ 1000 := sees_le a hl
  have lg : (seesM s b).length ≤ 1000 := sees_le b hl
  generalize seesM s a = f at *
  generalize seesM s b = g at *
  refine sds_ifN (bd_conv (bd_cmp (ed_var 6) (ed_var 7) (c_eqD (enc := encL t3) (a := f) (b := g) eqc_t3.lst hr.units)) (decide_eq_false hne)) ?_
  refine sds_set (i := 3) nd (ed_call h_least_unlike (hr.mono (by decide)) (ad_cons (ed_var 0) (ad_cons (ed_var 6) (ad_cons (ed_var 7) ad_nil))) ⟨_, _, _, rfl, lf, lg, by rw [hlu]; first | done | rfl⟩) ?_
  refine sds_set (i := 4) nd (ed_lst (ad_cons (ed_len T.len (ad_cons (ed_var 6) ad_nil) (LenD.lst _)) (ad_cons (ed_len T.len (ad_cons (ed_var 7) ad_nil) (LenD.lst _)) ad_nil))) ?_
  rw [List.length_map, List.length_map]
  refine sds_ifJ [some (.sky s), some (t3 a), some (t3 b), some (encL t2 bd), some (.lst [.int (if f.length = g.length then cntM s f bd else f.length : Nat), .int (if f.length = g.length then cntM s g bd else g.length : Nat)]), none, some (encL t3 f), some (encL t3 g)] [] (bd_cmp (ed_ixL (ed_var 4) (by exact ed_int) (LstD.lst _) rfl) (ed_ixL (ed_var 4) (by exact ed_int) (LstD.lst _) rfl) c_eq) (fun h => ?_) (fun h => ?_) ?_
  · have h2 : f.length = g.length := by have := of_decide_eq_true h; omega
    refine sds_set (i := 4) nd (ed_lst (ad_cons (ed_call h_count_outside (hr.mono (by decide)) (ad_cons (ed_var 0) (ad_cons (ed_var 6) (ad_cons (ed_var 3) ad_nil))) ⟨_, _, _, rfl, lf, rfl⟩) (ad_cons (ed_call h_count_outside (hr.mono (by decide)) (ad_cons (ed_var 0) (ad_cons (ed_var 7) (ad_cons (ed_var 3) ad_nil))) ⟨_, _, _, rfl, lg, rfl⟩) ad_nil))) ?_
    rw [if_pos h2, if_pos h2]
    refine sds_end (fun _ _ h => h) (by repeat (first | exact trivial | refine And.intro rfl ?_))
  · have h2 : ¬ f.length = g.length := by have := of_decide_eq_false h; omega
    rw [if_neg h2, if_neg h2]
    refine sds_end (fun _ _ h => h) (by repeat (first | exact trivial | refine And.intro rfl ?_))
  have ew : (if decide ((if f.length = g.length then cntM s g bd else g.length : Nat) < (if f.length = g.length then cntM s f bd else f.length : Nat)) = true then (Dat.int 0) else Dat.int 1) = .int (whichM s f g bd) := by
    unfold whichM
    by_cases h1 : f.length = g.length
    · simp only [if_pos h1, decide_eq_true_iff]
      by_cases h2 : cntM s g bd < cntM s f bd <;> simp [h2]
    · simp only [if_neg h1, decide_eq_true_iff]
      by_cases h2 : g.length < f.length <;> simp [h2]
  refine sds_set (i := 5) nd (ed_conv (z := .int (whichM s f g bd)) (ed_if (bd_conv (k' := decide ((if f.length = g.length then cntM s g bd else g.length : Nat) < (if f.length = g.length then cntM s f bd else f.length : Nat))) (bd_cmp (ed_ixL (ed_var 4) (by exact ed_int) (LstD.lst _) rfl) (ed_ixL (ed_var 4) (by exact ed_int) (LstD.lst _) rfl) c_gt) (by rw [Bool.eq_iff_iff, decide_eq_true_iff, decide_eq_true_iff]; omega)) (fun _ => ed_int) (fun _ => ed_int)) ew) ?_
  have hw : whichM s f g bd = 0 ∨ whichM s f g bd = 1 := by
    unfold whichM
    split <;> split <;> simp
  refine sds_ret (ed_tup (ad_cons (ed_var 5) (ad_cons (ed_call h_showing_outside (hr.mono (by decide)) (ad_cons (ed_var 0) (ad_cons (ed_ixLi (z := encL t3 (if whichM s f g bd = 0 then f else g)) (ed_lst (ad_cons (ed_var 6) (ad_cons (ed_var 7) ad_nil))) (ed_var 5) (LstD.lst _) (by omega) (by rcases hw with h | h <;> rw [h] <;> rfl)) (ad_cons (ed_var 3) ad_nil))) ⟨_, _, _, rfl, by split <;> assumption, hbl, rfl⟩) ad_nil))) ?_
  rfl
theorem sc_check_telling : FnScope ["sky", "one", "other", "told", "which", "sighting", "first", "second"] ["sky", "one", "other", "told"] (defScope s_check_telling) := ⟨rfl, rfl, rfl, by decide +kernel, rfl, by decide +kernel, by decide +kernel⟩
def r_check_telling (ds : List Dat) (d : Dat) : Prop := ∃ (s : SkyD) (a : T3) (b : T3) (k : Int) (L : List T3), ds = [.sky s, t3 a, t3 b, .tup [.int k, .tup (L.map t3)]] ∧ MotOk s.side a ∧ MotOk s.side b ∧ s.stars.length ≤ 1000 ∧ (k = 0 ∨ k = 1) ∧ L.length ≤ 60 ∧ (∀ t ∈ L, SpotOk s t) ∧ SrT L ∧ needM s (if k = 0 then a else b) L = (0, 0) ∧ needM s (if k = 0 then b else a) L ≠ (0, 0) ∧ d = .bl true
theorem cal_check_telling (D : Dfn K mg "check_telling" s_check_telling) (T : Tx mg) (h_check_attitude : Cal P w K mg base 3 "check_attitude" ["sky", "attitude"] (spP K C r_check_attitude)) (h_check_sighting : Cal P w K mg base 4 "check_sighting" ["sky", "sighting"] (spP K C r_check_sighting)) (h_need : Cal P w K mg base 9 "need" ["sky", "attitude", "sighting"] (spP K C r_need)) : Cal P w K mg base 10 "check_telling" ["sky", "one", "other", "told"] (spP K C r_check_telling) := by
  refine cal_pure D sc_check_telling (fun ds d ⟨_, _, _, _, _, h, _⟩ => by rw [h]; rfl) (fun _ _ _ _ _ _ us hl => match us, hl with | [_, _, _, _], _ => rfl) fun f cdv A outer s0 H E0 hr F ds d h => ?_
  have nd := sc_check_telling.nd
  obtain ⟨s, a, b, k, L, rfl, ha, hb, hl, hk, h1, h2, h3, h4, h5, rfl⟩ := h
  refine sds_expr (ed_call h_check_attitude (hr.mono (by decide)) (ad_cons (ed_var 0) (ad_cons (ed_var 1) ad_nil)) ⟨_, _, rfl, ha, rfl⟩) ?_
  refine sds_expr (ed_call h_check_attitude (hr.mono (by decide)) (ad_cons (ed_var 0) (ad_cons (ed_var 2) ad_nil)) ⟨_, _, rfl, hb, rfl⟩) ?_
  refine sds_asg (ed_var 3) (gd_tup (gds_cons (gd_name 4 nd) (gds_cons (gd_name 5 nd) gds_nil))) ?_
  refine sds_ifN (bd_conv (bd_cmp (ed_var 4) (ed_tup (ad_cons ed_int (ad_cons ed_int ad_nil))) (c_ninT (ns := [0, 1]))) (by rcases hk with rfl | rfl <;> rfl)) ?_
  refine sds_try (sds_expr (ed_call h_check_sighting (hr.mono (by decide)) (ad_cons (ed_var 0) (ad_cons (ed_var 5) ad_nil)) ⟨_, _, rfl, h1, h2, h3, rfl⟩) (sds_end (fun _ _ h => h) (Wk.refl _))) ?_
  refine sds_asg (ed_conv (z := .lst [t3 (if k = 0 then a else b), t3 (if k = 0 then b else a)]) (ed_if (bd_cmp (ed_var 4) ed_int c_eq) (fun _ => (ed_lst (ad_cons (ed_var 1) (ad_cons (ed_var 2) ad_nil)))) (fun _ => (ed_lst (ad_cons (ed_var 2) (ad_cons (ed_var 1) ad_nil))))) (by rcases hk with rfl | rfl <;> rfl)) (gd_lst (gds_cons (gd_name 6 nd) (gds_cons (gd_name 7 nd) gds_nil))) ?_
  have hA : MotOk s.side (if k = 0 then a else b) := by split <;> assumption
  have hB : MotOk s.side (if k = 0 then b else a) := by split <;> assumption
  generalize (if k = 0 then a else b) = A at *
  generalize (if k = 0 then b else a) = B at *
  refine sds_ret (ed_and (ed_cmp (ed_call h_need (hr.mono (by decide)) (ad_cons (ed_var 0) (ad_cons (ed_var 6) (ad_cons (ed_var 5) ad_nil))) ⟨_, _, _, rfl, hA, h1, h2, h3, hl, rfl⟩) (ed_tup (ad_cons ed_int (ad_cons ed_int ad_nil))) (c_eqD (enc := t2) (b := (0, 0)) eqc_t2 hr.units)) (fun _ => (ed_one (ed_cmp (ed_call h_need (hr.mono (by decide)) (ad_cons (ed_var 0) (ad_cons (ed_var 7) (ad_cons (ed_var 5) ad_nil))) ⟨_, _, _, rfl, hB, h1, h2, h3, hl, rfl⟩) (ed_tup (ad_cons ed_int (ad_cons ed_int ad_nil))) (c_neD (enc := t2) (b := (0, 0)) eqc_t2 hr.units))))) ?_
  rw [decide_eq_true h4, decide_eq_false h5]
  rfl
theorem sc_still_motions : FnScope ["sky", "stars", "found", "motion", "star"] ["sky"] (defScope s_still_motions) := ⟨rfl, rfl, rfl, by decide +kernel, rfl, by decide +kernel, by decide +kernel⟩
def r_still_motions (ds : List Dat) (d : Dat) : Prop := ∃ (s : SkyD), ds = [.sky s] ∧ 0 < s.side ∧ s.side ≤ 9 ∧ s.stars.length ≤ 1000 ∧ d = encL t3 (stillM s)
theorem cal_still_motions (D : Dfn K mg "still_motions" s_still_motions) (T : Tx mg) (Y : Sy P w K mg base C) (h_motions : Cal P w K mg base 3 "motions" ["sky"] (spP K C r_motions)) (h_moved_place : Cal P w K mg base 1 "moved_place" ["side", "place", "motion"] (spP K C r_moved_place)) : Cal P w K mg base 4 "still_motions" ["sky"] (spP K C r_still_motions) := by
  refine cal_pure D sc_still_motions (fun ds d ⟨_, h, _⟩ => by rw [h]; rfl) (fun _ _ _ _ _ _ us hl => match us, hl with | [_], _ => rfl) fun f cdv A outer s0 H E0 hr F ds d h => ?_
  have nd := sc_still_motions.nd
  obtain ⟨s, rfl, h0, h9, hl, rfl⟩ := h
  refine sds_set (i := 1) nd (ed_lcF s.stars t3 (sh1 4) (fun t => [some (.sky s), none, none, none, some (t3 t)]) (fun t => decide (s.limit - s.glare ≤ t.2.2)) [("star", 4)] (it_tup (ed_stars Y (hr.mono (by decide)) (ed_var 0))) nd (blkOk_by (N := ["sky", "stars", "found", "motion", "star"]) (sc := defScope s_still_motions) (by decide +kernel)) (gb_name 4 nd) (fun a ha => rfl) (cd_one (cs s.stars fun a ha s0 H C1 cl fp => (bd_cmp (ed_ixT (ed_var 4) (by exact ed_int) rfl) (ed_sub (ed_limit Y (hr.mono (by decide)) (ed_var 0)) (ed_glare Y (hr.mono (by decide)) (ed_var 0))) c_ge))) (fun a ha s0 H C1 cl fp => (ed_var 4)) (by omega)) ?_
  have bl : (brightM s).length ≤ 1000 := Nat.le_trans (List.length_filter_le _ _) hl
  have tl : (tripsM s.side.toNat).length ≤ 324 := trips_le (by omega)
  refine sds_newL (i := 2) nd fun q2 => ?_
  refine sds_for (tripsM s.side.toNat) t3 (sh1 3) (fun pre => True) (fun pre => [some (.sky s), some (encL t3 (brightM s)), some (.loc q2), none, none]) (fun pre => [(q2, .lst ((pre.filter (stillB s)).map t3))]) (it_list (ed_call h_motions (hr.mono (by decide)) (ad_cons (ed_var 0) ad_nil) ⟨_, rfl, by omega, h9, rfl⟩)) (gt_name 3 nd) trivial (by repeat (first | exact trivial | refine And.intro rfl ?_)) rfl (fun pre m post hL hI E1 => ⟨_, rfl, ?_⟩) (fun hI => ?_)
  · have p1 := pre_len hL
    have mm : m ∈ tripsM s.side.toNat := by rw [hL]; simp
    have mok := (trips_mem mm)
    have hlen : ((pre.filter (stillB s)).map t3).length < 100000 := by
      rw [List.length_map]
      have := List.length_filter_le (stillB s) pre
      omega
    refine sds_ifJ [some (.sky s), some (encL t3 (brightM s)), some (.loc q2), none, none] [(q2, .lst (((pre ++ [m]).filter (stillB s)).map t3))] (bd_conv (k' := stillB s m) (bd_val (ed_all T.all (ad_cons (ed_lcB (brightM s) t3 (sh1 4) (fun t => [some (.sky s), some (encL t3 (brightM s)), some (.loc q2), some (t3 m), some (t3 t)]) (fun t => decide (movSt s.side t m ∈ brightM s)) [("star", 4)] (it_list (ed_var 1)) nd (blkOk_by (N := ["sky", "stars", "found", "motion", "star"]) (sc := defScope s_still_motions) (by decide +kernel)) (gb_name 4 nd) (fun a ha => rfl) (fun t ht s0 H C1 cl fp => (ed_conv (ed_cmp (ed_catT (ed_call h_moved_place (hr.mono (by decide)) (ad_cons (ed_side Y (hr.mono (by decide)) (ed_var 0)) (ad_cons (ed_slT (ed_var 4) pd_none (pd_some ed_int)) (ad_cons (ed_var 3) ad_nil))) ⟨_, (t.1, t.2.1), _, rfl, h0, mok.2.2.2.2.1, mok.2.2.2.2.2, rfl⟩) (ed_slT (ed_var 4) (pd_some ed_int) pd_none)) (ed_var 1) (c_inD (enc := t3) (a := movSt s.side t m) (xs := brightM s) eqc_t3 (LstD.lst _) (hu65 hr))) (congrArg Dat.bl (decide_eq_decide.mpr Iff.rfl)))) (by omega)) ad_nil))) (by rw [List.all_map]; rfl)) (fun h => ?_) (fun h => ?_) ?_
    · refine sds_expr (ed_append [] _ (ed_var 2) (ad_cons (ed_var 3) ad_nil) hlen) ?_
      refine sds_end (fun _ _ h => h) (by repeat (first | exact trivial | refine And.intro rfl ?_)) (by rw [pos_rest _ _ _ h]; simp)
    · refine sds_end (fun _ _ h => h) (by repeat (first | exact trivial | refine And.intro rfl ?_)) (by rw [neg_rest _ _ _ h])
    · refine sds_end (fun _ _ h => ⟨trivial, h⟩) (by repeat (first | exact trivial | refine And.intro rfl ?_))
  refine sds_freeze (i := 2) List.not_mem_nil ?_
  refine sds_ret (ed_var 2) ?_
  rfl
theorem sc_places_of : FnScope ["sky", "attitude"] ["sky"] (defScope s_places_of) := ⟨rfl, rfl, rfl, by decide +kernel, rfl, by decide +kernel, by decide +kernel⟩
def r_places_of (ds : List Dat) (d : Dat) : Prop := ∃ (s : SkyD), ds = [.sky s] ∧ 0 ≤ s.side ∧ s.side ≤ 9 ∧ d = encL t3 (placesM s.side.toNat)
theorem cal_places_of (D : Dfn K mg "places_of" s_places_of) (T : Tx mg) (h_attitudes : Cal P w K mg base 3 "attitudes" ["sky"] (spP K C r_attitudes)) : Cal P w K mg base 4 "places_of" ["sky"] (spP K C r_places_of) := by
  refine cal_pure D sc_places_of (fun ds d ⟨_, h, _⟩ => by rw [h]; rfl) (fun _ _ _ _ _ _ us hl => match us, hl with | [_], _ => rfl) fun f cdv A outer s0 H E0 hr F ds d h => ?_
  have nd := sc_places_of.nd
  obtain ⟨s, rfl, h0, h9, rfl⟩ := h
  refine sds_ret (ed_lcF (tripsM s.side.toNat) t3 (sh1 1) (fun a => [some (.sky s), some (t3 a)]) (fun a => decide (a.2.2 = 0)) [("attitude", 1)] (it_list (ed_call h_attitudes (hr.mono (by decide)) (ad_cons (ed_var 0) ad_nil) ⟨_, rfl, h0, h9, rfl⟩)) nd (blkOk_by (N := ["sky", "attitude"]) (sc := defScope s_places_of) (by decide +kernel)) (gb_name 1 nd) (fun a ha => rfl) (cd_one (cs (tripsM s.side.toNat) fun a ha s0 H C1 cl fp => (bd_cmp (ed_ixT (ed_var 1) (by exact ed_int) rfl) ed_int c_eq))) (fun a ha s0 H C1 cl fp => (ed_var 1)) (by have := trips_le (n := s.side.toNat) (by omega); omega)) ?_
  rfl
theorem sc_check_two : FnScope ["sky", "one", "other"] ["sky", "one", "other"] (defScope s_check_two) := ⟨rfl, rfl, rfl, by decide +kernel, rfl, by decide +kernel, by decide +kernel⟩
def r_check_two (ds : List Dat) (d : Dat) : Prop := ∃ (s : SkyD) (a : T3) (b : T3), ds = [.sky s, t3 a, t3 b] ∧ MotOk s.side a ∧ MotOk s.side b ∧ d = .non
theorem cal_check_two (D : Dfn K mg "check_two" s_check_two) (T : Tx mg) (h_check_attitude : Cal P w K mg base 3 "check_attitude" ["sky", "attitude"] (spP K C r_check_attitude)) : Cal P w K mg base 4 "check_two" ["sky", "one", "other"] (spP K C r_check_two) := by
  refine cal_pure D sc_check_two (fun ds d ⟨_, _, _, h, _⟩ => by rw [h]; rfl) (fun _ _ _ _ _ _ us hl => match us, hl with | [_, _, _], _ => rfl) fun f cdv A outer s0 H E0 hr F ds d h => ?_
  have nd := sc_check_two.nd
  obtain ⟨s, a, b, rfl, ha, hb, rfl⟩ := h
  refine sds_expr (ed_call h_check_attitude (hr.mono (by decide)) (ad_cons (ed_var 0) (ad_cons (ed_var 1) ad_nil)) ⟨_, _, rfl, ha, rfl⟩) ?_
  refine sds_expr (ed_call h_check_attitude (hr.mono (by decide)) (ad_cons (ed_var 0) (ad_cons (ed_var 2) ad_nil)) ⟨_, _, rfl, hb, rfl⟩) ?_
  exact sds_fall rfl
theorem sc_check_commands : FnScope ["sky", "commands", "command"] ["sky", "commands"] (defScope s_check_commands) := ⟨rfl, rfl, rfl, by decide +kernel, rfl, by decide +kernel, by decide +kernel⟩
def r_check_commands (ds : List Dat) (d : Dat) : Prop := ∃ (s : SkyD) (cs : List T3), ds = [.sky s, encL t3 cs] ∧ (∀ c ∈ cs, 0 ≤ c.2.2 ∧ c.2.2 ≤ 3 ∧ maxI (absI c.1) (absI c.2.1) < s.side) ∧ d = .non
theorem cal_check_commands (D : Dfn K mg "check_commands" s_check_commands) (T : Tx mg) (h_check_command : Cal P w K mg base 3 "check_command" ["sky", "command"] (spP K C r_check_command)) : Cal P w K mg base 4 "check_commands" ["sky", "commands"] (spP K C r_check_commands) := by
  refine cal_pure D sc_check_commands (fun ds d ⟨_, _, h, _⟩ => by rw [h]; rfl) (fun _ _ _ _ _ _ us hl => match us, hl with | [_, _], _ => rfl) fun f cdv A outer s0 H E0 hr F ds d h => ?_
  have nd := sc_check_commands.nd
  obtain ⟨s, cs, rfl, hc, rfl⟩ := h
  refine sds_for cs t3 (sh1 2) (fun pre => True) (fun pre => [some (.sky s), some (encL t3 cs), none]) (fun pre => []) (it_list (ed_var 1)) (gt_name 2 nd) trivial (by repeat (first | exact trivial | refine And.intro rfl ?_)) rfl (fun pre c post hL hI E1 => ⟨_, rfl, ?_⟩) (fun hI => ?_)
  · have hm := hc c (by rw [hL]; simp)
    refine sds_expr (ed_call h_check_command (hr.mono (by decide)) (ad_cons (ed_var 0) (ad_cons (ed_var 2) ad_nil)) ⟨_, _, rfl, hm.1, hm.2.1, hm.2.2, rfl⟩) ?_
    refine sds_end (fun _ _ h => ⟨trivial, h⟩) (by repeat (first | exact trivial | refine And.intro rfl ?_))
  exact sds_fall rfl
end
end Sw
/-! Plain: a matching with a certificate is a greatest one; tables of pairs. -/
namespace Sw
theorem sub_of {α : Type} [DecidableEq α] : ∀ {l A : List α}, l.Nodup → (∀ x ∈ l, x ∈ A) → Sub l A
  | [], A, _, _ => ⟨A, List.Perm.refl _⟩
  | x :: l, A, nd, h => by
    have nd' := List.nodup_cons.mp nd
    have hx : x ∈ A := h x List.mem_cons_self
    have pA := List.perm_cons_erase hx
    obtain ⟨r, p⟩ := sub_of (A := A.erase x) nd'.2 fun y hy => by
      have hne : y ≠ x := fun e => nd'.1 (e ▸ hy)
      exact (List.mem_erase_of_ne hne).mpr (h y (List.mem_cons_of_mem _ hy))
    exact ⟨r, ((p.cons x).trans pA.symm)⟩
theorem Sub.nodup {α : Type} {l A : List α} (h : Sub l A) (nd : A.Nodup) : l.Nodup := by
  obtain ⟨r, p⟩ := h
  exact (List.nodup_append.mp (p.nodup_iff.mpr nd)).1
theorem Sub.mem {α : Type} {l A : List α} (h : Sub l A) {x : α} (hx : x ∈ l) : x ∈ A := by
  obtain ⟨r, p⟩ := h
  exact p.mem_iff.mp (List.mem_append_left _ hx)
theorem nodup_of_map {α β : Type} {f : α → β} : ∀ {l : List α}, (l.map f).Nodup → ∀ a ∈ l, ∀ b ∈ l, f a = f b → a = b
  | [], _, a, ha, _, _, _ => nomatch ha
  | x :: l, nd, a, ha, b, hb, e => by
    have nd' := List.nodup_cons.mp nd
    rcases List.mem_cons.mp ha with rfl | ha' <;> rcases List.mem_cons.mp hb with rfl | hb'
    · rfl
    · exact absurd (List.mem_map.mpr ⟨b, hb', e.symm⟩) nd'.1
    · exact absurd (List.mem_map.mpr ⟨a, ha', e⟩) nd'.1
    · exact nodup_of_map nd'.2 a ha' b hb' e
theorem nodup_map_of {α β : Type} {f : α → β} : ∀ {l : List α}, l.Nodup → (∀ a ∈ l, ∀ b ∈ l, f a = f b → a = b) → (l.map f).Nodup
  | [], _, _ => List.nodup_nil
  | x :: l, nd, h => by
    have nd' := List.nodup_cons.mp nd
    refine List.nodup_cons.mpr ⟨fun m => ?_, nodup_map_of nd'.2 fun a ha b hb => h a (List.mem_cons_of_mem _ ha) b (List.mem_cons_of_mem _ hb)⟩
    obtain ⟨y, hy, e⟩ := List.mem_map.mp m
    exact nd'.1 (h y (List.mem_cons_of_mem _ hy) x List.mem_cons_self e ▸ hy)
theorem nodup_fst {α β : Type} {f : α → β} {l : List α} (h : (l.map f).Nodup) : l.Nodup := by
  induction l with
  | nil => exact List.nodup_nil
  | cons x l ih =>
    have nd' := List.nodup_cons.mp h
    exact List.nodup_cons.mpr ⟨fun m => nd'.1 (List.mem_map.mpr ⟨x, m, rfl⟩), ih nd'.2⟩
/-- the certificate: D a set of columns, all of them taken; a row whose partner is in D, and a row without partner, looks into D alone -/
theorem cert {α β : Type} {R : α → β → Bool} {A : List α} {B : List β} {M : List (α × β)} {D : β → Prop} (hA : A.Nodup) (hB : B.Nodup) (hM : Mt R A B M)
    (h1 : ∀ c, D c → ∃ r, (r, c) ∈ M ∧ ∀ c' , R r c' = true → D c') (h2 : ∀ r ∈ A, (∃ c, (r, c) ∈ M) ∨ ∀ c', R r c' = true → D c') : Mx R A B M.length := by
  refine ⟨⟨M, hM, rfl⟩, fun L hL => ?_⟩
  have ndM1 := hM.1.nodup hA
  have ndM2 := hM.2.1.nodup hB
  have ndL1 := hL.1.nodup hA
  have ndL2 := hL.2.1.nodup hB
  have col : ∀ p ∈ L, ∃ q ∈ M, (D p.2 → q.2 = p.2) ∧ (¬ D p.2 → q.1 = p.1 ∧ ¬ D q.2) := by
    intro p hp
    by_cases hD : D p.2
    · obtain ⟨r, hr, _⟩ := h1 p.2 hD
      exact ⟨(r, p.2), hr, fun _ => rfl, fun n => absurd hD n⟩
    · have hr : p.1 ∈ A := hL.1.mem (List.mem_map.mpr ⟨p, hp, rfl⟩)
      rcases h2 p.1 hr with ⟨c, hc⟩ | h
      · refine ⟨(p.1, c), hc, fun y => absurd y hD, fun _ => ⟨rfl, fun hc' => ?_⟩⟩
        obtain ⟨r', hr', hN⟩ := h1 c hc'
        have e := nodup_of_map ndM2 (r', c) hr' (p.1, c) hc rfl
        have e1 : r' = p.1 := congrArg Prod.fst e
        subst e1
        exact hD (hN _ (hL.2.2 p hp))
      · exact absurd (h _ (hL.2.2 p hp)) hD
  let inst : ∀ p : α × β, Decidable (p ∈ L) := fun p => Classical.propDecidable _
  let φ : α × β → α × β := fun p => if h : p ∈ L then Classical.choose (col p h) else p
  have hφ : ∀ p ∈ L, φ p ∈ M ∧ (D p.2 → (φ p).2 = p.2) ∧ (¬ D p.2 → (φ p).1 = p.1 ∧ ¬ D (φ p).2) := by
    intro p hp
    have e : φ p = Classical.choose (col p hp) := dif_pos hp
    rw [e]
    exact Classical.choose_spec (col p hp)
  have nd : (L.map φ).Nodup := by
    refine nodup_map_of (nodup_fst ndL1) fun a ha b hb e => ?_
    obtain ⟨a1, a2, a3⟩ := hφ a ha
    obtain ⟨b1, b2, b3⟩ := hφ b hb
    by_cases ha' : D a.2 <;> by_cases hb' : D b.2
    · exact nodup_of_map ndL2 a ha b hb (by rw [← a2 ha', ← b2 hb', e])
    · exact absurd (by rw [← e, a2 ha']; exact ha') (b3 hb').2
    · exact absurd (by rw [e, b2 hb']; exact hb') (a3 ha').2
    · exact nodup_of_map ndL1 a ha b hb (by rw [← (a3 ha').1, ← (b3 hb').1, e])
  have := List.Nodup.length_le_of_subset nd (l₂ := M) fun q hq => by
    obtain ⟨p, hp, rfl⟩ := List.mem_map.mp hq
    exact (hφ p hp).1
  rwa [List.length_map] at this
/-! ### tables of pairs -/
def lk (l : List (Int × Int)) (k : Int) : Option Int := (l.find? fun p => decide (p.1 = k)).map (·.2)
def pu (l : List (Int × Int)) (k v : Int) : List (Int × Int) := if (l.any fun p => decide (p.1 = k)) = true then l.map (fun p => if p.1 = k then (p.1, v) else p) else l ++ [(k, v)]
theorem lk_cons (p : Int × Int) (l : List (Int × Int)) (k : Int) : lk (p :: l) k = if p.1 = k then some p.2 else lk l k := by
  unfold lk
  rw [List.find?_cons]
  by_cases e : p.1 = k
  · simp [e]
  · simp [e]
theorem lk_app (l m : List (Int × Int)) (k : Int) : lk (l ++ m) k = (lk l k).or (lk m k) := by
  unfold lk
  rw [List.find?_append]
  cases l.find? fun p => decide (p.1 = k) <;> simp
theorem lk_none {l : List (Int × Int)} {k : Int} : lk l k = none ↔ ∀ p ∈ l, p.1 ≠ k := by
  unfold lk
  rw [Option.map_eq_none_iff, List.find?_eq_none]
  simp
theorem lk_some {l : List (Int × Int)} {k v : Int} (h : lk l k = some v) : (k, v) ∈ l := by
  unfold lk at h
  obtain ⟨p, hp, rfl⟩ := Option.map_eq_some_iff.mp h
  have h1 := List.find?_some hp
  have h2 := List.mem_of_find?_eq_some hp
  have e : p.1 = k := of_decide_eq_true h1
  rw [← e]
  exact h2
theorem lk_mem : ∀ {l : List (Int × Int)}, (l.map (·.1)).Nodup → ∀ {k v : Int}, (k, v) ∈ l → lk l k = some v
  | [], _, k, v, h => nomatch h
  | p :: l, nd, k, v, h => by
    have nd' := List.nodup_cons.mp nd
    rw [lk_cons]
    rcases List.mem_cons.mp h with rfl | h
    · rw [if_pos rfl]
    · rw [if_neg fun e => nd'.1 (List.mem_map.mpr ⟨(k, v), h, e.symm⟩)]
      exact lk_mem nd'.2 h
theorem any_lk (l : List (Int × Int)) (k : Int) : (l.any fun p => decide (p.1 = k)) = (lk l k).isSome := by
  induction l with
  | nil => rfl
  | cons p l ih =>
    rw [List.any_cons, ih, lk_cons]
    by_cases e : p.1 = k <;> simp [e]
theorem lk_pu (l : List (Int × Int)) (k v j : Int) : lk (pu l k v) j = if j = k then some v else lk l j := by
  unfold pu
  split
  · rename_i h
    induction l with
    | nil => simp at h
    | cons p l ih =>
      rw [List.map_cons, lk_cons, lk_cons]
      by_cases e : p.1 = k
      · rw [if_pos e]
        by_cases ej : j = k
        · subst ej
          rw [if_pos e, if_pos rfl]
        · have e2 : ¬ p.1 = j := fun z => ej (z.symm.trans e)
          rw [if_neg e2, if_neg ej, if_neg e2]
          clear ih h
          induction l with
          | nil => rfl
          | cons q l ih =>
            rw [List.map_cons, lk_cons, lk_cons]
            by_cases eq : q.1 = k
            · rw [if_pos eq, if_neg (fun z => ej (z.symm.trans eq)), if_neg (fun z => ej (z.symm.trans eq))]
              exact ih
            · rw [if_neg eq, ih]
      · rw [if_neg e]
        have h' : (l.any fun p => decide (p.1 = k)) = true := by simpa [e] using h
        rw [ih h']
        by_cases ej : p.1 = j
        · rw [if_pos ej, if_pos ej, if_neg (fun z => e (ej.trans z))]
        · rw [if_neg ej, if_neg ej]
  · rename_i h
    rw [any_lk] at h
    have h0 : lk l k = none := by
      cases q : lk l k with
      | none => rfl
      | some v => rw [q] at h; exact absurd rfl h
    rw [lk_app, lk_cons]
    by_cases ej : j = k
    · subst ej
      rw [h0, if_pos rfl, if_pos rfl]
      rfl
    · rw [if_neg ej, if_neg (fun z => ej z.symm)]
      cases lk l j <;> rfl
theorem pu_keys (l : List (Int × Int)) (k v : Int) : (pu l k v).map (·.1) = if (lk l k).isSome = true then l.map (·.1) else l.map (·.1) ++ [k] := by
  unfold pu
  rw [any_lk]
  split
  · rw [List.map_map]
    refine List.map_congr_left fun p _ => ?_
    by_cases e : p.1 = k <;> simp [e]
  · rw [List.map_append]
    rfl
theorem pu_nodup {l : List (Int × Int)} {k v : Int} (nd : (l.map (·.1)).Nodup) : ((pu l k v).map (·.1)).Nodup := by
  rw [pu_keys]
  split
  · exact nd
  · rename_i h
    refine List.nodup_append.mpr ⟨nd, List.nodup_cons.mpr ⟨List.not_mem_nil, List.nodup_nil⟩, fun a ha b hb e => ?_⟩
    rw [List.mem_singleton.mp hb] at e
    subst e
    obtain ⟨p, hp, rfl⟩ := List.mem_map.mp ha
    have := lk_mem nd hp
    rw [this] at h
    exact h rfl
theorem pu_len (l : List (Int × Int)) (k v : Int) : (pu l k v).length = if (lk l k).isSome = true then l.length else l.length + 1 := by
  have := congrArg List.length (pu_keys l k v)
  rw [List.length_map] at this
  rw [this]
  split <;> simp
end Sw
/-! Plain: what the search for a way to a free column keeps. -/
namespace Sw
abbrev PF := Int → Option Int
structure Pairs (T : Int → List Int) (O Hd : PF) : Prop where
  a : ∀ c r, O c = some r → Hd r = some c
  b : ∀ r c, Hd r = some c → O c = some r
  e : ∀ c r, O c = some r → c ∈ T r
def Closed (T : Int → List Int) (O : PF) (D : Int → Prop) : Prop := ∀ c, D c → ∃ r, O c = some r ∧ ∀ c' ∈ T r, D c'
structure PI (T : Int → List Int) (done : List Int) (O Hd : PF) : Prop where
  p : Pairs T O Hd
  dn : ∀ r c, Hd r = some c → r ∈ done
  cl : ∃ D : Int → Prop, Closed T O D ∧ ∀ r ∈ done, (∃ c, Hd r = some c) ∨ ∀ c ∈ T r, D c
def Tree (T : Int → List Int) (O : PF) (start : Int) (came : List (Int × Int)) : Prop :=
  ∀ pre c here post, came = pre ++ (c, here) :: post → c ∈ T here ∧ (here = start ∨ ∃ c', c' ∈ pre.map (·.1) ∧ O c' = some here)
/-- the way back: c is to be given anew -/
structure GI (T : Int → List Int) (O0 Hd0 : PF) (D : Int → Prop) (start : Int) (pre : List (Int × Int)) (c : Int) (O Hd : PF) : Prop where
  o : ∀ c' r, c' ≠ c → O c' = some r → Hd r = some c'
  h : ∀ r c', Hd r = some c' → c' ≠ c ∧ O c' = some r
  e : ∀ c' r, c' ≠ c → O c' = some r → c' ∈ T r
  st : Hd start = none
  rows : ∀ r, (∃ c', Hd r = some c') ↔ (∃ c', Hd0 r = some c')
  pr : ∀ c' ∈ pre.map (·.1), O c' = O0 c'
  d : ¬ D c
  dd : ∀ c', D c' → O c' = O0 c'
def upF (f : PF) (k v : Int) : PF := fun j => if j = k then some v else f j
theorem lk_upF (l : List (Int × Int)) (k v : Int) : lk (pu l k v) = upF (lk l) k v := funext fun j => lk_pu l k v j
theorem upF_self (f : PF) (k v : Int) : upF f k v k = some v := if_pos rfl
theorem upF_ne (f : PF) {k v j : Int} (h : j ≠ k) : upF f k v j = f j := if_neg h
theorem gi_start {T : Int → List Int} {O Hd : PF} {D : Int → Prop} {start : Int} {came : List (Int × Int)} {c : Int} (P : Pairs T O Hd) (hs : Hd start = none) (hc : O c = none) (hD : Closed T O D) : GI T O Hd D start came c O Hd where
  o := fun c' r _ h => P.a c' r h
  h := fun r c' h => ⟨fun e => absurd (P.b r c' h) (by rw [e, hc]; exact fun z => nomatch z), P.b r c' h⟩
  e := fun c' r _ h => P.e c' r h
  st := hs
  rows := fun r => Iff.rfl
  pr := fun _ _ => rfl
  d := fun h => by
    obtain ⟨r, e, _⟩ := hD c h
    rw [hc] at e
    cases e
  dd := fun _ _ => rfl
/-- one step back, to an earlier column -/
theorem gi_step {T : Int → List Int} {O0 Hd0 O Hd : PF} {D : Int → Prop} {start : Int} {pre pre' post' : List (Int × Int)} {c here c2 here2 : Int} (g : GI T O0 Hd0 D start pre c O Hd) (nd : (pre.map (·.1)).Nodup) (nc : c ∉ pre.map (·.1))
    (hT : c ∈ T here) (hp : pre = pre' ++ (c2, here2) :: post') (h2 : O0 c2 = some here) (hne : here ≠ start) (hD : Closed T O0 D) : Hd here = some c2 ∧ GI T O0 Hd0 D start pre' c2 (upF O c here) (upF Hd here c) := by
  have m2 : c2 ∈ pre.map (·.1) := by rw [hp]; simp
  have n2 : c2 ≠ c := fun e => nc (e ▸ m2)
  have o2 : O c2 = some here := (g.pr c2 m2).trans h2
  have hh : Hd here = some c2 := g.o c2 here n2 o2
  refine ⟨hh, ?_⟩
  constructor
  · intro c' r hc' h
    by_cases e : c' = c
    · subst e
      rw [upF_self] at h
      cases h
      exact upF_self _ _ _
    · rw [upF_ne _ e] at h
      have hr := g.o c' r e h
      have : r ≠ here := fun z => by
        rw [z, hh] at hr
        cases hr
        exact hc' rfl
      rw [upF_ne _ this]
      exact hr
  · intro r c' h
    by_cases e : r = here
    · subst e
      rw [upF_self] at h
      cases h
      exact ⟨fun z => n2 z.symm, upF_self _ _ _⟩
    · rw [upF_ne _ e] at h
      obtain ⟨q1, q2⟩ := g.h r c' h
      refine ⟨fun z => ?_, by rw [upF_ne _ q1]; exact q2⟩
      rw [z, o2] at q2
      cases q2
      exact e rfl
  · intro c' r hc' h
    by_cases e : c' = c
    · subst e
      rw [upF_self] at h
      cases h
      exact hT
    · rw [upF_ne _ e] at h
      exact g.e c' r e h
  · rw [upF_ne _ (Ne.symm hne)]
    exact g.st
  · intro r
    rw [← g.rows r]
    by_cases e : r = here
    · subst e
      rw [upF_self]
      exact ⟨fun _ => ⟨_, hh⟩, fun _ => ⟨_, rfl⟩⟩
    · rw [upF_ne _ e]
  · intro c' h
    have hm : c' ∈ pre.map (·.1) := by
      rw [hp, List.map_append]
      exact List.mem_append_left _ h
    rw [upF_ne _ (show c' ≠ c from fun z => nc (z ▸ hm))]
    exact g.pr c' hm
  · intro hd
    obtain ⟨r, e, hN⟩ := hD c2 hd
    rw [h2] at e
    cases e
    exact g.d (hN c hT)
  · intro c' hd
    rw [upF_ne _ (show c' ≠ c from fun z => g.d (z ▸ hd))]
    exact g.dd c' hd
/-- the last step: the row that the way began at -/
theorem gi_end {T : Int → List Int} {O0 Hd0 O Hd : PF} {D : Int → Prop} {start c : Int} {pre : List (Int × Int)} {done : List Int} (g : GI T O0 Hd0 D start pre c O Hd) (hT : c ∈ T start) (hD : Closed T O0 D)
    (hdn : ∀ r c, Hd0 r = some c → r ∈ done) (hcl : ∀ r ∈ done, (∃ c, Hd0 r = some c) ∨ ∀ c ∈ T r, D c) : PI T (done ++ [start]) (upF O c start) (upF Hd start c) where
  p := by
    constructor
    · intro c' r h
      by_cases e : c' = c
      · subst e
        rw [upF_self] at h
        cases h
        exact upF_self _ _ _
      · rw [upF_ne _ e] at h
        have hr := g.o c' r e h
        rw [upF_ne _ (fun z => by rw [z, g.st] at hr; cases hr)]
        exact hr
    · intro r c' h
      by_cases e : r = start
      · subst e
        rw [upF_self] at h
        cases h
        exact upF_self _ _ _
      · rw [upF_ne _ e] at h
        obtain ⟨q1, q2⟩ := g.h r c' h
        rw [upF_ne _ q1]
        exact q2
    · intro c' r h
      by_cases e : c' = c
      · subst e
        rw [upF_self] at h
        cases h
        exact hT
      · rw [upF_ne _ e] at h
        exact g.e c' r e h
  dn := fun r c' h => by
    by_cases e : r = start
    · rw [e]; simp
    · rw [upF_ne _ e] at h
      obtain ⟨c2, h2⟩ := (g.rows r).mp ⟨c', h⟩
      exact List.mem_append_left _ (hdn r c2 h2)
  cl := by
    refine ⟨D, fun c' hd => ?_, fun r hr => ?_⟩
    · rw [upF_ne _ (show c' ≠ c from fun z => g.d (z ▸ hd)), g.dd c' hd]
      exact hD c' hd
    · rcases List.mem_append.mp hr with hr | hr
      · rcases hcl r hr with h | h
        · obtain ⟨c2, h2⟩ := (g.rows r).mpr h
          by_cases e : r = start
          · exact .inl ⟨c, by rw [e]; exact upF_self _ _ _⟩
          · exact .inl ⟨c2, by rw [upF_ne _ e]; exact h2⟩
        · exact .inr h
      · rw [List.mem_singleton.mp hr]
        exact .inl ⟨c, upF_self _ _ _⟩
/-- the search -/
structure BI (T : Int → List Int) (O : PF) (start : Int) (came : List (Int × Int)) (waiting : List Int) (here : Int) (pre : List Int) : Prop where
  nd : (came.map (·.1)).Nodup
  tree : Tree T O start came
  m : ∀ c ∈ came.map (·.1), ∃ r, O c = some r
  cl : ∀ r, (r = start ∨ ∃ c ∈ came.map (·.1), O c = some r) → r ∈ waiting ∨ (∀ c ∈ T r, c ∈ came.map (·.1)) ∨ (r = here ∧ ∀ c ∈ pre, c ∈ came.map (·.1))
  wt : ∀ r ∈ waiting, r = start ∨ ∃ c ∈ came.map (·.1), O c = some r
  hr : here = start ∨ ∃ c ∈ came.map (·.1), O c = some here
structure BO (T : Int → List Int) (O : PF) (start : Int) (came : List (Int × Int)) (waiting : List Int) : Prop where
  nd : (came.map (·.1)).Nodup
  tree : Tree T O start came
  m : ∀ c ∈ came.map (·.1), ∃ r, O c = some r
  cl : ∀ r, (r = start ∨ ∃ c ∈ came.map (·.1), O c = some r) → r ∈ waiting ∨ ∀ c ∈ T r, c ∈ came.map (·.1)
  wt : ∀ r ∈ waiting, r = start ∨ ∃ c ∈ came.map (·.1), O c = some r
theorem bo_start {T : Int → List Int} {O : PF} {start : Int} : BO T O start [] [start] where
  nd := List.nodup_nil
  tree := fun pre c here post h => by simp at h
  m := fun _ h => nomatch h
  cl := fun r h => by
    rcases h with rfl | ⟨c, hc, _⟩
    · exact .inl (by simp)
    · simp at hc
  wt := fun r h => .inl (by simpa using h)
/-- a row is taken up -/
theorem BO.pop {T : Int → List Int} {O : PF} {start : Int} {came : List (Int × Int)} {x : Int} {ws : List Int} (b : BO T O start came (x :: ws)) : BI T O start came ws x [] where
  nd := b.nd
  tree := b.tree
  m := b.m
  cl := fun r h => by
    rcases b.cl r h with h1 | h1
    · rcases List.mem_cons.mp h1 with rfl | h1
      · exact .inr (.inr ⟨rfl, fun _ z => nomatch z⟩)
      · exact .inl h1
    · exact .inr (.inl h1)
  wt := fun r h => b.wt r (List.mem_cons_of_mem _ h)
  hr := b.wt x List.mem_cons_self
/-- .. and is done with -/
theorem BI.out {T : Int → List Int} {O : PF} {start here : Int} {came : List (Int × Int)} {ws : List Int} (b : BI T O start came ws here (T here)) : BO T O start came ws where
  nd := b.nd
  tree := b.tree
  m := b.m
  cl := fun r h => by
    rcases b.cl r h with h1 | h1 | ⟨h1, h2⟩
    · exact .inl h1
    · exact .inr h1
    · rw [h1]; exact .inr h2
  wt := b.wt
theorem tree_snoc {T : Int → List Int} {O : PF} {start here a : Int} {came : List (Int × Int)} (t : Tree T O start came) (hT : a ∈ T here) (hr : here = start ∨ ∃ c ∈ came.map (·.1), O c = some here) : Tree T O start (came ++ [(a, here)]) := by
  intro pre c h post e
  rcases List.eq_nil_or_concat post with rfl | ⟨post', x, rfl⟩
  · have e' := List.append_inj' e rfl
    obtain ⟨rfl, e2⟩ := e'
    cases e2
    rcases hr with rfl | ⟨c', h1, h2⟩
    · exact ⟨hT, .inl rfl⟩
    · exact ⟨hT, .inr ⟨c', h1, h2⟩⟩
  · have e1 : came ++ [(a, here)] = (pre ++ (c, h) :: post') ++ [x] := by rw [e]; simp
    have e' := List.append_inj' e1 rfl
    exact t pre c h post' e'.1
/-- a column met before -/
theorem BI.old {T : Int → List Int} {O : PF} {start here a : Int} {came : List (Int × Int)} {waiting pre : List Int} (b : BI T O start came waiting here pre) (h : a ∈ came.map (·.1)) : BI T O start came waiting here (pre ++ [a]) where
  nd := b.nd
  tree := b.tree
  m := b.m
  cl := fun r hr => by
    rcases b.cl r hr with h1 | h1 | ⟨h1, h2⟩
    · exact .inl h1
    · exact .inr (.inl h1)
    · refine .inr (.inr ⟨h1, fun c hc => ?_⟩)
      rcases List.mem_append.mp hc with hc | hc
      · exact h2 c hc
      · rw [List.mem_singleton.mp hc]; exact h
  wt := b.wt
  hr := b.hr
/-- a new column, taken by r -/
theorem BI.new {T : Int → List Int} {O : PF} {start here a r : Int} {came : List (Int × Int)} {waiting pre : List Int} (b : BI T O start came waiting here pre) (h : a ∉ came.map (·.1)) (hT : a ∈ T here) (hO : O a = some r) : BI T O start (came ++ [(a, here)]) (waiting ++ [r]) here (pre ++ [a]) := by
  have mem : ∀ c, c ∈ (came ++ [(a, here)]).map (·.1) ↔ c ∈ came.map (·.1) ∨ c = a := fun c => by simp
  constructor
  · rw [List.map_append]
    refine List.nodup_append.mpr ⟨b.nd, by simp, fun x hx y hy e => ?_⟩
    have : y = a := by simpa using hy
    exact h (by rw [← this, ← e]; exact hx)
  · exact tree_snoc b.tree hT b.hr
  · intro c hc
    rcases (mem c).mp hc with hc | rfl
    · exact b.m c hc
    · exact ⟨r, hO⟩
  · intro r' hr'
    have old : (r' = start ∨ ∃ c ∈ came.map (·.1), O c = some r') ∨ r' = r := by
      rcases hr' with h1 | ⟨c, hc, hc2⟩
      · exact .inl (.inl h1)
      · rcases (mem c).mp hc with hc | rfl
        · exact .inl (.inr ⟨c, hc, hc2⟩)
        · rw [hO] at hc2
          cases hc2
          exact .inr rfl
    rcases old with old | rfl
    · rcases b.cl r' old with h1 | h1 | ⟨h1, h2⟩
      · exact .inl (List.mem_append_left _ h1)
      · exact .inr (.inl fun c hc => (mem c).mpr (.inl (h1 c hc)))
      · refine .inr (.inr ⟨h1, fun c hc => (mem c).mpr ?_⟩)
        rcases List.mem_append.mp hc with hc | hc
        · exact .inl (h2 c hc)
        · exact .inr (List.mem_singleton.mp hc)
    · exact .inl (by simp)
  · intro r' hr'
    rcases List.mem_append.mp hr' with h1 | h1
    · rcases b.wt r' h1 with h2 | ⟨c, hc, h2⟩
      · exact .inl h2
      · exact .inr ⟨c, (mem c).mpr (.inl hc), h2⟩
    · rw [List.mem_singleton.mp h1]
      exact .inr ⟨a, (mem a).mpr (.inr rfl), hO⟩
  · rcases b.hr with h2 | ⟨c, hc, h2⟩
    · exact .inl h2
    · exact .inr ⟨c, (mem c).mpr (.inl hc), h2⟩
/-- the search has ended in vain -/
theorem bo_end {T : Int → List Int} {O Hd : PF} {start : Int} {came : List (Int × Int)} {done : List Int} (b : BO T O start came []) (P : PI T done O Hd) : PI T (done ++ [start]) O Hd where
  p := P.p
  dn := fun r c h => List.mem_append_left _ (P.dn r c h)
  cl := by
    have full : ∀ r, (r = start ∨ ∃ c ∈ came.map (·.1), O c = some r) → ∀ c ∈ T r, c ∈ came.map (·.1) := fun r hr => by
      rcases b.cl r hr with h | h
      · exact nomatch h
      · exact h
    obtain ⟨D, h1, h2⟩ := P.cl
    refine ⟨fun c => D c ∨ c ∈ came.map (·.1), fun c hc => ?_, fun r hr => ?_⟩
    · rcases hc with hc | hc
      · obtain ⟨r, e, hN⟩ := h1 c hc
        exact ⟨r, e, fun c' h' => .inl (hN c' h')⟩
      · obtain ⟨r, e⟩ := b.m c hc
        exact ⟨r, e, fun c' h' => .inr (full r (.inr ⟨c, hc, e⟩) c' h')⟩
    · rcases List.mem_append.mp hr with hr | hr
      · rcases h2 r hr with h | h
        · exact .inl h
        · exact .inr fun c hc => .inl (h c hc)
      · rw [List.mem_singleton.mp hr]
        exact .inr fun c hc => .inr (full start (.inl rfl) c hc)
/-- the end: as many as there can be -/
theorem pi_mx {T : Int → List Int} {rows : List Int} {C : Nat} {own held : List (Int × Int)} (P : PI T rows (lk own) (lk held)) (ndr : rows.Nodup) (ndh : (held.map (·.1)).Nodup) (hT : ∀ r ∈ rows, ∀ c ∈ T r, 0 ≤ c ∧ c < C) :
    Mx (fun i j => decide (j ∈ T i)) rows (upto C) held.length := by
  have hm : ∀ r c, (r, c) ∈ held ↔ lk held r = some c := fun r c => ⟨fun h => lk_mem ndh h, fun h => lk_some h⟩
  obtain ⟨D, h1, h2⟩ := P.cl
  have hM : Mt (fun i j => decide (j ∈ T i)) rows (upto C) held := by
    have ndc : (held.map (·.2)).Nodup := nodup_map_of (nodup_fst ndh) fun p hp q hq e => by
      have e1 := P.p.b _ _ ((hm p.1 p.2).mp hp)
      have e2 := P.p.b _ _ ((hm q.1 q.2).mp hq)
      rw [e, e2] at e1
      exact Prod.ext (Option.some.inj e1).symm e
    refine ⟨sub_of ndh fun r hr => ?_, sub_of ndc fun c hc => ?_, fun p hp => ?_⟩
    · obtain ⟨p, hp, rfl⟩ := List.mem_map.mp hr
      exact P.dn _ _ ((hm p.1 p.2).mp hp)
    · obtain ⟨p, hp, rfl⟩ := List.mem_map.mp hc
      have e := (hm p.1 p.2).mp hp
      exact mem_upto.mpr (hT p.1 (P.dn _ _ e) p.2 (P.p.e _ _ (P.p.b _ _ e)))
    · exact decide_eq_true (P.p.e _ _ (P.p.b _ _ ((hm p.1 p.2).mp hp)))
  refine cert (D := D) ndr (upto_nodup C) hM (fun c hc => ?_) fun r hr => ?_
  · obtain ⟨r, e, hN⟩ := h1 c hc
    exact ⟨r, (hm r c).mpr (P.p.a _ _ e), fun c' h => hN c' (of_decide_eq_true h)⟩
  · rcases h2 r hr with ⟨c, h⟩ | h
    · exact .inl ⟨c, (hm r c).mpr h⟩
    · exact .inr fun c' h' => h c' (of_decide_eq_true h')
theorem pi_nil {T : Int → List Int} : PI T [] (lk []) (lk []) where
  p := ⟨fun _ _ h => (by cases h), fun _ _ h => (by cases h), fun _ _ h => (by cases h)⟩
  dn := fun _ _ h => (by cases h)
  cl := ⟨fun _ => False, fun _ h => h.elim, fun _ h => nomatch h⟩
/-- what a turn of the search does to what came and what waits -/
def bfsS (O : PF) (here : Int) (st : List (Int × Int) × List Int) (a : Int) : List (Int × Int) × List Int :=
  if (lk st.1 a).isSome = true then st else (st.1 ++ [(a, here)], st.2 ++ [(O a).getD 0])
def bfsF (O : PF) (here : Int) (st : List (Int × Int) × List Int) (pre : List Int) : List (Int × Int) × List Int := pre.foldl (bfsS O here) st
theorem bfsF_snoc (O : PF) (here : Int) (st : List (Int × Int) × List Int) (pre : List Int) (a : Int) : bfsF O here st (pre ++ [a]) = bfsS O here (bfsF O here st pre) a := by
  unfold bfsF
  rw [List.foldl_append]
  rfl
theorem lk_isSome {l : List (Int × Int)} {k : Int} : (lk l k).isSome = true ↔ k ∈ l.map (·.1) := by
  rw [← any_lk, List.any_eq_true, List.mem_map]
  constructor
  · rintro ⟨p, h, e⟩
    exact ⟨p, h, of_decide_eq_true e⟩
  · rintro ⟨p, h, e⟩
    exact ⟨p, h, decide_eq_true e⟩
theorem pu_new {l : List (Int × Int)} {k v : Int} (h : lk l k = none) : pu l k v = l ++ [(k, v)] := by
  unfold pu
  rw [any_lk, h]
  rfl
/-- so many at the most -/
theorem few_of {l : List (Int × Int)} {n : Nat} (nd : (l.map (·.1)).Nodup) (h : ∀ p ∈ l, 0 ≤ p.1 ∧ p.1 < n) : l.length ≤ n := by
  have := List.Nodup.length_le_of_subset nd (l₂ := upto n) fun x hx => by
    obtain ⟨p, hp, rfl⟩ := List.mem_map.mp hx
    exact mem_upto.mpr (h p hp)
  rw [List.length_map] at this
  simpa [upto] using this
end Sw
/-! What the law's own defs reckon, as plain functions. -/
namespace Sw
def rowS (st : List Int × Int × Int) (k : Int) : List Int × Int × Int :=
  if 0 < st.2.1 then (st.1 ++ [st.2.1 % 1009], st.2.1 / 1009, ((st.2.2 + 1) * 48271 + 69621 * k) % 2147483647)
  else (st.1 ++ [((st.2.2 + 1) * 48271 + 69621 * k) % 2147483647 / 2048 % 1009], st.2.1, ((st.2.2 + 1) * 48271 + 69621 * k) % 2147483647)
def rowI (c : Int) : List Int × Int × Int := ([], if 10 ^ 18 ≤ absI c then absI c else 0, absI c % 2147483647)
def rowF (c : Int) (pre : List Int) : List Int × Int × Int := pre.foldl rowS (rowI c)
def rowM (c : Int) (n : Int) : List Int := (rowF c (upto n.toNat)).1
theorem rowF_snoc (c : Int) (pre : List Int) (k : Int) : rowF c (pre ++ [k]) = rowS (rowF c pre) k := by
  unfold rowF
  rw [List.foldl_append]
  rfl
structure RowOk (st : List Int × Int × Int) (n : Nat) : Prop where
  len : st.1.length = n
  v : ∀ x ∈ st.1, 0 ≤ x ∧ x < 1009
  s0 : 0 ≤ st.2.2
  s1 : st.2.2 < 2147483647
theorem rowI_ok (c : Int) : RowOk (rowI c) 0 := ⟨rfl, fun x h => (by cases h), Int.emod_nonneg _ (by decide), Int.emod_lt_of_pos _ (by decide)⟩
theorem rowS_ok {st : List Int × Int × Int} {n : Nat} (h : RowOk st n) (k : Int) : RowOk (rowS st k) (n + 1) := by
  unfold rowS
  split
  · refine ⟨by simp [h.len], fun x hx => ?_, Int.emod_nonneg _ (by decide), Int.emod_lt_of_pos _ (by decide)⟩
    rcases List.mem_append.mp hx with hx | hx
    · exact h.v x hx
    · rw [List.mem_singleton.mp hx]
      omega
  · refine ⟨by simp [h.len], fun x hx => ?_, Int.emod_nonneg _ (by decide), Int.emod_lt_of_pos _ (by decide)⟩
    rcases List.mem_append.mp hx with hx | hx
    · exact h.v x hx
    · rw [List.mem_singleton.mp hx]
      omega
theorem rowF_ok (c : Int) : ∀ pre : List Int, RowOk (rowF c pre) pre.length := fun pre => by
  suffices ∀ (l : List Int) (st : List Int × Int × Int) (n : Nat), RowOk st n → RowOk (l.foldl rowS st) (n + l.length) by
    have := this pre (rowI c) 0 (rowI_ok c)
    rwa [Nat.zero_add] at this
  intro l
  induction l with
  | nil => intro st n h; exact h
  | cons a l ih =>
    intro st n h
    have := ih (rowS st a) (n + 1) (rowS_ok h a)
    rw [List.foldl_cons, List.length_cons]
    rwa [show n + (l.length + 1) = n + 1 + l.length by omega]
theorem rowM_len {c n : Int} : (rowM c n).length = n.toNat := by
  have := (rowF_ok c (upto n.toNat)).len
  rw [show (upto n.toNat).length = n.toNat by simp [upto]] at this
  exact this
theorem rowM_v {c n : Int} : ∀ x ∈ rowM c n, 0 ≤ x ∧ x < 1009 := (rowF_ok c (upto n.toNat)).v
/-- the law's numbers -/
def eachM (ns : List Int) : Int := 1 + 90 / (if ((ns.take 63).length : Int) > 1 then ((ns.take 63).length : Int) else 1)
def poolM (ns : List Int) : List Int := (ns.take 63).flatMap fun c => rowM c (eachM ns)
def padM (xs : List Int) : List Int := xs ++ List.replicate (90 - xs.length) 0
def numsM (ns : List Int) : List Int := (padM (poolM ns)).take 90
theorem poolM_v {ns : List Int} : ∀ x ∈ poolM ns, 0 ≤ x ∧ x < 1009 := fun x hx => by
  obtain ⟨c, _, h⟩ := List.mem_flatMap.mp hx
  exact rowM_v x h
theorem numsM_len (ns : List Int) : (numsM ns).length = 90 := by
  unfold numsM padM
  rw [List.length_take, List.length_append, List.length_replicate]
  omega
theorem numsM_v {ns : List Int} : ∀ x ∈ numsM ns, 0 ≤ x ∧ x < 1009 := fun x hx => by
  rcases List.mem_append.mp (List.mem_of_mem_take hx) with h | h
  · exact poolM_v x h
  · rw [(List.mem_replicate.mp h).2]
    decide
/-- the numbers as a function -/
def numM (N : List Int) (i : Int) : Int := N.getD i.toNat 0
structure NumOk (N : List Int) : Prop where
  len : N.length = 90
  v : ∀ x ∈ N, 0 ≤ x ∧ x < 1009
theorem numsM_ok (ns : List Int) : NumOk (numsM ns) := ⟨numsM_len ns, numsM_v⟩
theorem NumOk.at_ {N : List Int} (h : NumOk N) {i : Int} (h1 : i < 90) : N[i.toNat]? = some (numM N i) ∧ 0 ≤ numM N i ∧ numM N i < 1009 := by
  have hl : i.toNat < N.length := by rw [h.len]; omega
  have e : N[i.toNat]? = some (numM N i) := by
    unfold numM
    rw [List.getD_eq_getElem?_getD, List.getElem?_eq_getElem hl]
    rfl
  exact ⟨e, h.v _ (List.mem_of_getElem? e)⟩
def lawAtt (p : SkyD) (N : List Int) (i : Int) : T3 := (numM N i % p.side, numM N i / 9 % p.side, numM N i / 81 % 4)
def closeB (p : SkyD) (a b : T3) : Bool := decide (maxI (absI (a.1 - b.1)) (absI (a.2.1 - b.2.1)) ≤ p.blur) && decide (absI (a.2.2 - b.2.2) ≤ p.glare)
def at3 (ys : List T3) (k : Int) : T3 := ys.getD k.toNat (0, 0, 0)
def lrows (p : SkyD) (xs ys : List T3) : List (List Int) := xs.map fun a => (upto ys.length).filter fun k => closeB p a (at3 ys k)
noncomputable def lmostM (p : SkyD) (xs ys : List T3) : Nat := matM (lrows p xs ys) (upto xs.length) ys.length
theorem lrows_ok (p : SkyD) (xs ys : List T3) (h1 : xs.length ≤ 1000) (h2 : ys.length ≤ 1000) : TabOk (lrows p xs ys) ys.length where
  few := by rw [lrows, List.length_map]; exact h1
  cols := h2
  nd := fun r hr => by
    obtain ⟨a, _, rfl⟩ := List.mem_map.mp hr
    exact (upto_nodup _).filter _
  rg := fun r hr j hj => by
    obtain ⟨a, _, rfl⟩ := List.mem_map.mp hr
    exact mem_upto.mp (List.mem_filter.mp hj).1
abbrev T4 := Int × Int × Int × Bool
def lawOff (p : SkyD) (a t : T3) : P2 := turnM (4 - a.2.2) (nearM p.side (t.1 - a.1), nearM p.side (t.2.1 - a.2.1))
def lawFar (p : SkyD) (a t : T3) : Int := maxI (absI (lawOff p a t).1) (absI (lawOff p a t).2)
def lawIn (p : SkyD) (a t : T3) : Bool := decide (lawFar p a t ≤ p.reach + p.blur) && decide (p.limit - p.glare ≤ t.2.2)
def lawOne (p : SkyD) (a t : T3) : T4 := ((lawOff p a t).1, (lawOff p a t).2, t.2.2, decide (lawFar p a t ≤ p.reach - p.blur) && decide (p.limit + p.glare ≤ t.2.2))
def lawSeen (p : SkyD) (a : T3) : List T4 := (p.stars.filter (lawIn p a)).map (lawOne p a)
def cut4 (v : T4) : T3 := (v.1, v.2.1, v.2.2.1)
noncomputable def lawNeed (p : SkyD) (a : T3) (sg : List T3) : P2 :=
  ((((lawSeen p a).filter fun v => v.2.2.2).length : Int) - lmostM p (((lawSeen p a).filter fun v => v.2.2.2).map cut4) sg, (sg.length : Int) - lmostM p sg ((lawSeen p a).map cut4))
end Sw
/-! What the law's depth-first matching keeps. -/
namespace Sw
/-- ahead of a give: r is to be given a column not tried -/
structure GPre (T : Int → List Int) (O : PF) (tr : List Int) (r : Int) : Prop where
  fr : ∀ c, c ∉ tr → O c ≠ some r
  inj : ∀ c c' x, c ∉ tr → c' ∉ tr → O c = some x → O c' = some x → c = c'
  ed : ∀ c x, c ∉ tr → O c = some x → c ∈ T x
/-- a give that found a column -/
structure GYes (T : Int → List Int) (O : PF) (tr : List Int) (r : Int) (O' : PF) : Prop where
  old : ∀ c ∈ tr, O' c = O c
  inj : ∀ c c' x, c ∉ tr → c' ∉ tr → O' c = some x → O' c' = some x → c = c'
  ed : ∀ c x, c ∉ tr → O' c = some x → c ∈ T x
  rows : ∀ x, (∃ c, c ∉ tr ∧ O' c = some x) ↔ (x = r ∨ ∃ c, c ∉ tr ∧ O c = some x)
  d : ∀ D : Int → Prop, Closed T O D → (∃ c ∈ T r, ¬ D c) ∧ ∀ c, D c → O' c = O c
/-- a give that found none, or part of it -/
structure GNo (T : Int → List Int) (O : PF) (tr : List Int) (cs : List Int) (tr' : List Int) : Prop where
  sub : ∀ c ∈ tr, c ∈ tr'
  all : ∀ c ∈ cs, c ∈ tr'
  cl : ∀ c ∈ tr', c ∈ tr ∨ ∃ x, O c = some x ∧ ∀ c' ∈ T x, c' ∈ tr'
theorem gno_start {T : Int → List Int} {O : PF} {tr : List Int} : GNo T O tr [] tr := ⟨fun _ h => h, fun _ h => (by cases h), fun _ h => .inl h⟩
theorem GNo.seen {T : Int → List Int} {O : PF} {tr cs tr' : List Int} {c : Int} (g : GNo T O tr cs tr') (h : c ∈ tr') : GNo T O tr (cs ++ [c]) tr' :=
  ⟨g.sub, fun x hx => by
    rcases List.mem_append.mp hx with h1 | h1
    · exact g.all x h1
    · rw [List.mem_singleton.mp h1]; exact h, g.cl⟩
theorem GPre.down {T : Int → List Int} {O : PF} {tr cs tr' : List Int} {r c r2 : Int} (p : GPre T O tr r) (g : GNo T O tr cs tr') (hc : c ∉ tr') (ho : O c = some r2) : GPre T O (tr' ++ [c]) r2 where
  fr := fun c' hc' e => by
    have n1 : c' ∉ tr' := fun m => hc' (List.mem_append_left _ m)
    have n2 : c' ≠ c := fun e => hc' (by rw [e]; simp)
    exact n2 (p.inj c' c r2 (fun m => n1 (g.sub _ m)) (fun m => hc (g.sub _ m)) e ho)
  inj := fun a b x ha hb => p.inj a b x (fun m => ha (List.mem_append_left _ (g.sub _ m))) (fun m => hb (List.mem_append_left _ (g.sub _ m)))
  ed := fun a x ha => p.ed a x (fun m => ha (List.mem_append_left _ (g.sub _ m)))
/-- the part below found none -/
theorem GNo.down {T : Int → List Int} {O : PF} {tr cs tr' tr2 : List Int} {c r2 : Int} (g : GNo T O tr cs tr') (hc : c ∉ tr') (ho : O c = some r2) (h : GNo T O (tr' ++ [c]) (T r2) tr2) : GNo T O tr (cs ++ [c]) tr2 where
  sub := fun x hx => h.sub x (List.mem_append_left _ (g.sub x hx))
  all := fun x hx => by
    rcases List.mem_append.mp hx with h1 | h1
    · exact h.sub x (List.mem_append_left _ (g.all x h1))
    · rw [List.mem_singleton.mp h1]
      exact h.sub c (by simp)
  cl := fun x hx => by
    rcases h.cl x hx with h1 | h1
    · rcases List.mem_append.mp h1 with h1 | h1
      · rcases g.cl x h1 with h2 | ⟨y, h2, h3⟩
        · exact .inl h2
        · exact .inr ⟨y, h2, fun c' hc' => h.sub c' (List.mem_append_left _ (h3 c' hc'))⟩
      · rw [List.mem_singleton.mp h1]
        exact .inr ⟨r2, ho, h.all⟩
    · exact .inr h1
/-- a free column -/
theorem gyes_free {T : Int → List Int} {O : PF} {tr cs tr' : List Int} {r c : Int} (p : GPre T O tr r) (g : GNo T O tr cs tr') (hc : c ∉ tr') (hT : c ∈ T r) (ho : O c = none) : GYes T O tr r (upF O c r) := by
  have hct : c ∉ tr := fun m => hc (g.sub _ m)
  constructor
  · intro x hx
    exact upF_ne O fun e => hct (e ▸ hx)
  · intro a b x ha hb h1 h2
    by_cases ea : a = c
    · by_cases eb : b = c
      · rw [ea, eb]
      · rw [ea, upF_self] at h1
        rw [upF_ne O eb] at h2
        cases h1
        exact absurd h2 (p.fr b hb)
    · rw [upF_ne O ea] at h1
      by_cases eb : b = c
      · rw [eb, upF_self] at h2
        cases h2
        exact absurd h1 (p.fr a ha)
      · rw [upF_ne O eb] at h2
        exact p.inj a b x ha hb h1 h2
  · intro a x ha h1
    by_cases ea : a = c
    · rw [ea, upF_self] at h1
      cases h1
      rw [ea]
      exact hT
    · rw [upF_ne O ea] at h1
      exact p.ed a x ha h1
  · intro x
    constructor
    · rintro ⟨a, ha, h1⟩
      by_cases ea : a = c
      · rw [ea, upF_self] at h1
        cases h1
        exact .inl rfl
      · rw [upF_ne O ea] at h1
        exact .inr ⟨a, ha, h1⟩
    · rintro (rfl | ⟨a, ha, h1⟩)
      · exact ⟨c, hct, upF_self _ _ _⟩
      · have ea : a ≠ c := fun e => by rw [e, ho] at h1; cases h1
        exact ⟨a, ha, by rw [upF_ne O ea]; exact h1⟩
  · intro D hD
    have nc : ¬ D c := fun h => by
      obtain ⟨x, e, _⟩ := hD c h
      rw [ho] at e
      cases e
    exact ⟨⟨c, hT, nc⟩, fun a ha => upF_ne O fun e => nc (e ▸ ha)⟩
/-- the part below found one -/
theorem gyes_down {T : Int → List Int} {O O1 : PF} {tr cs tr' : List Int} {r c r2 : Int} (p : GPre T O tr r) (g : GNo T O tr cs tr') (hc : c ∉ tr') (hT : c ∈ T r) (ho : O c = some r2) (y : GYes T O (tr' ++ [c]) r2 O1) : GYes T O tr r (upF O1 c r) := by
  have hct : c ∉ tr := fun m => hc (g.sub _ m)
  have hr : r2 ≠ r := fun e => p.fr c hct (e ▸ ho)
  -- columns of the part already tried keep theirs
  have keep : ∀ a, a ∈ tr' ++ [c] → O1 a = O a := y.old
  have noR : ∀ a, a ∉ tr → a ≠ c → O1 a ≠ some r := fun a ha hac e => by
    by_cases m : a ∈ tr' ++ [c]
    · rw [keep a m] at e
      exact p.fr a ha e
    · rcases (y.rows r).mp ⟨a, m, e⟩ with h | ⟨b, hb, h⟩
      · exact hr h.symm
      · exact p.fr b (fun m => hb (List.mem_append_left _ (g.sub _ m))) h
  have inj1 : ∀ a b x, a ∉ tr → b ∉ tr → a ≠ c → b ≠ c → O1 a = some x → O1 b = some x → a = b := fun a b x ha hb hac hbc h1 h2 => by
    have mix : ∀ a b, a ∉ tr → b ∉ tr → a ≠ c → a ∈ tr' ++ [c] → b ∉ tr' ++ [c] → O1 a = some x → O1 b = some x → a = b := fun a b ha hb hac ma mb h1 h2 => by
      rw [keep a ma] at h1
      rcases (y.rows x).mp ⟨b, mb, h2⟩ with h | ⟨b', hb', h⟩
      · rw [h] at h1
        exact absurd (p.inj a c r2 ha hct h1 ho) hac
      · have e := p.inj a b' x ha (fun m => hb' (List.mem_append_left _ (g.sub _ m))) h1 h
        exact absurd (e ▸ ma) hb'
    by_cases ma : a ∈ tr' ++ [c]
    · by_cases mb : b ∈ tr' ++ [c]
      · rw [keep a ma] at h1
        rw [keep b mb] at h2
        exact p.inj a b x ha hb h1 h2
      · exact mix a b ha hb hac ma mb h1 h2
    · by_cases mb : b ∈ tr' ++ [c]
      · exact (mix b a hb ha hbc mb ma h2 h1).symm
      · exact y.inj a b x ma mb h1 h2
  constructor
  · intro x hx
    rw [upF_ne O1 (j := x) fun e : x = c => hct (e ▸ hx)]
    exact keep x (List.mem_append_left _ (g.sub x hx))
  · intro a b x ha hb h1 h2
    by_cases ea : a = c
    · by_cases eb : b = c
      · rw [ea, eb]
      · rw [ea, upF_self] at h1
        rw [upF_ne O1 eb] at h2
        cases h1
        exact absurd h2 (noR b hb eb)
    · rw [upF_ne O1 ea] at h1
      by_cases eb : b = c
      · rw [eb, upF_self] at h2
        cases h2
        exact absurd h1 (noR a ha ea)
      · rw [upF_ne O1 eb] at h2
        exact inj1 a b x ha hb ea eb h1 h2
  · intro a x ha h1
    by_cases ea : a = c
    · rw [ea, upF_self] at h1
      cases h1
      rw [ea]
      exact hT
    · rw [upF_ne O1 ea] at h1
      by_cases ma : a ∈ tr' ++ [c]
      · rw [keep a ma] at h1
        exact p.ed a x ha h1
      · exact y.ed a x ma h1
  · intro x
    constructor
    · rintro ⟨a, ha, h1⟩
      by_cases ea : a = c
      · rw [ea, upF_self] at h1
        cases h1
        exact .inl rfl
      · rw [upF_ne O1 ea] at h1
        by_cases ma : a ∈ tr' ++ [c]
        · rw [keep a ma] at h1
          exact .inr ⟨a, ha, h1⟩
        · rcases (y.rows x).mp ⟨a, ma, h1⟩ with h | ⟨b, hb, h⟩
          · rw [h]
            exact .inr ⟨c, hct, ho⟩
          · exact .inr ⟨b, fun m => hb (List.mem_append_left _ (g.sub _ m)), h⟩
    · rintro (rfl | ⟨a, ha, h1⟩)
      · exact ⟨c, hct, upF_self _ _ _⟩
      · by_cases ea : a = c
        · rw [ea, ho] at h1
          cases h1
          obtain ⟨b, hb, h⟩ := (y.rows r2).mpr (.inl rfl)
          have ebc : b ≠ c := fun e => hb (by rw [e]; simp)
          exact ⟨b, fun m => hb (List.mem_append_left _ (g.sub _ m)), by rw [upF_ne O1 ebc]; exact h⟩
        · by_cases ma : a ∈ tr' ++ [c]
          · exact ⟨a, ha, by rw [upF_ne O1 ea, keep a ma]; exact h1⟩
          · obtain ⟨b, hb, h⟩ := (y.rows x).mpr (.inr ⟨a, ma, h1⟩)
            have ebc : b ≠ c := fun e => hb (by rw [e]; simp)
            exact ⟨b, fun m => hb (List.mem_append_left _ (g.sub _ m)), by rw [upF_ne O1 ebc]; exact h⟩
  · intro D hD
    obtain ⟨⟨c2, h1, h2⟩, h3⟩ := y.d D hD
    have nc : ¬ D c := fun h => by
      obtain ⟨x, e, h4⟩ := hD c h
      rw [ho] at e
      cases e
      exact h2 (h4 c2 h1)
    exact ⟨⟨c, hT, nc⟩, fun a ha => by rw [upF_ne O1 (j := a) fun e : a = c => nc (e ▸ ha)]; exact h3 a ha⟩
/-- the rows done: as PI, without the way from rows to columns -/
structure PDn (T : Int → List Int) (done : List Int) (kept : List Int) (O : PF) : Prop where
  inj : ∀ c c' x, O c = some x → O c' = some x → c = c'
  ed : ∀ c x, O c = some x → c ∈ T x
  kp : ∀ x, (∃ c, O c = some x) ↔ x ∈ kept
  sub : ∀ x ∈ kept, x ∈ done
  cl : ∃ D : Int → Prop, Closed T O D ∧ ∀ r ∈ done, r ∈ kept ∨ ∀ c ∈ T r, D c
theorem PDn.nil {T : Int → List Int} : PDn T [] [] (fun _ => none) where
  inj := fun _ _ _ h => (by cases h)
  ed := fun _ _ h => (by cases h)
  kp := fun x => ⟨fun ⟨_, h⟩ => (by cases h), fun h => (by cases h)⟩
  sub := fun _ h => (by cases h)
  cl := ⟨fun _ => False, fun _ h => h.elim, fun _ h => (by cases h)⟩
theorem PDn.pre {T : Int → List Int} {done kept : List Int} {O : PF} {r : Int} (p : PDn T done kept O) (hr : r ∉ done) : GPre T O [] r :=
  ⟨fun c _ e => hr (p.sub r ((p.kp r).mp ⟨c, e⟩)), fun c c' x _ _ => p.inj c c' x, fun c x _ => p.ed c x⟩
theorem PDn.yes {T : Int → List Int} {done kept : List Int} {O O' : PF} {r : Int} (p : PDn T done kept O) (hr : r ∉ done) (y : GYes T O [] r O') : PDn T (done ++ [r]) (kept ++ [r]) O' where
  inj := fun c c' x => y.inj c c' x (by simp) (by simp)
  ed := fun c x => y.ed c x (by simp)
  kp := fun x => by
    have h := y.rows x
    simp only [List.not_mem_nil, not_false_eq_true, true_and] at h
    rw [h, p.kp, List.mem_append, List.mem_singleton, or_comm]
  sub := fun x hx => by
    rcases List.mem_append.mp hx with h | h
    · exact List.mem_append_left _ (p.sub x h)
    · exact List.mem_append_right _ h
  cl := by
    obtain ⟨D, h1, h2⟩ := p.cl
    have h3 := (y.d D h1).2
    refine ⟨D, fun c hc => ?_, fun x hx => ?_⟩
    · obtain ⟨z, e, h⟩ := h1 c hc
      exact ⟨z, by rw [h3 c hc]; exact e, h⟩
    · rcases List.mem_append.mp hx with h | h
      · rcases h2 x h with h | h
        · exact .inl (List.mem_append_left _ h)
        · exact .inr h
      · exact .inl (List.mem_append_right _ h)
theorem PDn.no {T : Int → List Int} {done kept tr' : List Int} {O : PF} {r : Int} (p : PDn T done kept O) (g : GNo T O [] (T r) tr') : PDn T (done ++ [r]) kept O where
  inj := p.inj
  ed := p.ed
  kp := p.kp
  sub := fun x hx => List.mem_append_left _ (p.sub x hx)
  cl := by
    obtain ⟨D, h1, h2⟩ := p.cl
    refine ⟨fun c => D c ∨ c ∈ tr', fun c hc => ?_, fun x hx => ?_⟩
    · rcases hc with hc | hc
      · obtain ⟨z, e, h⟩ := h1 c hc
        exact ⟨z, e, fun c' hc' => .inl (h c' hc')⟩
      · rcases g.cl c hc with h | ⟨z, e, h⟩
        · cases h
        · exact ⟨z, e, fun c' hc' => .inr (h c' hc')⟩
    · rcases List.mem_append.mp hx with h | h
      · rcases h2 x h with h | h
        · exact .inl h
        · exact .inr fun c hc => .inl (h c hc)
      · rw [List.mem_singleton.mp h]
        exact .inr fun c hc => .inr (g.all c hc)
open Classical in
/-- all rows done: as many as were kept -/
theorem pd_mx {T : Int → List Int} {rows kept : List Int} {C : Nat} {own : List (Int × Int)} (p : PDn T rows kept (lk own)) (ndr : rows.Nodup) (ndk : kept.Nodup) (hT : ∀ r ∈ rows, ∀ c ∈ T r, 0 ≤ c ∧ c < C) : Mx (fun i j => decide (j ∈ T i)) rows (upto C) kept.length := by
  have hk : ∀ x, ∃ c : Int, x ∈ kept → lk own c = some x := fun x => by
    by_cases h : x ∈ kept
    · obtain ⟨c, e⟩ := (p.kp x).mpr h
      exact ⟨c, fun _ => e⟩
    · exact ⟨0, fun h' => absurd h' h⟩
  let col : Int → Int := fun x => Classical.choose (hk x)
  have hcol : ∀ x ∈ kept, lk own (col x) = some x := fun x hx => Classical.choose_spec (hk x) hx
  let held : List (Int × Int) := kept.map fun x => (x, col x)
  have hf : held.map (·.1) = kept := by
    show (kept.map fun x => (x, col x)).map (·.1) = kept
    rw [List.map_map]
    exact List.map_id _
  have ndh : (held.map (·.1)).Nodup := by rw [hf]; exact ndk
  have hm : ∀ r c, lk held r = some c ↔ r ∈ kept ∧ c = col r := fun r c => by
    constructor
    · intro h
      obtain ⟨x, hx, e⟩ := List.mem_map.mp (lk_some h)
      cases e
      exact ⟨hx, rfl⟩
    · rintro ⟨h, rfl⟩
      exact lk_mem ndh (List.mem_map.mpr ⟨r, h, rfl⟩)
  have P : PI T rows (lk own) (lk held) := by
    refine ⟨⟨fun c r h => ?_, fun r c h => ?_, p.ed⟩, fun r c h => p.sub r ((hm r c).mp h).1, ?_⟩
    · have hr : r ∈ kept := (p.kp r).mp ⟨c, h⟩
      exact (hm r c).mpr ⟨hr, p.inj c (col r) r h (hcol r hr)⟩
    · obtain ⟨h1, h2⟩ := (hm r c).mp h
      rw [h2]
      exact hcol r h1
    · obtain ⟨D, h1, h2⟩ := p.cl
      refine ⟨D, h1, fun r hr => ?_⟩
      rcases h2 r hr with h | h
      · exact .inl ⟨col r, (hm r _).mpr ⟨h, rfl⟩⟩
      · exact .inr h
  have := pi_mx P ndr ndh hT
  rwa [show held.length = kept.length from List.length_map _] at this
end Sw
/-! Walks: matchings. -/
namespace Sw
open PySem PySem.Spec L2
def encP (l : List (Int × Int)) : List (Int × Dat) := l.map fun p => (p.1, .int p.2)
theorem lookD_enc (l : List (Int × Int)) (k : Int) : lookD (encP l) k = (lk l k).map Dat.int := by
  induction l with
  | nil => rfl
  | cons p l ih =>
    rw [lk_cons]
    unfold encP lookD at ih ⊢
    rw [List.map_cons, List.find?_cons]
    by_cases e : p.1 = k
    · simp [e]
    · simp only [e, decide_false, if_false]
      exact ih
theorem putD_enc (l : List (Int × Int)) (k v : Int) : putD (encP l) k (.int v) = encP (pu l k v) := by
  unfold putD pu
  have h1 : ((encP l).any fun p => decide (p.1 = k)) = l.any fun p => decide (p.1 = k) := by
    unfold encP
    rw [List.any_map]
    rfl
  rw [h1]
  split
  · unfold encP
    rw [List.map_map, List.map_map]
    refine List.map_congr_left fun p _ => ?_
    show (if p.1 = k then (p.1, Dat.int v) else (p.1, Dat.int p.2)) = _
    by_cases e : p.1 = k <;> simp [e]
  · unfold encP
    rw [List.map_append]
    rfl
theorem encP_len (l : List (Int × Int)) : (encP l).length = l.length := by simp [encP]
/-- keys told apart, below 1000 -/
structure KB (l : List (Int × Int)) : Prop where
  nd : (l.map (·.1)).Nodup
  rg : ∀ p ∈ l, 0 ≤ p.1 ∧ p.1 < 1000
theorem KB.nil : KB [] := ⟨List.nodup_nil, fun _ h => nomatch h⟩
theorem KB.pu {l : List (Int × Int)} (h : KB l) {k v : Int} (hk : 0 ≤ k ∧ k < 1000) : KB (Sw.pu l k v) := ⟨pu_nodup h.nd, fun p hp => by
  have hm : p.1 ∈ (Sw.pu l k v).map (·.1) := List.mem_map.mpr ⟨p, hp, rfl⟩
  rw [pu_keys] at hm
  have old : ∀ x ∈ l.map (·.1), 0 ≤ x ∧ x < 1000 := fun x hx => by
    obtain ⟨q, hq, rfl⟩ := List.mem_map.mp hx
    exact h.rg q hq
  split at hm
  · exact old _ hm
  · rcases List.mem_append.mp hm with hm | hm
    · exact old _ hm
    · rw [List.mem_singleton.mp hm]
      exact hk⟩
theorem KB.few {l : List (Int × Int)} (h : KB l) : l.length ≤ 1000 := few_of h.nd h.rg
theorem KB.hl {l : List (Int × Int)} (h : KB l) : ∀ kvs, MO.dI (encP l) = .dI kvs → kvs.length < 100000 := fun kvs e => by
  cases e
  rw [encP_len]
  have := h.few
  omega
theorem noT {l : List (Int × Dat)} : ∀ kvs, MO.dI l = .dT kvs → kvs.length < 100000 := fun _ e => nomatch e
section
variable {P : Program} {w : World} {K : PySem.W.Frag} {mg : Str → Option Value} {base : Heap} {C : Addr}
def gLed (wt cm h o : Addr) (ws : List Dat) (came held own : List (Int × Int)) : Led := [(wt, .lst ws), (cm, .dI (encP came)), (h, .dI (encP held)), (o, .dI (encP own))]
theorem dic_at {O : Led} {p : Addr} {l : List (Int × Int)} {k : Int} {o : Option Int} (hm : (p, MO.dI (encP l)) ∈ O) (h : lk l k = o) : DicD O (.loc p) (.int k) (o.map Dat.int) := by
  rw [← h, ← lookD_enc]
  exact .loc hm (.i _ _)
theorem put_at {l : List (Int × Int)} {k v : Int} : DkP (.dI (encP l)) (.int k) (.int v) (.dI (encP (pu l k v))) := by
  rw [← putD_enc]
  exact .i _ _ _
theorem sc_give : FnScope ["own", "held", "came", "other", "here", "before"] ["own", "held", "came", "other"] (defScope s_give) := ⟨rfl, rfl, rfl, by decide +kernel, rfl, by decide +kernel, by decide +kernel⟩
def r_give (ds : List Dat) (O : Led) (post : Dat → Led → Prop) : Prop := ∃ (wt cm h o : Addr) (ws : List Dat) (came held own pre : List (Int × Int)) (T : Int → List Int) (start c here : Int) (done : List Int),
  ds = [.loc o, .loc h, .loc cm, .int c] ∧ O = gLed wt cm h o ws came held own ∧ KB came ∧ KB held ∧ KB own ∧ Tree T (lk own) start came ∧ PI T done (lk own) (lk held) ∧ lk held start = none ∧ came = pre ++ [(c, here)] ∧ lk own c = none ∧
  (∀ p ∈ came, 0 ≤ p.2 ∧ p.2 < 1000) ∧
  post = fun d O' => d = .non ∧ ∃ own' held', O' = gLed wt cm h o ws came held' own' ∧ PI T (done ++ [start]) (lk own') (lk held') ∧ KB own' ∧ KB held'
abbrev GSt := List (Int × Int) × List (Int × Int) × Option (List (Int × Int) × Int × Int)
def gI (T : Int → List Int) (O0 Hd0 : PF) (D : Int → Prop) (start : Int) (came : List (Int × Int)) (done : List Int) : GSt → Prop
  | (own, held, some (pre, c, here)) => (∃ post, came = pre ++ (c, here) :: post) ∧ GI T O0 Hd0 D start pre c (lk own) (lk held) ∧ KB own ∧ KB held
  | (own, held, none) => PI T (done ++ [start]) (lk own) (lk held) ∧ KB own ∧ KB held
def gOth : GSt → Dat
  | (_, _, some (_, c, _)) => .int c
  | (_, _, none) => .non
def gM : GSt → Nat
  | (_, _, some (pre, _, _)) => pre.length + 1
  | (_, _, none) => 0
theorem cal_give (D : Dfn K mg "give" s_give) : Cal P w K mg base 1 "give" ["own", "held", "came", "other"] (spL K C r_give) := by
  refine cal_def D sc_give (fun ds O post ⟨_, _, _, _, _, _, _, _, _, _, _, _, _, _, h, _⟩ => by rw [h]; rfl) (fun _ _ _ _ _ _ us hl => match us, hl with | [_, _, _, _], _ => rfl) fun f cdv A outer s0 H E0 hr F O ds post h ok0 => ?_
  have nd := sc_give.nd
  obtain ⟨wt, cm, h, o, ws, came, held, own, pre, T, start, c, here, done, rfl, rfl, kc, kh, ko, tr, PP, hs, hpre, hc, hrow, rfl⟩ := h
  obtain ⟨Dc, hD, hcl⟩ := PP.cl
  have mem1 : ∀ (held own : List (Int × Int)), (cm, MO.dI (encP came)) ∈ gLed wt cm h o ws came held own := fun _ _ => by simp [gLed]
  have mem2 : ∀ (held own : List (Int × Int)), (h, MO.dI (encP held)) ∈ gLed wt cm h o ws came held own := fun _ _ => by simp [gLed]
  have mem3 : ∀ (held own : List (Int × Int)), (o, MO.dI (encP own)) ∈ gLed wt cm h o ws came held own := fun _ _ => by simp [gLed]
  refine sds_ifN (bd_conv (bd_din (x := .loc o) (key := .int c) hr.units (ed_var 3) (ed_var 0) (dic_at (mem3 _ _) hc)) (by rfl)) ?_
  refine sds_while (gI T (lk own) (lk held) Dc start came done) gM (fun a => [some (.loc o), some (.loc h), some (.loc cm), some (gOth a), none, none]) (fun a => gLed wt cm h o ws came a.2.1 a.1) (fun a => a.2.2.isSome) (own, held, some (pre, c, here)) ⟨⟨[], hpre⟩, ?_, ko, kh⟩ (by repeat (first | exact trivial | refine And.intro rfl ?_)) rfl (fun a ha => bd_conv (bd_cmp (ed_var 3) ed_non c_notN) ?_) (fun a ha hk => ?_) (fun a ha hk => ?_)
  · have g := gi_start (D := Dc) (came := came) PP.p hs hc hD
    exact ⟨g.o, g.h, g.e, g.st, g.rows, fun c' hc' => rfl, g.d, g.dd⟩
  · obtain ⟨ow, hd, oth⟩ := a
    cases oth with
    | none => rfl
    | some y => rfl
  · obtain ⟨ow, hd, oth⟩ := a
    cases oth with
    | none => cases hk
    | some y =>
      obtain ⟨pre1, c1, here1⟩ := y
      obtain ⟨⟨post1, e1⟩, g, kow, khd⟩ := ha
      have hlk : lk came c1 = some here1 := lk_mem kc.nd (by rw [e1]; simp)
      have ndk := kc.nd
      rw [e1, List.map_append, List.map_cons] at ndk
      have ndp := (List.nodup_append.mp ndk).1
      have nc1 : c1 ∉ pre1.map (·.1) := fun m => (List.nodup_append.mp ndk).2.2 _ m _ List.mem_cons_self rfl
      obtain ⟨tT, tH⟩ := tr pre1 c1 here1 post1 e1
      have hc1 := kc.rg (c1, here1) (by rw [e1]; simp)
      have hh1 := hrow (c1, here1) (by rw [e1]; simp)
      refine sds_set (i := 4) nd (ed_dget (d := .int here1) hr.units (ed_var 2) (ed_var 3) (dic_at (mem1 _ _) hlk)) ?_
      by_cases hst : here1 = start
      · subst hst
        refine sds_set (i := 5) nd (ed_dget2 hr.units (ed_var 1) (ed_var 4) ed_non (dic_at (mem2 _ _) g.st)) ?_
        refine sds_dput [(wt, .lst ws), (cm, .dI (encP came)), (h, .dI (encP hd))] [] hr.units (ed_var 4) (ed_var 0) (ed_var 3) put_at kow.hl noT ?_
        refine sds_dput [(wt, .lst ws), (cm, .dI (encP came))] [(o, .dI (encP (pu ow c1 here1)))] hr.units (ed_var 3) (ed_var 1) (ed_var 4) put_at khd.hl noT ?_
        refine sds_set (i := 3) nd (ed_var 5) ?_
        refine sds_end (ds' := [some (.loc o), some (.loc h), some (.loc cm), some .non, none, none]) (fun σ H hh => ⟨(pu ow c1 here1, pu hd here1 c1, none), Nat.succ_pos _, ⟨?_, kow.pu hc1, khd.pu hh1⟩, hh⟩) (by repeat (first | exact trivial | refine And.intro rfl ?_))
        rw [lk_upF, lk_upF]
        exact gi_end g tT hD PP.dn hcl
      · obtain ⟨c2, m2, o2⟩ := tH.resolve_left hst
        obtain ⟨q, hq, rfl⟩ := List.mem_map.mp m2
        obtain ⟨pre2, post2, e2⟩ := List.append_of_mem hq
        obtain ⟨c2, here2⟩ := q
        obtain ⟨hb, g2⟩ := gi_step g ndp nc1 tT e2 o2 hst hD
        refine sds_set (i := 5) nd (ed_dget2 hr.units (ed_var 1) (ed_var 4) ed_non (dic_at (mem2 _ _) hb)) ?_
        refine sds_dput [(wt, .lst ws), (cm, .dI (encP came)), (h, .dI (encP hd))] [] hr.units (ed_var 4) (ed_var 0) (ed_var 3) put_at kow.hl noT ?_
        refine sds_dput [(wt, .lst ws), (cm, .dI (encP came))] [(o, .dI (encP (pu ow c1 here1)))] hr.units (ed_var 3) (ed_var 1) (ed_var 4) put_at khd.hl noT ?_
        refine sds_set (i := 3) nd (ed_var 5) ?_
        refine sds_end (ds' := [some (.loc o), some (.loc h), some (.loc cm), some (.int c2), none, none]) (fun σ H hh => ⟨(pu ow c1 here1, pu hd here1 c1, some (pre2, c2, here2)), ?_, ⟨⟨post2 ++ (c1, here1) :: post1, ?_⟩, ?_, kow.pu hc1, khd.pu hh1⟩, hh⟩) (by repeat (first | exact trivial | refine And.intro rfl ?_))
        · show pre2.length + 1 < pre1.length + 1
          rw [e2, List.length_append, List.length_cons]
          omega
        · rw [e1, e2]
          simp
        · rw [lk_upF, lk_upF]
          exact g2
  · obtain ⟨ow, hd, oth⟩ := a
    cases oth with
    | some y => cases hk
    | none => exact sds_fall ⟨rfl, ow, hd, rfl, ha.1, ha.2.1, ha.2.2⟩
/-- an entry that is wanted no more -/
theorem sds_drop {X : Cx} {ds : Dsl} {O : Led} {E : En} {D : Ends} {x : Addr × MO} {st : List Stmt} (h : SDs X (At X C E ds O) st D) : SDs X (At X C E ds (x :: O)) st D :=
  h.imp fun σ H ⟨F, p⟩ => ⟨F, p.g, fun e he => p.dm e (List.mem_cons_of_mem _ he), p.ok.tail, p.env⟩
theorem sds_ifT {X : Cx} {ds : Dsl} {O O' : Led} {E : En} {D : Ends} {c : Expr} {body orelse rest : List Stmt} {pos : Pos} (hc : BD X C ds O c true O') (h1 : SDs X (At X C E ds O') body { D with nx := fun _ _ => False }) : SDs X (At X C E ds O) (.If c body orelse pos :: rest) D :=
  sds_if (M1 := fun _ _ => False) (M2 := fun _ _ => False) hc (fun _ => h1) (fun _ σ H m => m.elim) (fun h => nomatch h) (fun h => nomatch h)
theorem sc_extend : FnScope ["links", "own", "held", "start", "kept", "came", "waiting", "here", "other"] ["links", "own", "held", "start", "kept"] (defScope s_extend) := ⟨rfl, rfl, rfl, by decide +kernel, rfl, by decide +kernel, by decide +kernel⟩
def eLed (h o : Addr) (held own : List (Int × Int)) : Led := [(h, .dI (encP held)), (o, .dI (encP own))]
def r_extend (ds : List Dat) (O : Led) (post : Dat → Led → Prop) : Prop := ∃ (h o : Addr) (held own : List (Int × Int)) (table : List (List Int)) (rows : List Int) (cols : Nat) (start : Int) (done : List Int),
  ds = [encL (encL .int) table, .loc o, .loc h, .int start, encL .int rows] ∧ O = eLed h o held own ∧ KB held ∧ KB own ∧ TabOk table cols ∧ RowsOk table.length rows ∧ PI (rowT table) done (lk own) (lk held) ∧ (∀ r ∈ done, r ∈ rows) ∧ start ∈ rows ∧ start ∉ done ∧
  post = fun d O' => ∃ own' held', O' = eLed h o held' own' ∧ PI (rowT table) (done ++ [start]) (lk own') (lk held') ∧ KB own' ∧ KB held'
abbrev ESt := List Int × List (Int × Int)
structure EI (T : Int → List Int) (O : PF) (start : Int) (rows : List Int) (a : ESt) : Prop where
  b : BO T O start a.2 a.1
  k : KB a.2
  r : ∀ p ∈ a.2, 0 ≤ p.2 ∧ p.2 < 1000
  w : ∀ r ∈ a.1, r ∈ rows
  f : a.1.length + (1000 - a.2.length) ≤ 2000
def eM (a : ESt) : Nat := a.1.length + (1000 - a.2.length)
structure EJ (T : Int → List Int) (O : PF) (start x : Int) (rows pre : List Int) (m : Nat) (st : List (Int × Int) × List Int) : Prop where
  b : BI T O start st.1 st.2 x pre
  k : KB st.1
  r : ∀ p ∈ st.1, 0 ≤ p.2 ∧ p.2 < 1000
  w : ∀ r ∈ st.2, r ∈ rows
  m : st.2.length + (1000 - st.1.length) ≤ m
theorem cal_extend (D : Dfn K mg "extend" s_extend) (h_give : Cal P w K mg base 1 "give" ["own", "held", "came", "other"] (spL K C r_give)) : Cal P w K mg base 2 "extend" ["links", "own", "held", "start", "kept"] (spL K C r_extend) := by
  refine cal_def D sc_extend (fun ds O post ⟨_, _, _, _, _, _, _, _, _, h, _⟩ => by rw [h]; rfl) (fun _ _ _ _ _ _ us hl => match us, hl with | [_, _, _, _, _], _ => rfl) fun f cdv A outer s0 H E0 hr F O ds post h ok0 => ?_
  have nd := sc_extend.nd
  obtain ⟨h, o, held, own, table, rows, cols, start, done, rfl, rfl, kh, ko, tok, rok, PP, hdone, hstart, hnd, rfl⟩ := h
  have hT : ∀ r ∈ rows, ∀ c ∈ rowT table r, 0 ≤ c ∧ c < 1000 := fun r hr c hc => by
    have h1 := rok.rg r hr
    have h2 : rowT table r ∈ table := by
      unfold rowT
      rw [List.getD_eq_getElem?_getD, List.getElem?_eq_getElem (show r.toNat < table.length by omega)]
      exact List.getElem_mem _
    have h3 := tok.rg _ h2 c hc
    have h4 := tok.cols
    omega
  have hR : ∀ r ∈ rows, 0 ≤ r ∧ r < 1000 := fun r hr => by
    have h1 := rok.rg r hr
    have h4 := tok.few
    omega
  have hs0 : lk held start = none := by
    cases q : lk held start with
    | none => rfl
    | some c => exact absurd (PP.dn _ _ q) hnd
  refine sds_newD 5 (.dI []) nd fun cm => ?_
  refine sds_newLs (i := 6) nd (ad_cons (ed_var 3) ad_nil) (by exact Nat.le_of_ble_eq_true rfl) fun wt => ?_
  refine sds_while (EI (rowT table) (lk own) start rows) eM (fun a => [some (encL (encL .int) table), some (.loc o), some (.loc h), some (.int start), some (encL .int rows), some (.loc cm), some (.loc wt), none, none]) (fun a => gLed wt cm h o (a.1.map .int) a.2 held own) (fun a => !(a.1.map Dat.int).isEmpty) ([start], []) ⟨bo_start, KB.nil, (fun _ z => nomatch z), fun r hr => by rw [List.mem_singleton.mp hr]; exact hstart, by exact Nat.le_of_ble_eq_true rfl⟩ (by repeat (first | exact trivial | refine And.intro rfl ?_)) rfl (fun a ha => bd_lst (ed_var 6) (LstD.loc List.mem_cons_self)) (fun a ha hk => ?_) (fun a ha hk => ?_)
  · obtain ⟨ws, came⟩ := a
    cases ws with
    | nil => cases hk
    | cons x ws =>
      have hx : x ∈ rows := ha.w x List.mem_cons_self
      have hxr := rok.rg x hx
      have hx1 := hR x hx
      have hix : (table.map (encL Dat.int))[x.toNat]? = some (Dat.lst ((rowT table x).map Dat.int)) := by
        rw [List.getElem?_map]
        unfold rowT
        rw [List.getD_eq_getElem?_getD, List.getElem?_eq_getElem (show x.toNat < table.length by omega)]
        rfl
      refine sds_set (i := 7) nd (ed_pop0 [] [(cm, .dI (encP came)), (h, .dI (encP held)), (o, .dI (encP own))] (ed_var 6) (ad_cons ed_int ad_nil)) ?_
      refine sds_for (rowT table x) .int (sh1 8) (fun pre => EJ (rowT table) (lk own) start x rows pre (ws.length + (1000 - came.length)) (bfsF (lk own) x (came, ws) pre)) (fun pre => [some (encL (encL .int) table), some (.loc o), some (.loc h), some (.int start), some (encL .int rows), some (.loc cm), some (.loc wt), some (.int x), none]) (fun pre => gLed wt cm h o ((bfsF (lk own) x (came, ws) pre).2.map .int) (bfsF (lk own) x (came, ws) pre).1 held own) (it_list (ed_ixLi (ed_var 0) (ed_var 7) (LstD.lst _) hx1.1 hix)) (gt_name 8 nd) ⟨ha.b.pop, ha.k, ha.r, fun r hr => ha.w r (List.mem_cons_of_mem _ hr), Nat.le_refl _⟩ (by repeat (first | exact trivial | refine And.intro rfl ?_)) rfl (fun pre a post hL hI E1 => ⟨_, rfl, ?_⟩) (fun hI => ?_)
      · have haT : a ∈ rowT table x := by rw [hL]; simp
        have ha1 := hT x hx a haT
        have est := bfsF_snoc (lk own) x (came, ws) pre a
        generalize bfsF (lk own) x (came, ws) pre = st at hI est ⊢
        obtain ⟨cm1, ws1⟩ := st
        obtain ⟨jb, jk, jr, jw, jm⟩ := hI
        cases hlk : lk cm1 a with
        | some v =>
          have hm : a ∈ cm1.map (·.1) := lk_isSome.mp (by rw [hlk]; rfl)
          have e2 : bfsS (lk own) x (cm1, ws1) a = (cm1, ws1) := if_pos (by rw [hlk]; rfl)
          rw [est, e2]
          refine sds_ifN (bd_conv (bd_dnin (x := .loc cm) (key := .int a) hr.units (ed_var 8) (ed_var 5) (dic_at (l := cm1) (by simp [gLed]) hlk)) (by rfl)) ?_
          exact sds_end (fun _ _ hh => ⟨⟨jb.old hm, jk, jr, jw, jm⟩, hh⟩) (by repeat (first | exact trivial | refine And.intro rfl ?_))
        | none =>
          have hm : a ∉ cm1.map (·.1) := fun m => by
            have := lk_isSome.mpr m
            rw [hlk] at this
            cases this
          have kb1 : KB (cm1 ++ [(a, x)]) := by rw [← pu_new hlk]; exact jk.pu ha1
          have jr1 : ∀ p ∈ cm1 ++ [(a, x)], 0 ≤ p.2 ∧ p.2 < 1000 := fun p hp => by
            rcases List.mem_append.mp hp with hp | hp
            · exact jr p hp
            · rw [List.mem_singleton.mp hp]; exact hx1
          cases ho : lk own a with
          | none =>
            refine sds_ifT (bd_conv (bd_dnin (x := .loc cm) (key := .int a) hr.units (ed_var 8) (ed_var 5) (dic_at (l := cm1) (by simp [gLed]) hlk)) (by rfl)) ?_
            refine sds_dput [(wt, .lst (ws1.map .int))] [(h, .dI (encP held)), (o, .dI (encP own))] hr.units (ed_var 7) (ed_var 5) (ed_var 8) put_at jk.hl noT ?_
            rw [pu_new hlk]
            refine sds_ifT (bd_conv (BW.bd (bw_or (k := true) (k' := false) (bd_conv (bd_dnin (x := .loc o) (key := .int a) hr.units (ed_var 8) (ed_var 1) (dic_at (l := own) (by simp) ho)) (by rfl)) (fun z => nomatch z))) (by rfl)) ?_
            refine sds_exprL (edl_call h_give (hr.mono (by decide)) (ad_cons (ed_var 1) (ad_cons (ed_var 2) (ad_cons (ed_var 5) (ad_cons (ed_var 8) ad_nil)))) ⟨wt, cm, h, o, ws1.map .int, cm1 ++ [(a, x)], held, own, cm1, rowT table, start, a, x, done, rfl, rfl, kb1, kh, ko, tree_snoc jb.tree haT jb.hr, PP, hs0, rfl, ho, jr1, rfl⟩ (fun d O' ⟨_, own', held', e, _⟩ => by rw [e]; rfl)) fun d O' ⟨_, own', held', e, P2, k1, k2⟩ => ?_
            subst e
            refine sds_drop (sds_drop (sds_ret (post := fun d O' => ∃ own' held', O' = eLed h o held' own' ∧ PI (rowT table) (done ++ [start]) (lk own') (lk held') ∧ KB own' ∧ KB held') ed_bl ⟨own', held', rfl, P2, k1, k2⟩))
          | some r =>
            have hrr : r ∈ rows := hdone r (PP.dn r a (PP.p.a a r ho))
            have e2 : bfsS (lk own) x (cm1, ws1) a = (cm1 ++ [(a, x)], ws1 ++ [r]) := by
              unfold bfsS
              rw [if_neg (by rw [hlk]; exact fun z => nomatch z), ho]
              rfl
            rw [est, e2]
            have c1 := kb1.few
            rw [List.length_append, List.length_singleton] at c1
            dsimp only at jm
            refine sds_ifJ [some (encL (encL .int) table), some (.loc o), some (.loc h), some (.int start), some (encL .int rows), some (.loc cm), some (.loc wt), some (.int x), none] (gLed wt cm h o ((ws1 ++ [r]).map .int) (cm1 ++ [(a, x)]) held own) (k := true) (bd_conv (bd_dnin (x := .loc cm) (key := .int a) hr.units (ed_var 8) (ed_var 5) (dic_at (l := cm1) (by simp [gLed]) hlk)) (by rfl)) (fun _ => ?_) (fun z => nomatch z) ?_
            · refine sds_dput [(wt, .lst (ws1.map .int))] [(h, .dI (encP held)), (o, .dI (encP own))] hr.units (ed_var 7) (ed_var 5) (ed_var 8) put_at jk.hl noT ?_
              rw [pu_new hlk]
              refine sds_ifN (bd_conv (BW.bd (bw_or (bd_conv (k' := false) (bd_dnin (x := .loc o) (key := .int a) hr.units (ed_var 8) (ed_var 1) (dic_at (l := own) (by simp) ho)) (by rfl)) (fun _ => bw_or1 (bd_cmp (ed_dget (d := .int r) hr.units (ed_var 1) (ed_var 8) (dic_at (l := own) (by simp) ho)) (ed_var 4) (c_ninD (enc := .int) (a := r) (xs := rows) eqc_int (LstD.lst _) (hu65 hr)))))) (by simp [hrr])) ?_
              refine sds_expr (ed_append [] [(cm, .dI (encP (cm1 ++ [(a, x)]))), (h, .dI (encP held)), (o, .dI (encP own))] (ed_var 6) (ad_cons (ed_dget (d := .int r) hr.units (ed_var 1) (ed_var 8) (dic_at (l := own) (by simp) ho)) ad_nil) (by
                rw [List.length_map]
                have := ha.f
                simp only [List.length_cons] at this
                omega)) ?_
              exact sds_end (fun _ _ hh => hh) (by repeat (first | exact trivial | refine And.intro rfl ?_)) (by simp [gLed])
            · refine sds_end (fun _ _ hh => ⟨⟨jb.new hm haT ho, kb1, jr1, fun z hz => ?_, ?_⟩, hh⟩) (by repeat (first | exact trivial | refine And.intro rfl ?_))
              · rcases List.mem_append.mp hz with hz | hz
                · exact jw z hz
                · rw [List.mem_singleton.mp hz]; exact hrr
              · simp only [List.length_append, List.length_singleton]
                omega
      · refine sds_end (fun _ _ hh => ⟨((bfsF (lk own) x (came, ws) (rowT table x)).2, (bfsF (lk own) x (came, ws) (rowT table x)).1), ?_, ⟨hI.b.out, hI.k, hI.r, hI.w, ?_⟩, hh⟩) (by repeat (first | exact trivial | refine And.intro rfl ?_))
        · have := hI.m
          unfold eM
          simp only [List.length_cons]
          omega
        · have h1 := hI.m
          have h2 := ha.f
          simp only [List.length_cons] at h2
          dsimp only
          omega
  · obtain ⟨ws, came⟩ := a
    cases ws with
    | cons x ws => cases hk
    | nil =>
      refine sds_drop (sds_drop (sds_ret (post := fun d O' => ∃ own' held', O' = eLed h o held' own' ∧ PI (rowT table) (done ++ [start]) (lk own') (lk held') ∧ KB own' ∧ KB held') ed_bl ⟨own, held, rfl, bo_end ha.b PP, ko, kh⟩))
theorem sc_covering : FnScope ["table", "rows", "own", "held", "row"] ["table", "rows"] (defScope s_covering) := ⟨rfl, rfl, rfl, by decide +kernel, rfl, by decide +kernel, by decide +kernel⟩
def r_covering (ds : List Dat) (O : Led) (post : Dat → Led → Prop) : Prop := ∃ (table : List (List Int)) (rows : List Int) (c : Nat), ds = [encL (encL .int) table, encL .int rows] ∧ O = [] ∧ TabOk table c ∧ RowsOk table.length rows ∧
  post = fun d O' => O' = [] ∧ ∃ x ks vs, d = .tup [x, .dic ks vs] ∧ vs.length = matM table rows c
theorem cal_covering (D : Dfn K mg "covering" s_covering) (h_extend : Cal P w K mg base 2 "extend" ["links", "own", "held", "start", "kept"] (spL K C r_extend)) : Cal P w K mg base 3 "covering" ["table", "rows"] (spL K C r_covering) := by
  refine cal_def D sc_covering (fun ds O post ⟨_, _, _, h, _⟩ => by rw [h]; rfl) (fun _ _ _ _ _ _ us hl => match us, hl with | [_, _], _ => rfl) fun f cdv A outer s0 H E0 hr F O ds post h ok0 => ?_
  have nd := sc_covering.nd
  obtain ⟨table, rows, cols, rfl, rfl, tok, rok, rfl⟩ := h
  refine sds_newD 2 (.dI []) nd fun o => ?_
  refine sds_newD 3 (.dI []) nd fun h => ?_
  refine sds_forS rows .int (sh1 4) (fun pre (b : List (Int × Int) × List (Int × Int)) => PI (rowT table) pre (lk b.1) (lk b.2) ∧ KB b.1 ∧ KB b.2) (fun b => [some (encL (encL .int) table), some (encL .int rows), some (.loc o), some (.loc h), none]) (fun b => eLed h o b.2 b.1) ([], []) (it_list (ed_var 1)) (gt_name 4 nd) ⟨pi_nil, KB.nil, KB.nil⟩ (by repeat (first | exact trivial | refine And.intro rfl ?_)) rfl (fun pre a post hL b hI E1 => ⟨_, rfl, ?_⟩) (fun b hI => ?_)
  · obtain ⟨own, held⟩ := b
    obtain ⟨PP, ko, kh⟩ := hI
    have hnd := rok.nd
    rw [hL] at hnd
    have h1 : a ∉ pre := fun m => (List.nodup_append.mp hnd).2.2 _ m _ List.mem_cons_self rfl
    refine sds_exprL (edl_call h_extend (hr.mono (by decide)) (ad_cons (ed_var 0) (ad_cons (ed_var 2) (ad_cons (ed_var 3) (ad_cons (ed_var 4) (ad_cons (ed_var 1) ad_nil))))) ⟨h, o, held, own, table, rows, cols, a, pre, rfl, rfl, kh, ko, tok, rok, PP, fun r hr => by rw [hL]; exact List.mem_append_left _ hr, by rw [hL]; simp, h1, rfl⟩ (fun d O' ⟨own', held', e, _⟩ => by rw [e]; rfl)) fun d O' ⟨own', held', e, P2, k1, k2⟩ => ?_
    subst e
    exact sds_end (fun _ _ hh => ⟨(own', held'), ⟨P2, k1, k2⟩, hh⟩) (by repeat (first | exact trivial | refine And.intro rfl ?_))
  · obtain ⟨own, held⟩ := b
    obtain ⟨PP, ko, kh⟩ := hI
    refine sds_freezeD 3 (.dic ((encP held).map (·.1)) ((encP held).map (·.2))) (.inl ⟨_, rfl, rfl⟩) List.not_mem_nil ?_
    refine sds_freezeD 2 (.dic ((encP own).map (·.1)) ((encP own).map (·.2))) (.inl ⟨_, rfl, rfl⟩) List.not_mem_nil ?_
    refine sds_ret (post := fun d O' => O' = [] ∧ ∃ x ks vs, d = .tup [x, .dic ks vs] ∧ vs.length = matM table rows cols) (ed_tup (ad_cons (ed_var 2) (ad_cons (ed_var 3) ad_nil))) ⟨rfl, _, _, _, rfl, ?_⟩
    rw [List.length_map, encP_len]
    have hT : ∀ r ∈ rows, ∀ c ∈ rowT table r, 0 ≤ c ∧ c < cols := fun r hr c hc => by
      have h1 := rok.rg r hr
      have h2 : rowT table r ∈ table := by
        unfold rowT
        rw [List.getD_eq_getElem?_getD, List.getElem?_eq_getElem (show r.toNat < table.length by omega)]
        exact List.getElem_mem _
      exact tok.rg _ h2 c hc
    exact (mxN_eq (pi_mx PP rok.nd kh.nd hT)).symm
theorem sc_most : FnScope ["table", "rows"] ["table", "rows"] (defScope s_most) := ⟨rfl, rfl, rfl, by decide +kernel, rfl, by decide +kernel, by decide +kernel⟩
theorem cal_most (D : Dfn K mg "most" s_most) (T : Tx mg) (h_covering : Cal P w K mg base 3 "covering" ["table", "rows"] (spL K C r_covering)) : Cal P w K mg base 6 "most" ["table", "rows"] (spP K C r_most) := by
  refine cal_pure (k := 5) D sc_most (fun ds d ⟨_, _, _, h, _⟩ => by rw [h]; rfl) (fun _ _ _ _ _ _ us hl => match us, hl with | [_, _], _ => rfl) fun f cdv A outer s0 H E0 hr F ds d h => ?_
  obtain ⟨table, rows, cols, rfl, tok, rok, rfl⟩ := h
  refine sds_ret (ed_lenIx T.len (edl_call h_covering (hr.mono (by decide)) (ad_cons (ed_var 0) (ad_cons (ed_var 1) ad_nil)) ⟨table, rows, cols, rfl, rfl, tok, rok, rfl⟩ (fun d O' h => by rw [h.1])) (fun d O' h => h)) ?_
  rfl
end
end Sw
/-! Walks: unlikeness. -/
namespace Sw
open PySem PySem.Spec L2
section
variable {P : Program} {w : World} {K : PySem.W.Frag} {mg : Str → Option Value} {base : Heap} {C : Addr}
def sightD (s : SkyD) (a : T3) : Dat := .tup [.dic (seenM s a) ((seenM s a).map fun i => t2 (offAt s a i)), encL .int (sureM s a)]
theorem items_eq {α : Type} (f : α → Dat) (g : α → Int) : ∀ l : List α, itemD (l.map g) (l.map f) = l.map fun a => .tup [.int (g a), f a]
  | [] => rfl
  | a :: l => by
    have := items_eq f g l
    unfold itemD at this ⊢
    rw [List.map_cons, List.map_cons, List.zip_cons_cons, List.map_cons, this]
    rfl
theorem items_seen (s : SkyD) (a : T3) : itemD (seenM s a) ((seenM s a).map fun i => t2 (offAt s a i)) = (seenM s a).map fun i => .tup [.int i, t2 (offAt s a i)] := by
  have := items_eq (fun i => t2 (offAt s a i)) id (seenM s a)
  rwa [List.map_id] at this
def tabF (n : Nat) (f : Int → List Int) : List (List Dat) := (upto n).map fun i => (f i).map .int
theorem tabF_get {n : Nat} {f : Int → List Int} {i : Int} (h0 : 0 ≤ i) (h1 : i < n) : (tabF n f)[i.toNat]? = some ((f i).map .int) := by
  unfold tabF upto
  rw [List.map_map, List.getElem?_map, List.getElem?_range (by omega)]
  show some ((f ((i.toNat : Nat) : Int)).map Dat.int) = _
  rw [Int.toNat_of_nonneg h0]
theorem tabF_set {n : Nat} {f : Int → List Int} {i : Int} {v : List Int} (h0 : 0 ≤ i) (h1 : i < n) : (tabF n f).set i.toNat (v.map .int) = tabF n fun k => if k = i then v else f k := by
  apply List.ext_getElem?
  intro j
  by_cases hj : j < n
  · have h2 := tabF_get (n := n) (f := f) (i := (j : Int)) (by omega) (by omega)
    have h3 := tabF_get (n := n) (f := fun k => if k = i then v else f k) (i := (j : Int)) (by omega) (by omega)
    rw [Int.toNat_natCast] at h2 h3
    rw [h3]
    by_cases e : i.toNat = j
    · subst e
      rw [List.getElem?_set_self (by simpa [tabF, upto] using hj), if_pos (by omega)]
    · rw [List.getElem?_set_ne e, h2, if_neg (by omega)]
  · rw [List.getElem?_eq_none (by simpa [tabF, upto] using hj), List.getElem?_eq_none (by simpa [tabF, upto] using hj)]
theorem tabF_len (n : Nat) (f : Int → List Int) : (tabF n f).length = n := by simp [tabF, upto]
theorem sc_sight : FnScope ["sky", "attitude", "places", "number"] ["sky", "attitude"] (defScope s_sight) := ⟨rfl, rfl, rfl, by decide +kernel, rfl, by decide +kernel, by decide +kernel⟩
def r_sight (ds : List Dat) (d : Dat) : Prop := ∃ (s : SkyD) (a : T3), ds = [.sky s, t3 a] ∧ MotOk s.side a ∧ s.stars.length ≤ 1000 ∧ d = sightD s a
theorem cal_sight (D : Dfn K mg "sight" s_sight) (T : Tx mg) (Y : Sy P w K mg base C) (h_offset_of : Cal P w K mg base 3 "offset_of" ["sky", "attitude", "star"] (spP K C r_offset_of)) (h_sure_stars : Cal P w K mg base 5 "sure_stars" ["sky", "attitude"] (spP K C r_sure_stars)) (h_seen_stars : Cal P w K mg base 5 "seen_stars" ["sky", "attitude"] (spP K C r_seen_stars)) : Cal P w K mg base 6 "sight" ["sky", "attitude"] (spP K C r_sight) := by
  refine cal_pure D sc_sight (fun ds d ⟨_, _, h, _⟩ => by rw [h]; rfl) (fun _ _ _ _ _ _ us hl => match us, hl with | [_, _], _ => rfl) fun f cdv A outer s0 H E0 hr F ds d h => ?_
  have nd := sc_sight.nd
  obtain ⟨s, a, rfl, ha, hl, rfl⟩ := h
  have hn : 0 < s.side := by have := ha.1; have := ha.2; omega
  refine sds_setDc 2 (seenM s a) .int (sh1 3) (fun i => [some (.sky s), some (t3 a), none, some (.int i)]) id (fun i => t2 (offAt s a i)) [("number", 3)] (it_list (ed_call h_seen_stars (hr.mono (by decide)) (ad_cons (ed_var 0) (ad_cons (ed_var 1) ad_nil)) ⟨_, _, rfl, ha, hl, rfl⟩)) nd (blkOk_by (N := ["sky", "attitude", "places", "number"]) (sc := defScope s_sight) (by decide +kernel)) (gb_name 3 nd) (fun a ha => rfl) (fun i hi s0 H C1 cl fp => ed_var 3) (fun i hi s0 H C1 cl fp => ed_call h_offset_of (hr.mono (by decide)) (ad_cons (ed_var 0) (ad_cons (ed_var 1) (ad_cons (ed_ixTi (ed_stars Y (hr.mono (by decide)) (ed_var 0)) (ed_var 3) (within_at hi).1 (star_get (within_at hi).1 (within_at hi).2.1)) ad_nil))) ⟨_, _, _, rfl, hn, by rw [(within_at hi).2.2.1]; rfl⟩) (by have := within_len s a (s.reach + s.blur) (s.limit - s.glare); exact Nat.lt_of_le_of_lt this (by omega)) (by rw [List.map_id]; exact (within_rows _ _ _ _).nd) fun q => ?_
  refine sds_freezeD 2 (.dic (((seenM s a).map fun i => (id i, t2 (offAt s a i))).map (·.1)) (((seenM s a).map fun i => (id i, t2 (offAt s a i))).map (·.2))) (.inl ⟨_, rfl, rfl⟩) List.not_mem_nil ?_
  refine sds_ret (ed_tup (ad_cons (ed_var 2) (ad_cons (ed_call h_sure_stars (hr.mono (by decide)) (ad_cons (ed_var 0) (ad_cons (ed_var 1) ad_nil)) ⟨_, _, rfl, ha, hl, rfl⟩) ad_nil))) ?_
  rw [List.map_map, List.map_map]
  have e1 : (seenM s a).map ((fun p : Int × Dat => p.1) ∘ fun i => (id i, t2 (offAt s a i))) = seenM s a := List.map_id _
  rw [e1]
  rfl
theorem sc_link_table : FnScope ["sky", "here", "there", "table", "room", "shine", "stars", "one", "_", "x", "y", "other", "across", "up"] ["sky", "here", "there"] (defScope s_link_table) := ⟨rfl, rfl, rfl, by decide +kernel, rfl, by decide +kernel, by decide +kernel⟩
def r_link_table (ds : List Dat) (d : Dat) : Prop := ∃ (s : SkyD) (a : T3) (b : T3), ds = [.sky s, sightD s a, sightD s b] ∧ s.stars.length ≤ 1000 ∧ 0 ≤ s.blur ∧ s.blur ≤ 2 ∧ 0 ≤ s.glare ∧ s.glare ≤ 2 ∧ d = encL (encL .int) (linkM s a b)
theorem cal_link_table (D : Dfn K mg "link_table" s_link_table) (T : Tx mg) (Y : Sy P w K mg base C) : Cal P w K mg base 3 "link_table" ["sky", "here", "there"] (spP K C r_link_table) := by
  refine cal_pure D sc_link_table (fun ds d ⟨_, _, _, h, _⟩ => by rw [h]; rfl) (fun _ _ _ _ _ _ us hl => match us, hl with | [_, _, _], _ => rfl) fun f cdv A outer s0 H E0 hr F ds d h => ?_
  have nd := sc_link_table.nd
  obtain ⟨s, a, b, rfl, hl, hb0, hb2, hg0, hg2, rfl⟩ := h
  refine sds_par3 4 5 6 nd (ad_cons (ed_mul ed_int (ed_blur Y (hr.mono (by decide)) (ed_var 0)) (cmulS (by omega))) (ad_cons (ed_mul ed_int (ed_glare Y (hr.mono (by decide)) (ed_var 0)) (cmulS (by omega))) (ad_cons (ed_stars Y (hr.mono (by decide)) (ed_var 0)) ad_nil))) ?_
  refine sds_newTab 3 (sh1 8) (fun d => [some (.sky s), some (sightD s a), some (sightD s b), none, some (.int (2 * s.blur)), some (.int (2 * s.glare)), some (.tup (s.stars.map t3)), none, some d, none, none, none, none, none]) [("_", 8)] (it_tup (ed_var 6)) nd (blkOk_by (N := ["sky", "here", "there", "table", "room", "shine", "stars", "one", "_", "x", "y", "other", "across", "up"]) (sc := defScope s_link_table) (by decide +kernel)) (gb_name 8 nd) (fun a ha => rfl) (by rw [List.length_map]; omega) fun ps hps => ?_
  rw [List.length_map] at hps
  have e0 : tabL ps (List.replicate (s.stars.map t3).length []) ++ ([] : Led) = tabL ps (tabF s.stars.length fun k => if k ∈ ([] : List Int) then nearL s a b k else []) := by
    rw [List.append_nil, List.length_map]
    congr 1
    apply List.ext_getElem?
    intro j
    by_cases hj : j < s.stars.length
    · have h2 := tabF_get (n := s.stars.length) (f := fun k => if k ∈ ([] : List Int) then nearL s a b k else []) (i := (j : Int)) (by omega) (by omega)
      rw [Int.toNat_natCast] at h2
      rw [h2, List.getElem?_replicate, if_pos hj]
      simp
    · rw [List.getElem?_eq_none (by simpa using hj), List.getElem?_eq_none (by simpa [tabF_len] using hj)]
  rw [e0]
  refine sds_for (seenM s a) (fun i => .tup [.int i, t2 (offAt s a i)]) (sh12 7 9 10) (fun pre => True) (fun pre => [some (.sky s), some (sightD s a), some (sightD s b), some (.lst (ps.map .loc)), some (.int (2 * s.blur)), some (.int (2 * s.glare)), some (.tup (s.stars.map t3)), none, none, none, none, none, none, none]) (fun pre => tabL ps (tabF s.stars.length fun k => if k ∈ pre then nearL s a b k else [])) (it_items (ed_ixT (ed_var 1) (by exact ed_int) rfl)) (gt_np 7 9 10 nd) trivial (by repeat (first | exact trivial | refine And.intro rfl ?_)) rfl (fun pre i post hL hI E1 => ⟨_, rfl, ?_⟩) (fun hI => ?_) (hit := items_seen s a)
  · have hi : i ∈ seenM s a := by rw [hL]; simp
    have wi := within_at hi
    have ndS := (within_rows s a (s.reach + s.blur) (s.limit - s.glare)).nd
    have ip : i ∉ pre := fun m => by
      have n2 : (seenM s a).Nodup := ndS
      rw [hL] at n2
      exact (List.nodup_append.mp n2).2.2 _ m _ List.mem_cons_self rfl
    refine sds_for (seenM s b) (fun i => .tup [.int i, t2 (offAt s b i)]) (sh12 11 12 13) (fun pre => True) (fun pre2 => [some (.sky s), some (sightD s a), some (sightD s b), some (.lst (ps.map .loc)), some (.int (2 * s.blur)), some (.int (2 * s.glare)), some (.tup (s.stars.map t3)), some (.int i), none, some (.int (offAt s a i).1), some (.int (offAt s a i).2), none, none, none]) (fun pre2 => tabL ps (tabF s.stars.length fun k => if k = i then pre2.filter (closeL s a b i) else if k ∈ pre then nearL s a b k else [])) (it_items (ed_ixT (ed_var 2) (by exact ed_int) rfl)) (gt_np 11 12 13 nd) trivial (by repeat (first | exact trivial | refine And.intro rfl ?_)) ?_ (fun pre2 j post2 hL2 hI2 E2 => ⟨_, rfl, ?_⟩) (fun hI2 => ?_) (hit := items_seen s b)
    · congr 2
      funext k
      by_cases e : k = i
      · rw [if_pos e, e, if_neg ip]; rfl
      · rw [if_neg e]
    · have hj : j ∈ seenM s b := by rw [hL2]; simp
      have wj := within_at hj
      have p2 := pre_len hL2
      have lb : (seenM s b).length ≤ s.stars.length := within_len s b _ _
      have hpi : ps[i.toNat]? = some (ps[i.toNat]'(by omega)) := List.getElem?_eq_getElem (by omega)
      have hT := tabF_get (n := s.stars.length) (f := fun k => if k = i then pre2.filter (closeL s a b i) else if k ∈ pre then nearL s a b k else []) wi.1 wi.2.1
      rw [if_pos rfl] at hT
      refine sds_ifJ [some (.sky s), some (sightD s a), some (sightD s b), some (.lst (ps.map .loc)), some (.int (2 * s.blur)), some (.int (2 * s.glare)), some (.tup (s.stars.map t3)), some (.int i), none, some (.int (offAt s a i).1), some (.int (offAt s a i).2), none, none, none] (tabL ps (tabF s.stars.length fun k => if k = i then (pre2 ++ [j]).filter (closeL s a b i) else if k ∈ pre then nearL s a b k else [])) (k := closeL s a b i j) (BW.bd (bw_and (bd_cmp (ed_abs T.abs (ad_cons (ed_sub (ed_var 9) (ed_var 12)) ad_nil)) (ed_var 4) c_le) (fun _ => (bw_and (bd_cmp (ed_abs T.abs (ad_cons (ed_sub (ed_var 10) (ed_var 13)) ad_nil)) (ed_var 4) c_le) (fun _ => (bw_and1 (bd_cmp (ed_abs T.abs (ad_cons (ed_sub (ed_ixT (ed_ixTi (ed_var 6) (ed_var 7) wi.1 (star_get wi.1 wi.2.1)) (by exact ed_int) rfl) (ed_ixT (ed_ixTi (ed_var 6) (ed_var 11) wj.1 (star_get wj.1 wj.2.1)) (by exact ed_int) rfl)) ad_nil)) (ed_var 5) c_le))))))) (fun h => ?_) (fun h => ?_) ?_
      · refine sds_expr (ed_appendAt i.toNat (xs := (pre2.filter (closeL s a b i)).map .int) (ed_ixLi (z := .loc (ps[i.toNat]'(by omega))) (ed_var 3) (ed_var 7) (LstD.lst _) wi.1 (by rw [List.getElem?_map, hpi]; rfl)) (ad_cons (ed_var 11) ad_nil) (tabL_get hpi hT) (by rw [List.length_map]; have := List.length_filter_le (closeL s a b i) pre2; omega)) ?_
        refine sds_end (fun _ _ h => h) (by repeat (first | exact trivial | refine And.intro rfl ?_)) ?_
        rw [tabL_set hpi]
        congr 1
        rw [show (pre2.filter (closeL s a b i)).map Dat.int ++ [Dat.int j] = ((pre2 ++ [j]).filter (closeL s a b i)).map Dat.int by rw [pos_rest _ _ _ h]; simp, tabF_set wi.1 wi.2.1]
        congr 1
        funext k
        by_cases e : k = i <;> simp [e]
      · refine sds_end (fun _ _ h => h) (by repeat (first | exact trivial | refine And.intro rfl ?_)) (by rw [neg_rest _ _ _ h])
      · refine sds_end (fun _ _ h => ⟨trivial, h⟩) (by repeat (first | exact trivial | refine And.intro rfl ?_))
    · refine sds_end (fun _ _ h => ⟨trivial, h⟩) (by repeat (first | exact trivial | refine And.intro rfl ?_)) ?_
      congr 2
      funext k
      by_cases e : k = i
      · rw [if_pos e, e, if_pos (by simp)]; rfl
      · rw [if_neg e]
        have : k ∈ pre ++ [i] ↔ k ∈ pre := by simp [e]
        simp only [this]
  rw [← List.append_nil (tabL ps _)]
  refine sds_freezeTab 3 (T := tabF s.stars.length fun k => if k ∈ seenM s a then nearL s a b k else []) (by rw [tabF_len]; exact hps) (fun q _ => List.not_mem_nil) ?_ rfl
  refine sds_ret (ed_var 3) ?_
  unfold linkM tabF encL
  rw [List.map_map, List.map_map]
  rfl
theorem sc_lack_by : FnScope ["sky", "here", "there"] ["sky", "here", "there"] (defScope s_lack_by) := ⟨rfl, rfl, rfl, by decide +kernel, rfl, by decide +kernel, by decide +kernel⟩
def r_lack_by (ds : List Dat) (d : Dat) : Prop := ∃ (s : SkyD) (a : T3) (b : T3), ds = [.sky s, sightD s a, sightD s b] ∧ s.stars.length ≤ 1000 ∧ 0 ≤ s.blur ∧ s.blur ≤ 2 ∧ 0 ≤ s.glare ∧ s.glare ≤ 2 ∧ d = .int (lackM s a b)
theorem cal_lack_by (D : Dfn K mg "lack_by" s_lack_by) (T : Tx mg) (h_most : Cal P w K mg base 6 "most" ["table", "rows"] (spP K C r_most)) (h_link_table : Cal P w K mg base 3 "link_table" ["sky", "here", "there"] (spP K C r_link_table)) : Cal P w K mg base 7 "lack_by" ["sky", "here", "there"] (spP K C r_lack_by) := by
  refine cal_pure D sc_lack_by (fun ds d ⟨_, _, _, h, _⟩ => by rw [h]; rfl) (fun _ _ _ _ _ _ us hl => match us, hl with | [_, _, _], _ => rfl) fun f cdv A outer s0 H E0 hr F ds d h => ?_
  have nd := sc_lack_by.nd
  obtain ⟨s, a, b, rfl, hl, hb0, hb2, hg0, hg2, rfl⟩ := h
  refine sds_ifR (bd_not (bd_lst (ed_ixT (z := encL .int (sureM s a)) (ed_var 1) (by exact ed_int) rfl) (LstD.lst _))) (fun h => ?_) (fun h => ?_)
  · have e : sureM s a = [] := by simpa using h
    refine sds_ret ed_int ?_
    unfold lackM
    rw [if_pos e]
  have e : ¬ sureM s a = [] := by simpa using h
  refine sds_ret (ed_sub (ed_len T.len (ad_cons (ed_ixT (z := encL .int (sureM s a)) (ed_var 1) (by exact ed_int) rfl) ad_nil) (LenD.lst _)) (ed_call h_most (hr.mono (by decide)) (ad_cons (ed_call h_link_table (hr.mono (by decide)) (ad_cons (ed_var 0) (ad_cons (ed_var 1) (ad_cons (ed_var 2) ad_nil))) ⟨_, _, _, rfl, hl, hb0, hb2, hg0, hg2, rfl⟩) (ad_cons (ed_ixT (z := encL .int (sureM s a)) (ed_var 1) (by exact ed_int) rfl) ad_nil)) ⟨_, _, s.stars.length, rfl, link_ok a b hl, by rw [linkM, List.length_map, upto_len]; exact within_rows _ _ _ _, rfl⟩)) ?_
  unfold lackM
  rw [if_neg e, List.length_map]
theorem sc_unlikeness_by : FnScope ["sky", "here", "there"] ["sky", "here", "there"] (defScope s_unlikeness_by) := ⟨rfl, rfl, rfl, by decide +kernel, rfl, by decide +kernel, by decide +kernel⟩
def r_unlikeness_by (ds : List Dat) (d : Dat) : Prop := ∃ (s : SkyD) (a : T3) (b : T3), ds = [.sky s, sightD s a, sightD s b] ∧ s.stars.length ≤ 1000 ∧ 0 ≤ s.blur ∧ s.blur ≤ 2 ∧ 0 ≤ s.glare ∧ s.glare ≤ 2 ∧ d = .int (unlM s a b)
theorem cal_unlikeness_by (D : Dfn K mg "unlikeness_by" s_unlikeness_by) (T : Tx mg) (h_lack_by : Cal P w K mg base 7 "lack_by" ["sky", "here", "there"] (spP K C r_lack_by)) : Cal P w K mg base 8 "unlikeness_by" ["sky", "here", "there"] (spP K C r_unlikeness_by) := by
  refine cal_pure D sc_unlikeness_by (fun ds d ⟨_, _, _, h, _⟩ => by rw [h]; rfl) (fun _ _ _ _ _ _ us hl => match us, hl with | [_, _, _], _ => rfl) fun f cdv A outer s0 H E0 hr F ds d h => ?_
  have nd := sc_unlikeness_by.nd
  obtain ⟨s, a, b, rfl, hl, hb0, hb2, hg0, hg2, rfl⟩ := h
  refine sds_ret (ed_max2 T.max (ad_cons (ed_call h_lack_by (hr.mono (by decide)) (ad_cons (ed_var 0) (ad_cons (ed_var 1) (ad_cons (ed_var 2) ad_nil))) ⟨_, _, _, rfl, hl, hb0, hb2, hg0, hg2, rfl⟩) (ad_cons (ed_call h_lack_by (hr.mono (by decide)) (ad_cons (ed_var 0) (ad_cons (ed_var 2) (ad_cons (ed_var 1) ad_nil))) ⟨_, _, _, rfl, hl, hb0, hb2, hg0, hg2, rfl⟩) ad_nil))) ?_
  rfl
theorem sc_unlikeness : FnScope ["sky", "one", "other"] ["sky", "one", "other"] (defScope s_unlikeness) := ⟨rfl, rfl, rfl, by decide +kernel, rfl, by decide +kernel, by decide +kernel⟩
def r_unlikeness (ds : List Dat) (d : Dat) : Prop := ∃ (s : SkyD) (a : T3) (b : T3), ds = [.sky s, t3 a, t3 b] ∧ MotOk s.side a ∧ MotOk s.side b ∧ s.stars.length ≤ 1000 ∧ 0 ≤ s.blur ∧ s.blur ≤ 2 ∧ 0 ≤ s.glare ∧ s.glare ≤ 2 ∧ d = .int (unlM s a b)
theorem cal_unlikeness (D : Dfn K mg "unlikeness" s_unlikeness) (T : Tx mg) (h_unlikeness_by : Cal P w K mg base 8 "unlikeness_by" ["sky", "here", "there"] (spP K C r_unlikeness_by)) (h_sight : Cal P w K mg base 6 "sight" ["sky", "attitude"] (spP K C r_sight)) : Cal P w K mg base 9 "unlikeness" ["sky", "one", "other"] (spP K C r_unlikeness) := by
  refine cal_pure D sc_unlikeness (fun ds d ⟨_, _, _, h, _⟩ => by rw [h]; rfl) (fun _ _ _ _ _ _ us hl => match us, hl with | [_, _, _], _ => rfl) fun f cdv A outer s0 H E0 hr F ds d h => ?_
  have nd := sc_unlikeness.nd
  obtain ⟨s, a, b, rfl, ha, hb, hl, hb0, hb2, hg0, hg2, rfl⟩ := h
  refine sds_ret (ed_call h_unlikeness_by (hr.mono (by decide)) (ad_cons (ed_var 0) (ad_cons (ed_call h_sight (hr.mono (by decide)) (ad_cons (ed_var 0) (ad_cons (ed_var 1) ad_nil)) ⟨_, _, rfl, ha, hl, rfl⟩) (ad_cons (ed_call h_sight (hr.mono (by decide)) (ad_cons (ed_var 0) (ad_cons (ed_var 2) ad_nil)) ⟨_, _, rfl, hb, hl, rfl⟩) ad_nil))) ⟨_, _, _, rfl, hl, hb0, hb2, hg0, hg2, rfl⟩) ?_
  rfl
theorem sc_are_confusable : FnScope ["sky", "one", "other", "missing", "false"] ["sky", "one", "other", "missing", "false"] (defScope s_are_confusable) := ⟨rfl, rfl, rfl, by decide +kernel, rfl, by decide +kernel, by decide +kernel⟩
def r_are_confusable (ds : List Dat) (d : Dat) : Prop := ∃ (s : SkyD) (a : T3) (b : T3) (m f : Int), ds = [.sky s, t3 a, t3 b, .int m, .int f] ∧ MotOk s.side a ∧ MotOk s.side b ∧ s.stars.length ≤ 1000 ∧ 0 ≤ s.blur ∧ s.blur ≤ 2 ∧ 0 ≤ s.glare ∧ s.glare ≤ 2 ∧ d = .bl (decide (unlM s a b ≤ m + f))
theorem cal_are_confusable (D : Dfn K mg "are_confusable" s_are_confusable) (T : Tx mg) (h_unlikeness : Cal P w K mg base 9 "unlikeness" ["sky", "one", "other"] (spP K C r_unlikeness)) : Cal P w K mg base 10 "are_confusable" ["sky", "one", "other", "missing", "false"] (spP K C r_are_confusable) := by
  refine cal_pure D sc_are_confusable (fun ds d ⟨_, _, _, _, _, h, _⟩ => by rw [h]; rfl) (fun _ _ _ _ _ _ us hl => match us, hl with | [_, _, _, _, _], _ => rfl) fun f cdv A outer s0 H E0 hr F ds d h => ?_
  have nd := sc_are_confusable.nd
  obtain ⟨s, a, b, m, f, rfl, ha, hb, hl, hb0, hb2, hg0, hg2, rfl⟩ := h
  refine sds_ret (ed_cmp (ed_call h_unlikeness (hr.mono (by decide)) (ad_cons (ed_var 0) (ad_cons (ed_var 1) (ad_cons (ed_var 2) ad_nil))) ⟨_, _, _, rfl, ha, hb, hl, hb0, hb2, hg0, hg2, rfl⟩) (ed_add (ed_var 3) (ed_var 4)) c_le) ?_
  rfl
end
end Sw
/-! Walks: lots by still motions, ways, rows. -/
namespace Sw
open PySem PySem.Spec L2
def encK (kn : List T3) : List (List Int × Dat) := kn.map fun t => (tKey t, Dat.bl true)
theorem lookD_encK (kn : List T3) (t : T3) : lookD (encK kn) (tKey t) = if t ∈ kn then some (.bl true) else none := by
  induction kn with
  | nil => rfl
  | cons x kn ih =>
    unfold encK lookD at ih ⊢
    rw [List.map_cons, List.find?_cons]
    by_cases e : x = t
    · subst e
      simp
    · have e2 : ¬ tKey x = tKey t := fun z => e (tKey_inj z)
      have e3 : t ∈ x :: kn ↔ t ∈ kn := by rw [List.mem_cons]; exact ⟨fun h => h.resolve_left (fun z => e z.symm), .inr⟩
      simp only [e2, decide_false, e3]
      exact ih
theorem putD_encK (kn : List T3) (t : T3) : putD (encK kn) (tKey t) (.bl true) = encK (addK kn t) := by
  have h1 : ((encK kn).any fun p => decide (p.1 = tKey t)) = decide (t ∈ kn) := by
    rw [Bool.eq_iff_iff, List.any_eq_true, decide_eq_true_iff]
    constructor
    · rintro ⟨p, hp, e⟩
      obtain ⟨x, hx, rfl⟩ := List.mem_map.mp hp
      rw [← tKey_inj (of_decide_eq_true e)]
      exact hx
    · intro h
      exact ⟨(tKey t, .bl true), List.mem_map.mpr ⟨t, h, rfl⟩, by simp⟩
  unfold putD addK
  rw [h1]
  by_cases h : t ∈ kn
  · rw [decide_eq_true h, if_pos rfl, if_pos h]
    unfold encK
    rw [List.map_map]
    refine List.map_congr_left fun x _ => ?_
    show (if tKey x = tKey t then (tKey x, Dat.bl true) else (tKey x, Dat.bl true)) = _
    split <;> rfl
  · rw [decide_eq_false h, if_neg Bool.false_ne_true, if_neg h]
    unfold encK
    rw [List.map_append]
    rfl
def wayD : Option (T3 × T3) → Dat := optD fun p => .tup [t3 p.1, t3 p.2]
def encW (f : List Way) : List (List Int × Dat) := f.map fun p => (tKey p.1, wayD p.2)
theorem lookD_encW : ∀ (f : List Way), (f.map (·.1)).Nodup → ∀ {t : T3} {v : Option (T3 × T3)}, (t, v) ∈ f → lookD (encW f) (tKey t) = some (wayD v)
  | [], _, t, v, h => nomatch h
  | p :: f, nd, t, v, h => by
    have nd' := List.nodup_cons.mp nd
    unfold encW lookD
    rw [List.map_cons, List.find?_cons]
    rcases List.mem_cons.mp h with rfl | h
    · simp
    · have e2 : ¬ tKey p.1 = tKey t := fun z => nd'.1 (List.mem_map.mpr ⟨(t, v), h, (tKey_inj z).symm⟩)
      simp only [e2, decide_false]
      exact lookD_encW f nd'.2 h
theorem lookD_encW_none : ∀ (f : List Way) {t : T3}, t ∉ f.map (·.1) → lookD (encW f) (tKey t) = none
  | [], t, _ => rfl
  | p :: f, t, h => by
    unfold encW lookD
    rw [List.map_cons, List.find?_cons]
    have e2 : ¬ tKey p.1 = tKey t := fun z => h (by rw [← tKey_inj z]; exact List.mem_cons_self)
    simp only [e2, decide_false]
    exact lookD_encW_none f fun m => h (List.mem_cons_of_mem _ m)
theorem putD_encW {f : List Way} {t : T3} {v : Option (T3 × T3)} (h : t ∉ f.map (·.1)) : putD (encW f) (tKey t) (wayD v) = encW (f ++ [(t, v)]) := by
  unfold putD
  rw [if_neg]
  · unfold encW
    rw [List.map_append]
    rfl
  · intro q
    obtain ⟨p, hp, e⟩ := List.any_eq_true.mp q
    obtain ⟨x, hx, rfl⟩ := List.mem_map.mp hp
    exact h (List.mem_map.mpr ⟨x, hx, tKey_inj (of_decide_eq_true e)⟩)
section
variable {P : Program} {w : World} {K : PySem.W.Frag} {mg : Str → Option Value} {base : Heap} {C : Addr}
theorem sc_still_lots : FnScope ["sky", "still", "known", "lots", "attitude", "one", "motion"] ["sky"] (defScope s_still_lots) := ⟨rfl, rfl, rfl, by decide +kernel, rfl, by decide +kernel, by decide +kernel⟩
def r_still_lots (ds : List Dat) (d : Dat) : Prop := ∃ s : SkyD, ds = [.sky s] ∧ 0 < s.side ∧ s.side ≤ 9 ∧ s.stars.length ≤ 1000 ∧ d = encL (encL t3) (stillLotsM s)
theorem cal_still_lots (D : Dfn K mg "still_lots" s_still_lots) (T : Tx mg) (h_still_motions : Cal P w K mg base 4 "still_motions" ["sky"] (spP K C r_still_motions)) (h_attitudes : Cal P w K mg base 3 "attitudes" ["sky"] (spP K C r_attitudes)) (h_moved : Cal P w K mg base 4 "moved" ["sky", "attitude", "motion"] (spP K C r_moved)) : Cal P w K mg base 5 "still_lots" ["sky"] (spP K C r_still_lots) := by
  refine cal_pure D sc_still_lots (fun ds d ⟨_, h, _⟩ => by rw [h]; rfl) (fun _ _ _ _ _ _ us hl => match us, hl with | [_], _ => rfl) fun f cdv A outer s0 H E0 hr F ds d h => ?_
  have nd := sc_still_lots.nd
  obtain ⟨s, rfl, h0, h9, hl, rfl⟩ := h
  have tl : (tripsM s.side.toNat).length ≤ 324 := trips_le (by omega)
  have sl : (stillM s).length ≤ 324 := Nat.le_trans (List.length_filter_le _ _) tl
  refine sds_set (i := 1) nd (ed_call h_still_motions (hr.mono (by decide)) (ad_cons (ed_var 0) ad_nil) ⟨_, rfl, h0, h9, hl, rfl⟩) ?_
  refine sds_newD 2 (.dT []) nd fun qk => ?_
  refine sds_newL (i := 3) nd fun ql => ?_
  refine sds_for (tripsM s.side.toNat) t3 (sh1 4) (fun pre => True) (fun pre => [some (.sky s), some (encL t3 (stillM s)), some (.loc qk), some (.loc ql), none, none, none]) (fun pre => [(ql, .lst ((slF s pre).2.map (encL t3))), (qk, .dT (encK (slF s pre).1))]) (it_list (ed_call h_attitudes (hr.mono (by decide)) (ad_cons (ed_var 0) ad_nil) ⟨_, rfl, by omega, h9, rfl⟩)) (gt_name 4 nd) trivial (by repeat (first | exact trivial | refine And.intro rfl ?_)) rfl (fun pre a post hL hI E1 => ⟨_, rfl, ?_⟩) (fun hI => ?_)
  · have p1 := pre_len hL
    have am : a ∈ tripsM s.side.toNat := by rw [hL]; simp
    have aok := trips_mem am
    obtain ⟨k1, l1⟩ := slF_ok h0 pre
    have e1 := slF_snoc s pre a
    generalize slF s pre = st at k1 l1 e1 ⊢
    obtain ⟨kn, lots⟩ := st
    have hd : ∀ (b : Bool), decide (a ∈ kn) = b → DicD ([(ql, .lst (lots.map (encL t3))), (qk, .dT (encK kn))] : Led) (.loc qk) (t3 a) (if a ∈ kn then some (.bl true) else none) := fun b _ => by
      rw [← lookD_encK]
      exact .loc (m := .dT (encK kn)) (by simp) (.t _ (tKey a))
    by_cases hin : a ∈ kn
    · have e2 : slS s (kn, lots) a = (kn, lots) := if_pos hin
      rw [e1, e2]
      have hd1 := hd _ rfl
      rw [if_pos hin] at hd1
      refine sds_ifN (bd_conv (bd_dnin hr.units (ed_var 4) (ed_var 2) hd1) (by rfl)) ?_
      exact sds_end (fun _ _ hh => ⟨trivial, hh⟩) (by repeat (first | exact trivial | refine And.intro rfl ?_))
    · have e2 : slS s (kn, lots) a = ((lotM s a).foldl addK kn, lots ++ [lotM s a]) := if_neg hin
      rw [e1, e2]
      have hd1 := hd _ rfl
      rw [if_neg hin] at hd1
      have ll : (lotM s a).length ≤ 324 := by
        unfold lotM
        rw [(sort3_perm _).length_eq, List.length_map]
        exact sl
      dsimp only at l1 k1
      refine sds_ifJ [some (.sky s), some (encL t3 (stillM s)), some (.loc qk), some (.loc ql), none, none, none] [(ql, .lst ((lots ++ [lotM s a]).map (encL t3))), (qk, .dT (encK ((lotM s a).foldl addK kn)))] (k := true) (bd_conv (bd_dnin hr.units (ed_var 4) (ed_var 2) hd1) (by rfl)) (fun _ => ?_) (fun z => nomatch z) ?_
      · refine sds_expr (ed_append [] [(qk, .dT (encK kn))] (ed_var 3) (ad_cons (ed_sorted3 T.sorted (ad_cons (ed_lcE (stillM s) t3 (sh1 6) (fun m => [some (.sky s), some (encL t3 (stillM s)), some (.loc qk), some (.loc ql), some (t3 a), none, some (t3 m)]) t3 (fun m => moveM s.side a m) [("motion", 6)] (it_list (ed_var 1)) nd (blkOk_by (N := ["sky", "still", "known", "lots", "attitude", "one", "motion"]) (sc := defScope s_still_lots) (by decide +kernel)) (gb_name 6 nd) (fun a ha => rfl) (fun m hm s1 H C1 cl fp => (ed_call h_moved (hr.mono (by decide)) (ad_cons (ed_var 0) (ad_cons (ed_var 4) (ad_cons (ed_var 6) ad_nil))) ⟨_, _, _, rfl, aok, still_ok hm, rfl⟩)) (by omega)) ad_nil) (SeqD.lst (LstD.lst _))) ad_nil) (by rw [List.length_map]; show lots.length < 100000; omega)) ?_
        refine sds_for (lotM s a) t3 (sh1 5) (fun pre => True) (fun pre => [some (.sky s), some (encL t3 (stillM s)), some (.loc qk), some (.loc ql), some (t3 a), none, none]) (fun pre => [(ql, .lst ((lots ++ [lotM s a]).map (encL t3))), (qk, .dT (encK (pre.foldl addK kn)))]) (it_list (ed_ixLast (z := .lst ((lotM s a).map t3)) (xs := lots.map (encL t3)) (ed_var 3) (ed_neg ed_int) (LstD.loc List.mem_cons_self))) (gt_name 5 nd) trivial (by repeat (first | exact trivial | refine And.intro rfl ?_)) (by rw [List.map_append]; rfl) (fun pre2 t post2 hL2 hI2 E2 => ⟨_, rfl, ?_⟩) (fun hI2 => ?_)
        · have kpre : KnOk s.side (pre2.foldl addK kn) := k1.adds fun t ht => lot_ok h0 a t (by rw [hL2]; exact List.mem_append_left _ ht)
          have kf := kpre.few h9
          have hp : DkP (.dT (encK (pre2.foldl addK kn))) (t3 t) (.bl true) (.dT (encK (addK (pre2.foldl addK kn) t))) := by
            rw [← putD_encK]
            exact .t _ (tKey t) _
          refine sds_dput [(ql, .lst ((lots ++ [lotM s a]).map (encL t3)))] [] hr.units ed_bl (ed_var 2) (ed_var 5) hp (fun _ z => nomatch z) (fun kvs z => by cases z; simp [encK]; omega) ?_
          refine sds_end (fun _ _ hh => ⟨trivial, hh⟩) (by repeat (first | exact trivial | refine And.intro rfl ?_)) (by rw [List.foldl_append]; rfl)
        · exact sds_end (fun _ _ hh => hh) (by repeat (first | exact trivial | refine And.intro rfl ?_))
      · exact sds_end (fun _ _ hh => ⟨trivial, hh⟩) (by repeat (first | exact trivial | refine And.intro rfl ?_))
  refine sds_freeze (i := 3) List.not_mem_nil ?_
  refine sds_ret (ed_var 3) ?_
  rfl
def CmdsOk (n : Int) (cs : List T3) : Prop := ∀ c ∈ cs, 0 ≤ c.2.2 ∧ c.2.2 ≤ 3 ∧ maxI (absI c.1) (absI c.2.1) < n
theorem sc_ways_from : FnScope ["sky", "attitude", "commands", "found", "waiting", "at", "command", "there"] ["sky", "attitude", "commands"] (defScope s_ways_from) := ⟨rfl, rfl, rfl, by decide +kernel, rfl, by decide +kernel, by decide +kernel⟩
def WaysOk (n : Int) (a : T3) (cs : List T3) (f : List Way) : Prop := WI n a f ∧ ∀ t ∈ f.map (·.1), ∀ c ∈ cs, cmdM n t c ∈ f.map (·.1)
def dctW (f : List Way) : Dat := .dct ((encW f).map (·.1)) ((encW f).map (·.2))
def r_ways_from (ds : List Dat) (O : Led) (post : Dat → Led → Prop) : Prop := ∃ (s : SkyD) (a : T3) (cs : List T3), ds = [.sky s, t3 a, encL t3 cs] ∧ MotOk s.side a ∧ s.side ≤ 9 ∧ CmdsOk s.side cs ∧
  post = fun d O' => O' = O ∧ ∃ f, d = dctW f ∧ WaysOk s.side a cs f
structure WS (n : Int) (a : T3) (cs : List T3) (st : List Way × Nat) : Prop where
  w : WI n a st.1
  at_ : st.2 ≤ st.1.length
  cl : ∀ j t, j < st.2 → (st.1.map (·.1))[j]? = some t → ∀ c ∈ cs, cmdM n t c ∈ st.1.map (·.1)
def wLed (qw qf : Addr) (f : List Way) (O : Led) : Led := (qw, .lst ((f.map (·.1)).map t3)) :: (qf, .dT (encW f)) :: O
theorem cal_ways_from (D : Dfn K mg "ways_from" s_ways_from) (T : Tx mg) (h_commanded : Cal P w K mg base 4 "commanded" ["sky", "attitude", "command"] (spP K C r_commanded)) : Cal P w K mg base 5 "ways_from" ["sky", "attitude", "commands"] (spL K C r_ways_from) := by
  refine cal_def D sc_ways_from (fun ds O post ⟨_, _, _, h, _⟩ => by rw [h]; rfl) (fun _ _ _ _ _ _ us hl => match us, hl with | [_, _, _], _ => rfl) fun f cdv A outer s0 H E0 hr F O ds post h ok0 => ?_
  have nd := sc_ways_from.nd
  obtain ⟨s, a, cs, rfl, ha, h9, hcs, rfl⟩ := h
  have hn : 0 < s.side := by have := ha.1; have := ha.2; omega
  refine sds_newDT 3 (k := tKey a) (d := .non) hr.units nd (ed_var 1) ed_non fun qf => ?_
  refine sds_newLs (i := 4) nd (ad_cons (ed_var 1) ad_nil) (by exact Nat.le_of_ble_eq_true rfl) fun qw => ?_
  refine sds_set (i := 5) nd ed_int ?_
  refine sds_while (WS s.side a cs) (fun st => 325 - st.2) (fun st => [some (.sky s), some (t3 a), some (encL t3 cs), some (.loc qf), some (.loc qw), some (.int ((st.2 : Nat) : Int)), none, none]) (fun st => wLed qw qf st.1 O) (fun st => decide (((st.2 : Nat) : Int) < ((((st.1.map (·.1)).map t3).length : Nat) : Int))) ([(a, none)], 0) ⟨wi_start ha, Nat.zero_le _, fun j t hj => absurd hj (Nat.not_lt_zero _)⟩ (by repeat (first | exact trivial | refine And.intro rfl ?_)) rfl (fun st hst => bd_cmp (ed_var 5) (ed_len T.len (ad_cons (ed_var 4) ad_nil) (LenD.loc List.mem_cons_self)) c_lt) (fun st hst hk => ?_) (fun st hst hk => ?_)
  · obtain ⟨f, k⟩ := st
    have hk2 : k < f.length := by
      have := of_decide_eq_true hk
      simp only [List.length_map] at this
      omega
    have hw0 := hst.w
    have hcur : (f.map (·.1))[k]? = some ((f.map (·.1))[k]'(by simpa using hk2)) := List.getElem?_eq_getElem (by simpa using hk2)
    generalize (f.map (·.1))[k]'(by simpa using hk2) = cur at hcur
    have hcm : cur ∈ f.map (·.1) := List.mem_of_getElem? hcur
    refine sds_for cs t3 (sh1 6) (fun pre => (∃ r, pre.foldl (wS s.side cur) f = f ++ r) ∧ WI s.side a (pre.foldl (wS s.side cur) f) ∧ ∀ c ∈ pre, cmdM s.side cur c ∈ (pre.foldl (wS s.side cur) f).map (·.1)) (fun pre => [some (.sky s), some (t3 a), some (encL t3 cs), some (.loc qf), some (.loc qw), some (.int ((k : Nat) : Int)), none, none]) (fun pre => wLed qw qf (pre.foldl (wS s.side cur) f) O) (it_list (ed_var 2)) (gt_name 6 nd) ⟨⟨[], by simp⟩, hw0, fun _ z => nomatch z⟩ (by repeat (first | exact trivial | refine And.intro rfl ?_)) rfl (fun pre c post hL hI E1 => ⟨_, rfl, ?_⟩) (fun hI => ?_)
    · have hc := hcs c (by rw [hL]; simp)
      obtain ⟨⟨r, er⟩, wI0, hall⟩ := hI
      have est : (pre ++ [c]).foldl (wS s.side cur) f = wS s.side cur (pre.foldl (wS s.side cur) f) c := by rw [List.foldl_append]; rfl
      rw [est]
      generalize pre.foldl (wS s.side cur) f = g at er wI0 hall ⊢
      have hgk : (g.map (·.1))[k]? = some cur := by
        rw [er, List.map_append, List.getElem?_append_left (by simpa using hk2)]
        exact hcur
      have hgm : cur ∈ g.map (·.1) := List.mem_of_getElem? hgk
      have curok : MotOk s.side cur := by
        obtain ⟨p, hp, rfl⟩ := List.mem_map.mp hgm
        exact wI0.ok p hp
      have gfew := wI0.few h9
      have hgk3 : ((g.map (·.1)).map t3)[k]? = some (t3 cur) := by rw [List.getElem?_map, hgk]; rfl
      have nxt : (∃ r, wS s.side cur g c = f ++ r) ∧ WI s.side a (wS s.side cur g c) ∧ ∀ c' ∈ pre ++ [c], cmdM s.side cur c' ∈ (wS s.side cur g c).map (·.1) := by
        obtain ⟨r2, e2⟩ := wS_mono (n := s.side) (cur := cur) (f := g) (c := c)
        refine ⟨⟨r ++ r2, by rw [e2, er, List.append_assoc]⟩, wI0.step hn hgm, fun c' hc' => ?_⟩
        rcases List.mem_append.mp hc' with hc' | hc'
        · rw [e2, List.map_append]
          exact List.mem_append_left _ (hall c' hc')
        · rw [List.mem_singleton.mp hc']
          exact wS_has
      refine sds_set (i := 7) nd (ed_call h_commanded (hr.mono (by decide)) (ad_cons (ed_var 0) (ad_cons (ed_ixL (n := k) (ed_var 4) (ed_var 5) (LstD.loc List.mem_cons_self) hgk3) (ad_cons (ed_var 6) ad_nil))) ⟨_, _, _, rfl, curok, hc.1, hc.2.1, hc.2.2, rfl⟩) ?_
      by_cases hin : cmdM s.side cur c ∈ g.map (·.1)
      · have e2 : wS s.side cur g c = g := if_pos hin
        obtain ⟨p, hp, ep⟩ := List.mem_map.mp hin
        obtain ⟨t, v⟩ := p
        have hd : DicD (wLed qw qf g O) (.loc qf) (t3 (cmdM s.side cur c)) (some (wayD v)) := by
          rw [← lookD_encW g wI0.nd (t := cmdM s.side cur c) (v := v) (by rw [← ep]; exact hp)]
          exact .loc (m := .dT (encW g)) (by simp [wLed]) (.t _ (tKey _))
        rw [e2] at nxt ⊢
        refine sds_ifN (bd_conv (bd_dnin hr.units (ed_var 7) (ed_var 3) hd) (by rfl)) ?_
        exact sds_end (fun _ _ hh => ⟨nxt, hh⟩) (by repeat (first | exact trivial | refine And.intro rfl ?_))
      · have e2 : wS s.side cur g c = g ++ [(cmdM s.side cur c, some (cur, c))] := if_neg hin
        have hd : DicD (wLed qw qf g O) (.loc qf) (t3 (cmdM s.side cur c)) none := by
          rw [← lookD_encW_none g hin]
          exact .loc (m := .dT (encW g)) (by simp [wLed]) (.t _ (tKey _))
        have hp : DkP (.dT (encW g)) (t3 (cmdM s.side cur c)) (.tup [t3 cur, t3 c]) (.dT (encW (g ++ [(cmdM s.side cur c, some (cur, c))]))) := by
          rw [← putD_encW hin]
          exact .t _ (tKey _) (wayD (some (cur, c)))
        rw [e2] at nxt ⊢
        refine sds_ifJ [some (.sky s), some (t3 a), some (encL t3 cs), some (.loc qf), some (.loc qw), some (.int ((k : Nat) : Int)), none, none] (wLed qw qf (g ++ [(cmdM s.side cur c, some (cur, c))]) O) (k := true) (bd_conv (bd_dnin hr.units (ed_var 7) (ed_var 3) hd) (by rfl)) (fun _ => ?_) (fun z => nomatch z) ?_
        · refine sds_dput [(qw, .lst ((g.map (·.1)).map t3))] O hr.units (ed_tup (ad_cons (ed_ixL (n := k) (z := t3 cur) (ed_var 4) (ed_var 5) (LstD.loc List.mem_cons_self) hgk3) (ad_cons (ed_var 6) ad_nil))) (ed_var 3) (ed_var 7) hp (fun _ z => nomatch z) (fun kvs z => by cases z; simp [encW]; omega) ?_
          refine sds_expr (ed_append [] ((qf, .dT (encW (g ++ [(cmdM s.side cur c, some (cur, c))]))) :: O) (ed_var 4) (ad_cons (ed_var 7) ad_nil) (by simp; omega)) ?_
          exact sds_end (fun _ _ hh => hh) (by repeat (first | exact trivial | refine And.intro rfl ?_)) (by simp [wLed])
        · exact sds_end (fun _ _ hh => ⟨nxt, hh⟩) (by repeat (first | exact trivial | refine And.intro rfl ?_))
    · obtain ⟨⟨r, er⟩, wI0, hall⟩ := hI
      generalize cs.foldl (wS s.side cur) f = g at er wI0 hall ⊢
      refine sds_aug 5 nd rfl ed_int ?_
      refine sds_end (fun _ _ hh => ⟨(g, k + 1), ?_, ⟨wI0, ?_, fun j t hj ht c hc => ?_⟩, hh⟩) (by repeat (first | exact trivial | refine And.intro rfl ?_))
      · have := hst.w.few h9
        dsimp only at this ⊢
        omega
      · dsimp only
        rw [er, List.length_append]
        omega
      · by_cases hjk : j < k
        · have ht2 : (f.map (·.1))[j]? = some t := by
            dsimp only at ht
            rw [er, List.map_append, List.getElem?_append_left (by simp; omega)] at ht
            exact ht
          have := hst.cl j t hjk ht2 c hc
          dsimp only at this ⊢
          rw [er, List.map_append]
          exact List.mem_append_left _ this
        · have hjk2 : j = k := by dsimp only at hj; omega
          subst hjk2
          have : t = cur := by
            dsimp only at ht
            rw [er, List.map_append, List.getElem?_append_left (by simpa using hk2), hcur] at ht
            exact (Option.some.inj ht).symm
          rw [this]
          exact hall c hc
  · obtain ⟨f, k⟩ := st
    have hk2 : k = f.length := by
      have h1 := of_decide_eq_false hk
      have h2 := hst.at_
      simp only [List.length_map] at h1 h2
      omega
    refine sds_drop ?_
    refine sds_freezeDO 3 (dctW f) (.inr ⟨_, rfl, rfl⟩) (fun b hb => hb) ?_
    · refine sds_ret (post := fun d O' => O' = O ∧ ∃ f, d = dctW f ∧ WaysOk s.side a cs f) (ed_var 3) ⟨rfl, f, rfl, hst.w, fun t ht c hc => ?_⟩
      obtain ⟨j, hj, e⟩ := List.getElem_of_mem ht
      exact hst.cl j t (by simp only [List.length_map] at hj; dsimp only; omega) (by rw [List.getElem?_eq_getElem hj, e]) c hc
theorem sc_row_along : FnScope ["ways", "goal", "row", "command"] ["ways", "goal"] (defScope s_row_along) := ⟨rfl, rfl, rfl, by decide +kernel, rfl, by decide +kernel, by decide +kernel⟩
def r_row_along (ds : List Dat) (O : Led) (post : Dat → Led → Prop) : Prop := ∃ (n : Int) (a : T3) (f : List Way) (g : T3), ds = [dctW f, t3 g] ∧ n ≤ 9 ∧ WI n a f ∧ g ∈ f.map (·.1) ∧ post = fun d O' => O' = O ∧ ∃ xs, d = .lst xs
structure RS (f : List Way) (st : T3 × List Dat × List Way × Option (T3 × T3)) : Prop where
  at_ : ∃ post, f = st.2.2.1 ++ (st.1, st.2.2.2) :: post
  len : st.2.1.length + st.2.2.1.length ≤ 1000
theorem way_at (f : List Way) (nd : (f.map (·.1)).Nodup) (O : Led) {t : T3} {v : Option (T3 × T3)} (h : (t, v) ∈ f) : DicD O (dctW f) (t3 t) (some (wayD v)) := by
  rw [← lookD_encW f nd h]
  exact .dct _ (tKey t)
theorem cal_row_along (D : Dfn K mg "row_along" s_row_along) : Cal P w K mg base 1 "row_along" ["ways", "goal"] (spL K C r_row_along) := by
  refine cal_def D sc_row_along (fun ds O post ⟨_, _, _, _, h, _⟩ => by rw [h]; rfl) (fun _ _ _ _ _ _ us hl => match us, hl with | [_, _], _ => rfl) fun fa cdv A outer s0 H E0 hr F O ds post h ok0 => ?_
  have nd := sc_row_along.nd
  obtain ⟨n, a, f, g, rfl, h9, wI, hg, rfl⟩ := h
  obtain ⟨p0, hp0, e0⟩ := List.mem_map.mp hg
  obtain ⟨pre0, post0, ef⟩ := List.append_of_mem hp0
  obtain ⟨g0, v0⟩ := p0
  dsimp only at e0
  subst e0
  have few := wI.few h9
  refine sds_newL (i := 2) nd fun q => ?_
  refine sds_while (RS f) (fun st => st.2.2.1.length + (if st.2.2.2.isSome = true then 1 else 0)) (fun st => [some (dctW f), some (t3 st.1), some (.loc q), none]) (fun st => (q, .lst st.2.1) :: O) (fun st => st.2.2.2.isSome) (g0, [], pre0, v0) ⟨⟨post0, ef⟩, by have := congrArg List.length ef; simp at this ⊢; omega⟩ (by repeat (first | exact trivial | refine And.intro rfl ?_)) rfl (fun st hst => ?_) (fun st hst hk => ?_) (fun st hst hk => ?_)
  · obtain ⟨t, row, pre, v⟩ := st
    obtain ⟨⟨post, e⟩, _⟩ := hst
    refine bd_conv (bd_cmp (ed_dget hr.units (ed_var 0) (ed_var 1) (way_at f wI.nd _ (by rw [e]; simp : (t, v) ∈ f))) ed_non c_notN) ?_
    cases v <;> rfl
  · obtain ⟨t, row, pre, v⟩ := st
    cases v with
    | none => cases hk
    | some pc =>
      obtain ⟨p, c⟩ := pc
      obtain ⟨⟨post, e⟩, hlen⟩ := hst
      dsimp only at e hlen
      have hmem : (t, some (p, c)) ∈ f := by rw [e]; simp
      refine sds_asg (ed_dget (d := .tup [t3 p, t3 c]) hr.units (ed_var 0) (ed_var 1) (way_at f wI.nd _ hmem)) (gd_tup (gds_cons (gd_name 1 nd) (gds_cons (gd_name 3 nd) gds_nil))) ?_
      refine sds_expr (ed_append [] O (ed_var 2) (ad_cons (ed_var 3) ad_nil) (by show row.length < 100000; omega)) ?_
      have hpp : p ∈ pre.map (·.1) := by
        rcases wI.tree pre t (some (p, c)) post e with z | ⟨p', c', z, hp'⟩
        · cases z
        · cases z; exact hp'
      obtain ⟨q1, hq1, eq1⟩ := List.mem_map.mp hpp
      obtain ⟨pre1, post1, e1⟩ := List.append_of_mem hq1
      obtain ⟨p1, v1⟩ := q1
      dsimp only at eq1
      subst eq1
      have el := congrArg List.length e1
      rw [List.length_append, List.length_cons] at el
      refine sds_end (fun _ _ hh => ⟨(p1, row ++ [t3 c], pre1, v1), ?_, ⟨⟨post1 ++ (t, some (p1, c)) :: post, by rw [e, e1]; simp⟩, ?_⟩, hh⟩) (by repeat (first | exact trivial | refine And.intro rfl ?_))
      · dsimp only
        split <;> simp <;> omega
      · simp only [List.length_append, List.length_singleton]
        omega
  · obtain ⟨t, row, pre, v⟩ := st
    refine sds_ret (post := fun d O' => (∃ xs, d = .lst xs) ∧ ∃ x, O' = x :: O) (ed_revL (ed_var 2) (LstD.loc List.mem_cons_self)) ⟨⟨_, rfl⟩, _, rfl⟩ fun v H h => ?_
    obtain ⟨F, d, O', g, ok, hd, hx, x, rfl⟩ := h
    exact ⟨F, d, O, g, ok.tail, hd, rfl, hx⟩
end
end Sw
/-! Walks: lots that look alike. -/
namespace Sw
open PySem PySem.Spec L2
def alK (ps : List Addr) (st : ASt) : List (List T3 × Dat) := (st.map (·.1)).zip (ps.map .loc)
theorem alK_get : ∀ {ps : List Addr} {st : ASt} {j : Nat} {k lot : List T3} {p : Addr}, (st.map (·.1)).Nodup → st[j]? = some (k, lot) → ps[j]? = some p → lookD (alK ps st) k = some (.loc p)
  | [], _, j, _, _, _, _, _, h => by simp at h
  | _ :: _, [], j, _, _, _, _, h, _ => by simp at h
  | q :: ps, x :: st, 0, k, lot, p, nd, h1, h2 => by
    simp at h1 h2
    subst h1 h2
    show lookD ((k, Dat.loc q) :: alK ps st) k = _
    unfold lookD
    rw [List.find?_cons]
    simp
  | q :: ps, x :: st, j + 1, k, lot, p, nd, h1, h2 => by
    have nd' := List.nodup_cons.mp nd
    have h1' : st[j]? = some (k, lot) := by simpa using h1
    have hne : ¬ x.1 = k := fun z => nd'.1 (List.mem_map.mpr ⟨(k, lot), List.mem_of_getElem? h1', z.symm⟩)
    have ih := alK_get nd'.2 h1' (by simpa using h2 : ps[j]? = some p)
    show lookD ((x.1, Dat.loc q) :: alK ps st) k = _
    unfold lookD at ih ⊢
    rw [List.find?_cons]
    simp only [hne, decide_false]
    exact ih
theorem alK_none {ps : List Addr} {st : ASt} {k : List T3} (h : k ∉ st.map (·.1)) : lookD (alK ps st) k = none := by
  unfold lookD
  rw [Option.map_eq_none_iff, List.find?_eq_none]
  intro x hx e
  have := List.of_mem_zip (show (x.1, x.2) ∈ (st.map (·.1)).zip (ps.map Dat.loc) from hx)
  rw [of_decide_eq_true e] at this
  exact h this.1
theorem alK_snoc {ps : List Addr} {st : ASt} {k lot : List T3} {p : Addr} (hl : ps.length = st.length) : alK (ps ++ [p]) (st ++ [(k, lot)]) = alK ps st ++ [(k, .loc p)] := by
  unfold alK
  rw [List.map_append, List.map_append, List.zip_append (by simp [hl])]
  rfl
theorem alK_vals {ps : List Addr} {st : ASt} (hl : ps.length = st.length) : (alK ps st).map (·.2) = ps.map .loc := by
  unfold alK
  rw [List.map_snd_zip]
  simp [hl]
theorem set_self {α : Type} {l : List α} {j : Nat} {x : α} (h : l[j]? = some x) : l.set j x = l := by
  apply List.ext_getElem?
  intro i
  by_cases e : j = i
  · subst e
    rw [List.getElem?_set_self (List.getElem?_eq_some_iff.mp h).1, h]
  · rw [List.getElem?_set_ne e]
def alT (st : ASt) : List (List Dat) := st.map fun p => p.2.map t3
theorem encT_tup (k : List T3) : ∃ xs, encT t3 k = .tup xs := ⟨_, rfl⟩
section
variable {P : Program} {w : World} {K : PySem.W.Frag} {mg : Str → Option Value} {base : Heap} {C : Addr}
theorem sc_alike_lots : FnScope ["sky", "found", "attitude"] ["sky"] (defScope s_alike_lots) := ⟨rfl, rfl, rfl, by decide +kernel, rfl, by decide +kernel, by decide +kernel⟩
def r_alike_lots (ds : List Dat) (d : Dat) : Prop := ∃ s : SkyD, ds = [.sky s] ∧ 0 < s.side ∧ s.side ≤ 9 ∧ s.stars.length ≤ 1000 ∧ d = encL (encL t3) (lotsM s)
theorem cal_alike_lots (D : Dfn K mg "alike_lots" s_alike_lots) (T : Tx mg) (h_attitudes : Cal P w K mg base 3 "attitudes" ["sky"] (spP K C r_attitudes)) (h_sees : Cal P w K mg base 6 "sees" ["sky", "attitude"] (spP K C r_sees)) : Cal P w K mg base 7 "alike_lots" ["sky"] (spP K C r_alike_lots) := by
  refine cal_pure D sc_alike_lots (fun ds d ⟨_, h, _⟩ => by rw [h]; rfl) (fun _ _ _ _ _ _ us hl => match us, hl with | [_], _ => rfl) fun f cdv A outer s0 H E0 hr F ds d h => ?_
  have nd := sc_alike_lots.nd
  obtain ⟨s, rfl, h0, h9, hl, rfl⟩ := h
  have tl : (tripsM s.side.toNat).length ≤ 324 := trips_le (by omega)
  refine sds_newN 1 (encT t3) nd fun q => ?_
  refine sds_forS (tripsM s.side.toNat) t3 (sh1 2) (fun pre (b : List Addr × ASt) => b.2 = alF s pre ∧ b.1.length = b.2.length) (fun b => [some (.sky s), some (.loc q), none]) (fun b => tabL b.1 (alT b.2) ++ [(q, moN P w K C (encT t3) q (alK b.1 b.2))]) ([], []) (it_list (ed_call h_attitudes (hr.mono (by decide)) (ad_cons (ed_var 0) ad_nil) ⟨_, rfl, by omega, h9, rfl⟩)) (gt_name 2 nd) ⟨rfl, rfl⟩ (by repeat (first | exact trivial | refine And.intro rfl ?_)) rfl (fun pre a post hL b hI E1 => ⟨_, rfl, ?_⟩) (fun b hI => ?_)
  · obtain ⟨ps, st⟩ := b
    obtain ⟨e1, e2⟩ := hI
    dsimp only at e1 e2
    have am : a ∈ tripsM s.side.toNat := by rw [hL]; simp
    have aok := trips_mem am
    have p1 := pre_len hL
    have ndk := alF_nodup s pre
    have ll := alF_len s pre
    have lots := alF_lots s pre
    rw [← e1] at ndk ll lots
    have hkey : ∀ (O : Led), ED (Xo P w K mg base ["sky", "found", "attitude"] "alike_lots" (defScope s_alike_lots) f cdv A outer s0 H E0) C [some (.sky s), some (.loc q), some (t3 a)] O (.Name "sky" ⟨0, 0, 0, 0⟩) (.sky s) O := fun O => ed_var 0
    have snoc := alF_snoc s pre a
    have kl : (alK ps st).length < 100000 := by unfold alK; rw [List.length_zip]; simp; omega
    by_cases hin : seesM s a ∈ st.map (·.1)
    · obtain ⟨x, hx, ex⟩ := List.mem_map.mp hin
      obtain ⟨j, hj, ej⟩ := List.getElem_of_mem hx
      have hj2 : st[j]? = some (seesM s a, x.2) := by rw [List.getElem?_eq_getElem hj, ej, ← ex]
      have hpj : ps[j]? = some (ps[j]'(by omega)) := List.getElem?_eq_getElem (by omega)
      have hT : (alT st)[j]? = some (x.2.map t3) := by unfold alT; rw [List.getElem?_map, hj2]; rfl
      have hget : (tabL ps (alT st) ++ [mN (Xo P w K mg base ["sky", "found", "attitude"] "alike_lots" (defScope s_alike_lots) f cdv A outer s0 H E0) C (encT t3) q (alK ps st)])[j]? = some (ps[j]'(by omega), .lst (x.2.map t3)) := by
        rw [List.getElem?_append_left (by rw [tabL_len (by simp [alT, e2])]; omega)]
        exact tabL_get hpj hT
      have hlx := lots x hx
      have hjl : j < (tabL ps (alT st)).length := by rw [tabL_len (by simp [alT, e2]), e2]; exact hj
      refine sds_setdOld j nk_seen hr.units (k := seesM s a) (ed_var 1) (ed_tupleOf T.tuple (ad_cons (ed_call h_sees (hr.mono (by decide)) (ad_cons (ed_var 0) (ad_cons (ed_var 2) ad_nil)) ⟨_, _, rfl, aok, hl, rfl⟩) ad_nil) (LstD.lst _)) (List.mem_append_right _ List.mem_cons_self) (alK_get ndk hj2 hpj) encT_tup kl (ad_cons (ed_var 2) ad_nil) hget (by rw [List.length_map]; omega) ?_
      refine sds_end (fun _ _ hh => ⟨(ps, st.set j (seesM s a, x.2 ++ [a])), ⟨?_, by simp [e2]⟩, hh⟩) (by repeat (first | exact trivial | refine And.intro rfl ?_)) ?_
      · dsimp only
        rw [snoc, ← e1]
        exact (alS_old ndk hj2).symm
      · rw [List.set_append_left _ _ hjl, show x.2.map t3 ++ [t3 a] = (x.2 ++ [a]).map t3 by simp, tabL_set hpj]
        congr 1
        · congr 1
          unfold alT
          rw [List.map_set]
        · have : (st.set j (seesM s a, x.2 ++ [a])).map (·.1) = st.map (·.1) := by
            rw [List.map_set]
            exact set_self (by rw [List.getElem?_map, hj2]; rfl)
          unfold alK
          rw [this]
    · have hal : alS s st a = st ++ [(seesM s a, [a])] := if_neg hin
      refine sds_setdNew (tabL ps (alT st)) [] nk_seen hr.units (k := seesM s a) (ed_var 1) (ed_tupleOf T.tuple (ad_cons (ed_call h_sees (hr.mono (by decide)) (ad_cons (ed_var 0) (ad_cons (ed_var 2) ad_nil)) ⟨_, _, rfl, aok, hl, rfl⟩) ad_nil) (LstD.lst _)) rfl (alK_none hin) encT_tup kl (fun O => ad_cons (ed_var 2) ad_nil) fun p => ?_
      have eT : tabL (ps ++ [p]) (alT (st ++ [(seesM s a, [a])])) = tabL ps (alT st) ++ [(p, .lst [t3 a])] := by
        unfold alT tabL
        rw [List.map_append, List.zipWith_append (by simp [e2])]
        rfl
      refine sds_perm (O' := tabL (ps ++ [p]) (alT (st ++ [(seesM s a, [a])])) ++ [(q, moN P w K C (encT t3) q (alK (ps ++ [p]) (st ++ [(seesM s a, [a])])))]) ?_ ?_
      · rw [eT, alK_snoc e2]
        simp only [List.append_assoc, List.singleton_append]
        exact List.perm_middle.symm
      · refine sds_end (fun _ _ hh => ⟨(ps ++ [p], st ++ [(seesM s a, [a])]), ⟨?_, by simp [e2]⟩, hh⟩) (by repeat (first | exact trivial | refine And.intro rfl ?_))
        dsimp only
        rw [snoc, ← e1]
        exact hal.symm
  · obtain ⟨ps, st⟩ := b
    obtain ⟨e1, e2⟩ := hI
    dsimp only at e1 e2
    refine sds_retTab (ps := ps) (T := alT st) (O' := [(q, moN P w K C (encT t3) q (alK ps st))]) (ed_conv (ed_listVals T.list (ed_var 1) (List.mem_append_right _ List.mem_cons_self)) (by rw [alK_vals e2])) (by simp [alT, e2]) rfl ?_
    rw [e1]
    unfold alT lotsM encL
    rw [List.map_map, List.map_map]
    rfl
end
end Sw
/-! Walks: charts. -/
namespace Sw
open PySem PySem.Spec L2
def hereM (a : T3) : T3 := (a.1, a.2.1, 0)
theorem here_ok {n : Int} {a : T3} (h : MotOk n a) : MotOk n (hereM a) := ⟨h.1, h.2.1, h.2.2.1, h.2.2.2.1, Int.le_refl 0, by show (0 : Int) ≤ 3; decide⟩
/-- what is known of the class Chart -/
structure ChF (K : PySem.W.Frag) (c : Addr) : Prop where
  cl : Cls K c
  n1 : NoAttr K c "_sky"
  n2 : NoAttr K c "_bounds"
  n3 : NoAttr K c "_found"
theorem sds_if2 {X : Cx} {C : Addr} {ds : Dsl} {O O' : Led} {E : En} {c : Expr} {body orelse rest : List Stmt} {pos : Pos} {k : Bool} {D : Ends} (ds1 ds2 : Dsl) (O1 O2 : Led) (hc : BD X C ds O c k O') (h1 : k = true → SDs X (At X C E ds O') body { D with nx := At X C E ds1 O1 }) (r1 : k = true → SDs X (At X C E ds1 O1) rest D) (h2 : k = false → SDs X (At X C E ds O') orelse { D with nx := At X C E ds2 O2 }) (r2 : k = false → SDs X (At X C E ds2 O2) rest D) : SDs X (At X C E ds O) (.If c body orelse pos :: rest) D := sds_if hc h1 r1 h2 r2
section
variable {P : Program} {w : World} {K : PySem.W.Frag} {mg : Str → Option Value} {base : Heap} {C cc : Addr}
def r_Chart_init (P : Program) (w : World) (K : PySem.W.Frag) (C cc : Addr) (as : List Dat) (post : Addr → Led → Prop) : Prop := ∃ (s : SkyD) (m f : Int), as = [.sky s, .int m, .int f] ∧ post = fun x O' => ∃ q, O' = [(x, moI K C cc chartN [.sky s, t2 (m, f), .loc q]), (q, moN P w K C encC q [])]
theorem sc_Chart_init : FnScope ["self", "sky", "missing", "false"] ["self", "sky", "missing", "false"] (defScope s_Chart_init) := ⟨rfl, rfl, rfl, by decide +kernel, rfl, by decide +kernel, by decide +kernel⟩
theorem ini_Chart {f : Addr} {fd : FuncData} (Fn : FunD K "__init__" "Chart.__init__" (defArgs s_Chart_init) (defBody s_Chart_init) (defScope s_Chart_init) [] [] f fd) (I : ChF K cc) : FnOk P w K mg base CX0 1 f fd ["self", "sky", "missing", "false"] (spI K C cc (r_Chart_init P w K C cc)) := by
  refine fn_init Fn sc_Chart_init (fun as post ⟨_, _, _, h, _⟩ => by rw [h]; rfl) fun cdv A outer s0 H E0 hr F x as post h => ?_
  obtain ⟨s, m, f, rfl, rfl⟩ := h
  refine sds_fld I.cl I.n1 (EDG.of (ed_var 1)) (fun O => ed_var 0) (by decide) (by decide) (fun d N hd => ?_)
  obtain ⟨rfl, rfl⟩ := hd
  refine sds_fld I.cl I.n2 (EDG.of (ed_tup (ad_cons (ed_var 2) (ad_cons (ed_var 3) ad_nil)))) (fun O => ed_var 0) (by decide) (by decide) (fun d N hd => ?_)
  obtain ⟨rfl, rfl⟩ := hd
  refine sds_fld I.cl I.n3 (edg_newN encC) (fun O => ed_var 0) (by decide) (by decide) (fun d N hd => ?_)
  obtain ⟨q, rfl, rfl⟩ := hd
  refine sds_perm (List.Perm.swap _ _ _) (sds_nil fun σ H h => ⟨_, _, h, q, rfl⟩)
theorem edg_Chart {X : Cx} {ds : Dsl} {O : Led} {e : Expr} {es : List Expr} {p pos : Pos} {s : SkyD} {m f : Int} (M : Cmk X.prog X.w X.K X.mg X.base 1 "Chart" cc ["self", "sky", "missing", "false"] (spI X.K C cc (r_Chart_init X.prog X.w X.K C cc))) (hr : Room 2 X.A) (h : AD X C ds O (e :: es) [.sky s, .int m, .int f] O)
    (hg : Gl X "Chart" := by rfl) (hp : Pl X e es pos := by exact ⟨rfl, rfl⟩) : EDG X C ds O (.Call (.Name "Chart" p) (e :: es) [] pos) fun d N => ∃ q, d = chartD cc s m f q ∧ N = [(q, moN X.prog X.w X.K C encC q [])] :=
  edg_make M hr h ⟨s, m, f, rfl, rfl⟩ (fun x O1 F1 H1 ⟨q, hO⟩ ok => ⟨_, _, _, _, hO, ⟨q, rfl, rfl⟩, fun dx zs F2 ex e1 e2 e3 => .obj e1 e2 e3⟩) hg hp
/-- the chart behind its making, its cache as val says -/
theorem chart_close {X : Cx} {ds : Dsl} {O : Led} {E : En} {st : List Stmt} {D : Ends} {q : Addr} (n : Int) (val : T3 × T3 → Bool) (h : SDs X (At X C E ds ((q, moC X.prog X.w X.K C n val q) :: O)) st D) : SDs X (At X C E ds ([(q, moN X.prog X.w X.K C encC q [])] ++ O)) st D :=
  sds_closeC (A := []) CacheOk.nil h
def r_tells (P : Program) (w : World) (K : PySem.W.Frag) (C cc : Addr) (ds : List Dat) (O : Led) (post : Dat → Led → Prop) : Prop := ∃ (s : SkyD) (m f : Int) (q : Addr) (val : T3 × T3 → Bool) (a mo : T3) (A B : Led),
  ds = [chartD cc s m f q, t3 a, t3 mo] ∧ O = A ++ (q, moC P w K C s.side val q) :: B ∧ SkyOk s ∧ MotOk s.side a ∧ MotOk s.side mo ∧ val (hereM a, mo) = !(decide (unlM s (hereM a) (moveM s.side (hereM a) mo) ≤ m + f)) ∧
  val (hereM (moveM s.side (hereM a) mo), revM s.side mo) = val (hereM a, mo) ∧ post = fun d' O' => d' = .bl (val (hereM a, mo)) ∧ O' = O
theorem sc_tells : FnScope ["self", "attitude", "motion", "here", "there", "told"] ["self", "attitude", "motion"] (defScope s_Chart_tells) := ⟨rfl, rfl, rfl, by decide +kernel, rfl, by decide +kernel, by decide +kernel⟩
theorem revM_ok {n : Int} (hn : 0 < n) (m : T3) : MotOk n (revM n m) := by
  have a := Int.emod_nonneg (turnM (-m.2.2) (-m.1, -m.2.1)).1 (Int.ne_of_gt hn)
  have b := Int.emod_lt_of_pos (turnM (-m.2.2) (-m.1, -m.2.1)).1 hn
  have c := Int.emod_nonneg (turnM (-m.2.2) (-m.1, -m.2.1)).2 (Int.ne_of_gt hn)
  have d := Int.emod_lt_of_pos (turnM (-m.2.2) (-m.1, -m.2.1)).2 hn
  exact ⟨a, b, c, d, by show 0 ≤ -m.2.2 % 4; omega, by show -m.2.2 % 4 ≤ 3; omega⟩
theorem mtd_tells {f : Addr} {fd : FuncData} (Fn : FunD K "tells" "Chart.tells" (defArgs s_Chart_tells) (defBody s_Chart_tells) (defScope s_Chart_tells) [] [] f fd) (I : ChF K cc)
    (h_moved : Cal P w K mg base 4 "moved" ["sky", "attitude", "motion"] (spP K C r_moved)) (h_reversed_motion : Cal P w K mg base 4 "reversed_motion" ["sky", "motion"] (spP K C r_reversed_motion)) (h_are_confusable : Cal P w K mg base 10 "are_confusable" ["sky", "one", "other", "missing", "false"] (spP K C r_are_confusable)) : FnOk P w K mg base CX0 11 f fd ["self", "attitude", "motion"] (spL K C (r_tells P w K C cc)) := by
  refine fn_def Fn sc_tells (fun ds O post ⟨_, _, _, _, _, _, _, _, _, h, _⟩ => by rw [h]; rfl) fun cdv A outer s0 H E0 hr F O ds post h ok0 => ?_
  have nd := sc_tells.nd
  obtain ⟨s, m, fl, q, val, a, mo, A0, B0, rfl, rfl, hs, ha, hm, v1, v2, rfl⟩ := h
  have n0 : 0 < s.side := by have := hs.n4; omega
  have n9 := hs.n9
  have few : s.stars.length ≤ 1000 := Nat.le_trans hs.few (by decide)
  have hh := here_ok ha
  have ht := moveM_ok n0 (hereM a) mo
  have hth := here_ok ht
  refine sds_openC fun kvs c => ?_
  have fewk := c.few n9
  refine sds_set (i := 3) (d := t3 (hereM a)) nd (ed_catT (ed_slT (ed_var 1) pd_none (pd_some ed_int)) (ed_tup (ad_cons ed_int ad_nil))) ?_
  refine sds_if2 [some (chartD cc s m fl q), some (t3 a), some (t3 mo), some (t3 (hereM a)), none, none] [some (chartD cc s m fl q), some (t3 a), some (t3 mo), some (t3 (hereM a)), none, none] (A0 ++ (q, moN P w K C encC q (putD (putD kvs (hereM (moveM s.side (hereM a) mo), revM s.side mo) (.bl (val (hereM a, mo)))) (hereM a, mo) (.bl (val (hereM a, mo))))) :: B0) (A0 ++ (q, moN P w K C encC q kvs) :: B0) (bd_ninN (k := (hereM a, mo)) nk_cache hr.units (ed_tup (ad_cons (ed_var 3) (ad_cons (ed_var 2) ad_nil))) (ed_fldC I.cl I.n3 (ed_var 0) .found) (List.mem_append_right _ List.mem_cons_self) encC_tup) (fun h => ?b1) (fun h => ?r1) (fun h => ?b2) (fun h => ?r2)
  case b1 =>
    refine sds_set (i := 4) nd (ed_call h_moved (hr.mono (by decide)) (ad_cons (ed_fldC I.cl I.n1 (ed_var 0) .sky) (ad_cons (ed_var 3) (ad_cons (ed_var 2) ad_nil))) ⟨_, _, _, rfl, hh, hm, rfl⟩) ?_
    refine sds_set (i := 5) (d := .bl (val (hereM a, mo))) nd (ed_conv (ed_not (ed_call h_are_confusable (hr.mono (by decide)) (ad_cons (ed_fldC I.cl I.n1 (ed_var 0) .sky) (ad_cons (ed_var 3) (ad_cons (ed_var 4) (ad_cons (ed_ixT (ed_fldC I.cl I.n2 (ed_var 0) .bounds) (by exact ed_int) rfl) (ad_cons (ed_ixT (ed_fldC I.cl I.n2 (ed_var 0) .bounds) (by exact ed_int) rfl) ad_nil))))) ⟨s, _, _, m, fl, rfl, hh, ht, few, hs.cam.b0, hs.cam.b2, hs.cam.g0, hs.cam.g2, rfl⟩)) (by rw [v1])) ?_
    refine sds_putN A0 B0 nk_cache hr.units (k := (hereM (moveM s.side (hereM a) mo), revM s.side mo)) (kvs := kvs) (d := .bl (val (hereM a, mo))) (ed_var 5) (ed_fldC I.cl I.n3 (ed_var 0) .found) (ed_tup (ad_cons (ed_catT (ed_slT (ed_var 4) pd_none (pd_some ed_int)) (ed_tup (ad_cons ed_int ad_nil))) (ad_cons (ed_call h_reversed_motion (hr.mono (by decide)) (ad_cons (ed_fldC I.cl I.n1 (ed_var 0) .sky) (ad_cons (ed_var 2) ad_nil)) ⟨_, _, rfl, hm, rfl⟩) ad_nil))) (by omega) encC_tup ?_
    refine sds_putN A0 B0 nk_cache hr.units (k := (hereM a, mo)) (d := .bl (val (hereM a, mo))) (kvs := putD kvs (hereM (moveM s.side (hereM a) mo), revM s.side mo) (.bl (val (hereM a, mo)))) (ed_var 5) (ed_fldC I.cl I.n3 (ed_var 0) .found) (ed_tup (ad_cons (ed_var 3) (ad_cons (ed_var 2) ad_nil))) (by have := (c.put (k := (hereM (moveM s.side (hereM a) mo), revM s.side mo)) hth rfl (revM_ok n0 mo) v2.symm).few n9; omega) encC_tup ?_
    exact sds_end (fun _ _ h => h) (by repeat (first | exact trivial | refine And.intro rfl ?_))
  case b2 => exact sds_end (fun _ _ h => h) (by repeat (first | exact trivial | refine And.intro rfl ?_))
  case r1 =>
    have c1 := c.put (k := (hereM (moveM s.side (hereM a) mo), revM s.side mo)) hth rfl (revM_ok n0 mo) v2.symm
    have c2 := c1.put (k := (hereM a, mo)) hh rfl hm (b := val (hereM a, mo)) rfl
    exact sds_retC (A := A0) (B := B0) (post := fun d' O' => d' = .bl (val (hereM a, mo)) ∧ O' = A0 ++ (q, moC P w K C s.side val q) :: B0) c2 (ed_getN nk_cache hr.units (k := (hereM a, mo)) (ed_fldC I.cl I.n3 (ed_var 0) .found) (ed_tup (ad_cons (ed_var 3) (ad_cons (ed_var 2) ad_nil))) (List.mem_append_right _ List.mem_cons_self) (lookD_put _ _ _) encC_tup) ⟨rfl, rfl⟩
  case r2 =>
    cases hl : lookD kvs (hereM a, mo) with
    | none => rw [hl] at h; exact Bool.noConfusion h
    | some d =>
      have e := c.look hl
      subst e
      exact sds_retC (A := A0) (B := B0) (post := fun d' O' => d' = .bl (val (hereM a, mo)) ∧ O' = A0 ++ (q, moC P w K C s.side val q) :: B0) c (ed_getN nk_cache hr.units (k := (hereM a, mo)) (ed_fldC I.cl I.n3 (ed_var 0) .found) (ed_tup (ad_cons (ed_var 3) (ad_cons (ed_var 2) ad_nil))) (List.mem_append_right _ List.mem_cons_self) hl encC_tup) ⟨rfl, rfl⟩
end
end Sw
/-! Walks: what uses charts. -/
namespace Sw
open PySem PySem.Spec L2
/-- val answers as tells does, for one motion -/
def TellOk (s : SkyD) (m f : Int) (val : T3 × T3 → Bool) (mo : T3) : Prop := ∀ a, MotOk s.side a → val (hereM a, mo) = !(decide (unlM s (hereM a) (moveM s.side (hereM a) mo) ≤ m + f)) ∧ val (hereM (moveM s.side (hereM a) mo), revM s.side mo) = val (hereM a, mo)
def MtT (P : Program) (w : World) (K : PySem.W.Frag) (mg : Str → Option Value) (base : Heap) (C cc : Addr) : Prop := ∃ f fd, Meth K cc "tells" f ∧ FnOk P w K mg base CX0 11 f fd ["self", "attitude", "motion"] (spL K C (r_tells P w K C cc)) ∧ Binds K fd ["self", "attitude", "motion"] []
abbrev CmkC (P : Program) (w : World) (K : PySem.W.Frag) (mg : Str → Option Value) (base : Heap) (C cc : Addr) : Prop := Cmk P w K mg base 1 "Chart" cc ["self", "sky", "missing", "false"] (spI K C cc (r_Chart_init P w K C cc))
section
variable {X : Cx} {C cc : Addr} {ds : Dsl} {O A B : Led} {o e e2 : Expr} {es : List Expr} {apos pos : Pos} {s : SkyD} {m f : Int} {q : Addr} {val : T3 × T3 → Bool} {a mo : T3} {pl : Sem Bool}
theorem ed_tells (I : ChF X.K cc) (M : MtT X.prog X.w X.K X.mg X.base C cc) (hr : Room 11 X.A) (hs : SkyOk s) (ha : MotOk s.side a) (hm : MotOk s.side mo) (tk : TellOk s m f val mo) (hO : O = A ++ (q, moC X.prog X.w X.K C s.side val q) :: B) (ho : ED X C ds O o (chartD cc s m f q) O) (he : AD X C ds O (e :: es) [t3 a, t3 mo] O)
    (hst : starEach (e :: es) X.env = (false, eval e X.env) :: starEach es X.env := by rfl) (hpl : (backTo pos (starEach es X.env)).any (·.1) = false := by rfl)
    (ht : eval (.Call (.Attribute o "tells" apos) (e :: es) [] pos) X.env = (do
      let ov ← eval o X.env
      standAt apos.atName
      let (f, first) ← holding [ov] (getMethod ov "tells" pl)
      callWith pos f first (backTo pos (starEach (e :: es) X.env)) (backToKw pos (keywordEach [] X.env))) := by rfl) : ED X C ds O (.Call (.Attribute o "tells" apos) (e :: es) [] pos) (.bl (val (hereM a, mo))) O :=
  ed_methC I.cl M hr ho he ⟨s, m, f, q, val, a, mo, A, B, rfl, hO, hs, ha, hm, (tk a ha).1, (tk a ha).2, rfl⟩ (fun v1 v2 v3 => rfl) hst hpl ht
end
theorem edg_ChartC {X : Cx} {C cc : Addr} {ds : Dsl} {O : Led} {e : Expr} {es : List Expr} {p pos : Pos} {s : SkyD} {m f : Int} (n : Int) (val : T3 × T3 → Bool) (M : CmkC X.prog X.w X.K X.mg X.base C cc) (hr : Room 2 X.A) (h : AD X C ds O (e :: es) [.sky s, .int m, .int f] O)
    (hg : Gl X "Chart" := by rfl) (hp : Pl X e es pos := by exact ⟨rfl, rfl⟩) : EDG X C ds O (.Call (.Name "Chart" p) (e :: es) [] pos) fun d N => ∃ q, d = chartD cc s m f q ∧ N = [(q, moC X.prog X.w X.K C n val q)] :=
  ⟨fun σ H F ok env Q k => (edg_Chart M hr h hg hp).run σ H F ok env Q fun v H' F' d N g ok' hn hd ⟨q, e1, e2⟩ => by
    subst e2
    refine k v H' F' d [(q, moC X.prog X.w X.K C n val q)] g (ok'.swap (A := []) (moC_ok (ok'.at_ (q, moN X.prog X.w X.K C encC q []) (by simp)) CacheOk.nil)) (fun e he => ?_) hd ⟨q, e1, rfl⟩
    rw [List.mem_singleton.mp he]
    exact hn (q, moN X.prog X.w X.K C encC q []) (by simp)⟩
section
variable {P : Program} {w : World} {K : PySem.W.Frag} {mg : Str → Option Value} {base : Heap} {C cc : Addr}
def RowPost (s : SkyD) (a mo : T3) (cs : List T3) (val : T3 × T3 → Bool) (d : Dat) : Prop := ∃ fw, WaysOk s.side a cs fw ∧ ((∀ t ∈ fw.map (·.1), val (hereM t, mo) = false) → d = .non) ∧ ((∃ t ∈ fw.map (·.1), val (hereM t, mo) = true) → ∃ xs, d = .lst xs)
def r_row_to_teller (P : Program) (w : World) (K : PySem.W.Frag) (C cc : Addr) (ds : List Dat) (O : Led) (post : Dat → Led → Prop) : Prop := ∃ (s : SkyD) (m f : Int) (q : Addr) (val : T3 × T3 → Bool) (a mo : T3) (cs : List T3) (A B : Led),
  ds = [.sky s, chartD cc s m f q, t3 a, t3 mo, encL t3 cs] ∧ O = A ++ (q, moC P w K C s.side val q) :: B ∧ SkyOk s ∧ MotOk s.side a ∧ MotOk s.side mo ∧ CmdsOk s.side cs ∧ TellOk s m f val mo ∧ post = fun d O' => O' = O ∧ RowPost s a mo cs val d
theorem sc_row_to_teller : FnScope ["sky", "chart", "attitude", "motion", "commands", "ways", "there"] ["sky", "chart", "attitude", "motion", "commands"] (defScope s_row_to_teller) := ⟨rfl, rfl, rfl, by decide +kernel, rfl, by decide +kernel, by decide +kernel⟩
theorem keysW (f : List Way) : ((encW f).map (·.1)).map (fun k => Dat.tup (k.map .int)) = (f.map (·.1)).map t3 := by
  unfold encW
  rw [List.map_map, List.map_map, List.map_map]
  rfl
theorem cal_row_to_teller (D : Dfn K mg "row_to_teller" s_row_to_teller) (I : ChF K cc) (M : MtT P w K mg base C cc) (h_ways_from : Cal P w K mg base 5 "ways_from" ["sky", "attitude", "commands"] (spL K C r_ways_from)) (h_row_along : Cal P w K mg base 1 "row_along" ["ways", "goal"] (spL K C r_row_along)) :
    Cal P w K mg base 12 "row_to_teller" ["sky", "chart", "attitude", "motion", "commands"] (spL K C (r_row_to_teller P w K C cc)) := by
  refine cal_def D sc_row_to_teller (fun ds O post ⟨_, _, _, _, _, _, _, _, _, _, h, _⟩ => by rw [h]; rfl) (fun _ _ _ _ _ _ us hl => match us, hl with | [_, _, _, _, _], _ => rfl) fun f cdv A outer s0 H E0 hr F O ds post h ok0 => ?_
  have nd := sc_row_to_teller.nd
  obtain ⟨s, m, fl, q, val, a, mo, cs, A0, B0, rfl, hO, hs, ha, hm, hcs, tk, rfl⟩ := h
  have n9 := hs.n9
  refine sds_setL 5 nd (edl_call h_ways_from (hr.mono (by decide)) (ad_cons (ed_var 0) (ad_cons (ed_var 2) (ad_cons (ed_var 4) ad_nil))) ⟨s, a, cs, rfl, ha, n9, hcs, rfl⟩ (fun d O' h => by rw [h.1])) fun d O' h => ?_
  obtain ⟨rfl, fw, rfl, wo⟩ := h
  refine sds_for (fw.map (·.1)) t3 (sh1 6) (fun pre => ∀ t ∈ pre, val (hereM t, mo) = false) (fun pre => [some (.sky s), some (chartD cc s m fl q), some (t3 a), some (t3 mo), some (encL t3 cs), some (dctW fw), none]) (fun pre => O') (it_keysT (ed_var 5)) (gt_name 6 nd) (fun t ht => nomatch ht) (by repeat (first | exact trivial | refine And.intro rfl ?_)) rfl (fun pre t post hL hI E1 => ⟨_, rfl, ?_⟩) (fun hI => ?_) (keysW fw)
  · have tm : t ∈ fw.map (·.1) := by rw [hL]; simp
    have tok : MotOk s.side t := by
      obtain ⟨p, hp, rfl⟩ := List.mem_map.mp tm
      exact wo.1.ok p hp
    refine sds_ifR (bd_val (ed_tells I M (hr.mono (by decide)) hs tok hm tk hO (ed_var 1) (ad_cons (ed_var 6) (ad_cons (ed_var 3) ad_nil)))) (fun h => ?_) (fun h => ?_)
    · refine sds_retL (edl_call h_row_along (hr.mono (by decide)) (ad_cons (ed_var 5) (ad_cons (ed_var 6) ad_nil)) ⟨s.side, a, fw, t, rfl, n9, wo.1, tm, rfl⟩ (fun d O' h => by rw [h.1])) fun d O1 h2 => ?_
      obtain ⟨rfl, xs, rfl⟩ := h2
      exact ⟨rfl, fw, wo, (fun hf => by rw [hf t tm] at h; cases h), fun _ => ⟨xs, rfl⟩⟩
    · refine sds_end (fun _ _ hh => ⟨fun t' ht' => ?_, hh⟩) (by repeat (first | exact trivial | refine And.intro rfl ?_))
      rcases List.mem_append.mp ht' with h' | h'
      · exact hI t' h'
      · rw [List.mem_singleton.mp h']; exact h
  · refine sds_ret ed_non ?_
    refine ⟨rfl, fw, wo, fun _ => rfl, fun ⟨t, ht, e⟩ => ?_⟩
    rw [hI t ht] at e
    cases e
def r_telling_row (ds : List Dat) (O : Led) (post : Dat → Led → Prop) : Prop := ∃ (s : SkyD) (m f : Int) (val : T3 × T3 → Bool) (a b : T3) (cs : List T3),
  ds = [.sky s, t3 a, t3 b, encL t3 cs, .int m, .int f] ∧ O = [] ∧ SkyOk s ∧ MotOk s.side a ∧ MotOk s.side b ∧ CmdsOk s.side cs ∧ TellOk s m f val (betwM s.side a b) ∧ post = fun d O' => O' = [] ∧ RowPost s a (betwM s.side a b) cs val d
theorem sc_telling_row : FnScope ["sky", "one", "other", "commands", "missing", "false", "motion"] ["sky", "one", "other", "commands", "missing", "false"] (defScope s_telling_row) := ⟨rfl, rfl, rfl, by decide +kernel, rfl, by decide +kernel, by decide +kernel⟩
theorem betwM_ok {n : Int} (hn : 0 < n) (a b : T3) : MotOk n (betwM n a b) :=
  ⟨Int.emod_nonneg _ (Int.ne_of_gt hn), Int.emod_lt_of_pos _ hn, Int.emod_nonneg _ (Int.ne_of_gt hn), Int.emod_lt_of_pos _ hn, by show 0 ≤ (b.2.2 - a.2.2) % 4; omega, by show (b.2.2 - a.2.2) % 4 ≤ 3; omega⟩
theorem cal_telling_row (D : Dfn K mg "telling_row" s_telling_row) (N : CmkC P w K mg base C cc) (h_check_two : Cal P w K mg base 4 "check_two" ["sky", "one", "other"] (spP K C r_check_two)) (h_check_commands : Cal P w K mg base 4 "check_commands" ["sky", "commands"] (spP K C r_check_commands))
    (h_motion_between : Cal P w K mg base 4 "motion_between" ["sky", "one", "other"] (spP K C r_motion_between)) (h_row : Cal P w K mg base 12 "row_to_teller" ["sky", "chart", "attitude", "motion", "commands"] (spL K C (r_row_to_teller P w K C cc))) :
    Cal P w K mg base 13 "telling_row" ["sky", "one", "other", "commands", "missing", "false"] (spL K C r_telling_row) := by
  refine cal_def D sc_telling_row (fun ds O post ⟨_, _, _, _, _, _, _, h, _⟩ => by rw [h]; rfl) (fun _ _ _ _ _ _ us hl => match us, hl with | [_, _, _, _, _, _], _ => rfl) fun f cdv A outer s0 H E0 hr F O ds post h ok0 => ?_
  have nd := sc_telling_row.nd
  obtain ⟨s, m, fl, val, a, b, cs, rfl, rfl, hs, ha, hb, hcs, tk, rfl⟩ := h
  have n0 : 0 < s.side := by have := hs.n4; omega
  refine sds_expr (ed_call h_check_two (hr.mono (by decide)) (ad_cons (ed_var 0) (ad_cons (ed_var 1) (ad_cons (ed_var 2) ad_nil))) ⟨_, _, _, rfl, ha, hb, rfl⟩) ?_
  refine sds_expr (ed_call h_check_commands (hr.mono (by decide)) (ad_cons (ed_var 0) (ad_cons (ed_var 3) ad_nil)) ⟨_, _, rfl, hcs, rfl⟩) ?_
  refine sds_set (i := 6) nd (ed_call h_motion_between (hr.mono (by decide)) (ad_cons (ed_var 0) (ad_cons (ed_var 1) (ad_cons (ed_var 2) ad_nil))) ⟨_, _, _, rfl, ha, hb, rfl⟩) ?_
  refine sds_retG h_row (hr.mono (by decide)) (adg_cons (ed_var 0) (adg_mk (edg_ChartC s.side val N (hr.mono (by decide)) (ad_cons (ed_var 0) (ad_cons (ed_var 4) (ad_cons (ed_var 5) ad_nil)))) (fun d N h => ad_cons (ed_var 1) (ad_cons (ed_var 6) (ad_cons (ed_var 3) ad_nil))))) fun xs N h => ?_
  obtain ⟨ys, rfl, d, rfl, q, rfl, rfl⟩ := h
  exact ⟨_, ⟨s, m, fl, q, val, a, betwM s.side a b, cs, [], [], rfl, rfl, hs, ha, betwM_ok n0 a b, hcs, tk, rfl⟩, fun d O' h => ⟨rfl, h.2⟩⟩
def r_is_hidden (P : Program) (w : World) (K : PySem.W.Frag) (C cc : Addr) (ds : List Dat) (O : Led) (post : Dat → Led → Prop) : Prop := ∃ (s : SkyD) (m f : Int) (q : Addr) (val : T3 × T3 → Bool) (mo : T3) (A B : Led),
  ds = [.sky s, chartD cc s m f q, t3 mo] ∧ O = A ++ (q, moC P w K C s.side val q) :: B ∧ SkyOk s ∧ MotOk s.side mo ∧ TellOk s m f val mo ∧ post = fun d O' => d = .bl ((placesM s.side.toNat).all fun a => !val (hereM a, mo)) ∧ O' = O
theorem sc_is_hidden : FnScope ["sky", "chart", "motion", "attitude"] ["sky", "chart", "motion"] (defScope s_is_hidden) := ⟨rfl, rfl, rfl, by decide +kernel, rfl, by decide +kernel, by decide +kernel⟩
theorem places_ok {n : Int} {a : T3} (h : a ∈ placesM n.toNat) : MotOk n a := trips_mem (List.mem_filter.mp h).1
theorem places_len {n : Int} (h : n ≤ 9) : (placesM n.toNat).length ≤ 324 := Nat.le_trans (List.length_filter_le _ _) (trips_le (by omega))
theorem cal_is_hidden (D : Dfn K mg "is_hidden" s_is_hidden) (I : ChF K cc) (M : MtT P w K mg base C cc) (h_places_of : Cal P w K mg base 4 "places_of" ["sky"] (spP K C r_places_of)) : Cal P w K mg base 12 "is_hidden" ["sky", "chart", "motion"] (spL K C (r_is_hidden P w K C cc)) := by
  refine cal_def D sc_is_hidden (fun ds O post ⟨_, _, _, _, _, _, _, _, h, _⟩ => by rw [h]; rfl) (fun _ _ _ _ _ _ us hl => match us, hl with | [_, _, _], _ => rfl) fun f cdv A outer s0 H E0 hr F O ds post h ok0 => ?_
  have nd := sc_is_hidden.nd
  obtain ⟨s, m, fl, q, val, mo, A0, B0, rfl, hO, hs, hm, tk, rfl⟩ := h
  have n4 := hs.n4
  have n9 := hs.n9
  refine sds_for (placesM s.side.toNat) t3 (sh1 3) (fun pre => ∀ t ∈ pre, val (hereM t, mo) = false) (fun pre => [some (.sky s), some (chartD cc s m fl q), some (t3 mo), none]) (fun pre => O) (it_list (ed_call h_places_of (hr.mono (by decide)) (ad_cons (ed_var 0) ad_nil) ⟨_, rfl, by omega, n9, rfl⟩)) (gt_name 3 nd) (fun t ht => nomatch ht) (by repeat (first | exact trivial | refine And.intro rfl ?_)) rfl (fun pre t post hL hI E1 => ⟨_, rfl, ?_⟩) (fun hI => ?_)
  · have tm : t ∈ placesM s.side.toNat := by rw [hL]; simp
    refine sds_ifR (bd_val (ed_tells I M (hr.mono (by decide)) hs (places_ok tm) hm tk hO (ed_var 1) (ad_cons (ed_var 3) (ad_cons (ed_var 2) ad_nil)))) (fun h => ?_) (fun h => ?_)
    · refine sds_ret ed_bl ?_
      refine ⟨?_, rfl⟩
      congr 1
      symm
      rw [List.all_eq_false]
      exact ⟨t, tm, by rw [h]; decide⟩
    · refine sds_end (fun _ _ hh => ⟨fun t' ht' => ?_, hh⟩) (by repeat (first | exact trivial | refine And.intro rfl ?_))
      rcases List.mem_append.mp ht' with h' | h'
      · exact hI t' h'
      · rw [List.mem_singleton.mp h']; exact h
  · refine sds_ret ed_bl ?_
    refine ⟨?_, rfl⟩
    congr 1
    symm
    rw [List.all_eq_true]
    exact fun t ht => by rw [hI t ht]; rfl
def r_telling_places (ds : List Dat) (d : Dat) : Prop := ∃ (s : SkyD) (mo : T3) (m f : Int) (val : T3 × T3 → Bool), ds = [.sky s, t3 mo, .int m, .int f] ∧ SkyOk s ∧ MotOk s.side mo ∧ TellOk s m f val mo ∧ d = .lst (((placesM s.side.toNat).filter fun a => val (hereM a, mo)).map fun a => t2 (a.1, a.2.1))
theorem sc_telling_places : FnScope ["sky", "motion", "missing", "false", "chart", "attitude"] ["sky", "motion", "missing", "false"] (defScope s_telling_places) := ⟨rfl, rfl, rfl, by decide +kernel, rfl, by decide +kernel, by decide +kernel⟩
theorem cal_telling_places (D : Dfn K mg "telling_places" s_telling_places) (I : ChF K cc) (M : MtT P w K mg base C cc) (N : CmkC P w K mg base C cc) (h_check_motion : Cal P w K mg base 3 "check_motion" ["sky", "motion"] (spP K C r_check_motion)) (h_places_of : Cal P w K mg base 4 "places_of" ["sky"] (spP K C r_places_of)) : Cal P w K mg base 12 "telling_places" ["sky", "motion", "missing", "false"] (spP K C r_telling_places) := by
  refine cal_pure D sc_telling_places (fun ds d ⟨_, _, _, _, _, h, _⟩ => by rw [h]; rfl) (fun _ _ _ _ _ _ us hl => match us, hl with | [_, _, _, _], _ => rfl) fun f cdv A outer s0 H E0 hr F ds d h => ?_
  have nd := sc_telling_places.nd
  obtain ⟨s, mo, m, fl, val, rfl, hs, hm, tk, rfl⟩ := h
  have n4 := hs.n4
  have n9 := hs.n9
  refine sds_expr (ed_call h_check_motion (hr.mono (by decide)) (ad_cons (ed_var 0) (ad_cons (ed_var 1) ad_nil)) ⟨_, _, rfl, hm, rfl⟩) ?_
  refine sds_setG 4 nd (edg_ChartC s.side val N (hr.mono (by decide)) (ad_cons (ed_var 0) (ad_cons (ed_var 2) (ad_cons (ed_var 3) ad_nil)))) fun d N h => ?_
  obtain ⟨q, rfl, rfl⟩ := h
  refine sds_ret (ed_lc (placesM s.side.toNat) t3 (sh1 5) (fun a => [some (.sky s), some (t3 mo), some (.int m), some (.int fl), some (chartD cc s m fl q), some (t3 a)]) (fun a => val (hereM a, mo)) (fun a => t2 (a.1, a.2.1)) [("attitude", 5)] (it_list (ed_call h_places_of (hr.mono (by decide)) (ad_cons (ed_var 0) ad_nil) ⟨_, rfl, by omega, n9, rfl⟩)) nd (blkOk_by (N := ["sky", "motion", "missing", "false", "chart", "attitude"]) (sc := defScope s_telling_places) (by decide +kernel)) (gb_name 5 nd) (fun a ha => rfl) (cd_one (cs (placesM s.side.toNat) fun a ha s0 H C1 cl fp => (bd_val (ed_tells (A := []) (B := []) I M (hr.mono (by decide)) hs (places_ok ha) hm tk rfl (ed_var 4) (ad_cons (ed_var 5) (ad_cons (ed_var 1) ad_nil)))))) (fun a ha ht s0 H C1 cl fp => (ed_slT (ed_var 5) pd_none (pd_some ed_int))) (by have := places_len n9; omega)) ?_
  rfl
def r_hidden_motions (ds : List Dat) (d : Dat) : Prop := ∃ (s : SkyD) (m f : Int) (val : T3 × T3 → Bool), ds = [.sky s, .int m, .int f] ∧ SkyOk s ∧ (∀ mo, MotOk s.side mo → TellOk s m f val mo) ∧ d = encL t3 ((tripsM s.side.toNat).filter fun mo => (placesM s.side.toNat).all fun a => !val (hereM a, mo))
theorem sc_hidden_motions : FnScope ["sky", "missing", "false", "chart", "motion"] ["sky", "missing", "false"] (defScope s_hidden_motions) := ⟨rfl, rfl, rfl, by decide +kernel, rfl, by decide +kernel, by decide +kernel⟩
theorem cal_hidden_motions (D : Dfn K mg "hidden_motions" s_hidden_motions) (N : CmkC P w K mg base C cc) (h_is_hidden : Cal P w K mg base 12 "is_hidden" ["sky", "chart", "motion"] (spL K C (r_is_hidden P w K C cc))) (h_motions : Cal P w K mg base 3 "motions" ["sky"] (spP K C r_motions)) : Cal P w K mg base 13 "hidden_motions" ["sky", "missing", "false"] (spP K C r_hidden_motions) := by
  refine cal_pure D sc_hidden_motions (fun ds d ⟨_, _, _, _, h, _⟩ => by rw [h]; rfl) (fun _ _ _ _ _ _ us hl => match us, hl with | [_, _, _], _ => rfl) fun f cdv A outer s0 H E0 hr F ds d h => ?_
  have nd := sc_hidden_motions.nd
  obtain ⟨s, m, fl, val, rfl, hs, tk, rfl⟩ := h
  have n4 := hs.n4
  have n9 := hs.n9
  refine sds_setG 3 nd (edg_ChartC s.side val N (hr.mono (by decide)) (ad_cons (ed_var 0) (ad_cons (ed_var 1) (ad_cons (ed_var 2) ad_nil)))) fun d N h => ?_
  obtain ⟨q, rfl, rfl⟩ := h
  refine sds_ret (ed_lcF (tripsM s.side.toNat) t3 (sh1 4) (fun a => [some (.sky s), some (.int m), some (.int fl), some (chartD cc s m fl q), some (t3 a)]) (fun mo => (placesM s.side.toNat).all fun a => !val (hereM a, mo)) [("motion", 4)] (it_list (ed_call h_motions (hr.mono (by decide)) (ad_cons (ed_var 0) ad_nil) ⟨_, rfl, by omega, n9, rfl⟩)) nd (blkOk_by (N := ["sky", "missing", "false", "chart", "motion"]) (sc := defScope s_hidden_motions) (by decide +kernel)) (gb_name 4 nd) (fun a ha => rfl) (cd_one (cs (tripsM s.side.toNat) fun a ha s0 H C1 cl fp => (bd_val (ed_L (edl_call h_is_hidden (hr.mono (by decide)) (ad_cons (ed_var 0) (ad_cons (ed_var 3) (ad_cons (ed_var 4) ad_nil))) ⟨s, m, fl, q, val, a, [], [], rfl, rfl, hs, trips_mem ha, tk a (trips_mem ha), rfl⟩ (fun d O' h => by rw [h.2])))))) (fun a ha s0 H C1 cl fp => (ed_var 4)) (by have := trips_le (n := s.side.toNat) (by omega); omega)) ?_
  rfl
end
end Sw
/-! Walks: a Sky made, its properties. -/
namespace Sw
open PySem PySem.Spec L2
def skyN : List Str := ["_side", "_stars", "_camera"]
/-- what is known of the class Sky -/
structure SyF (K : PySem.W.Frag) (C : Addr) : Prop where
  cl : Cls K C
  n1 : NoAttr K C "_side"
  n2 : NoAttr K C "_stars"
  n3 : NoAttr K C "_camera"
section
variable {P : Program} {w : World} {K : PySem.W.Frag} {mg : Str → Option Value} {base : Heap} {C : Addr} {f : Addr} {fd : FuncData}
theorem sc_Sky_side : FnScope ["self"] ["self"] (defScope s_Sky_side) := ⟨rfl, rfl, rfl, by decide +kernel, rfl, by decide +kernel, by decide +kernel⟩
theorem fn_side (Fn : FunD K "side" "Sky.side" (defArgs s_Sky_side) (defBody s_Sky_side) (defScope s_Sky_side) [] [] f fd) (I : SyF K C) : FnOk P w K mg base CX0 1 f fd ["self"] (spP K C (rG fun s => .int s.side)) := by
  refine fn_pure Fn sc_Sky_side (fun ds d ⟨_, h, _⟩ => by rw [h]; rfl) fun cdv A outer s0 H E0 hr F ds d h => ?_
  obtain ⟨s, rfl, rfl⟩ := h
  exact sds_ret (ed_fld I.cl I.n1 (ed_var 0) .side) rfl
theorem sc_Sky_stars : FnScope ["self"] ["self"] (defScope s_Sky_stars) := ⟨rfl, rfl, rfl, by decide +kernel, rfl, by decide +kernel, by decide +kernel⟩
theorem fn_stars (Fn : FunD K "stars" "Sky.stars" (defArgs s_Sky_stars) (defBody s_Sky_stars) (defScope s_Sky_stars) [] [] f fd) (I : SyF K C) : FnOk P w K mg base CX0 1 f fd ["self"] (spP K C (rG fun s => .tup (s.stars.map t3))) := by
  refine fn_pure Fn sc_Sky_stars (fun ds d ⟨_, h, _⟩ => by rw [h]; rfl) fun cdv A outer s0 H E0 hr F ds d h => ?_
  obtain ⟨s, rfl, rfl⟩ := h
  exact sds_ret (ed_fld I.cl I.n2 (ed_var 0) .stars) rfl
theorem sc_Sky_reach : FnScope ["self"] ["self"] (defScope s_Sky_reach) := ⟨rfl, rfl, rfl, by decide +kernel, rfl, by decide +kernel, by decide +kernel⟩
theorem fn_reach (Fn : FunD K "reach" "Sky.reach" (defArgs s_Sky_reach) (defBody s_Sky_reach) (defScope s_Sky_reach) [] [] f fd) (I : SyF K C) : FnOk P w K mg base CX0 1 f fd ["self"] (spP K C (rG fun s => .int s.reach)) := by
  refine fn_pure Fn sc_Sky_reach (fun ds d ⟨_, h, _⟩ => by rw [h]; rfl) fun cdv A outer s0 H E0 hr F ds d h => ?_
  obtain ⟨s, rfl, rfl⟩ := h
  exact sds_ret (ed_ixT (ed_fld I.cl I.n3 (ed_var 0) .camera) (by exact ed_int) rfl) rfl
theorem sc_Sky_blur : FnScope ["self"] ["self"] (defScope s_Sky_blur) := ⟨rfl, rfl, rfl, by decide +kernel, rfl, by decide +kernel, by decide +kernel⟩
theorem fn_blur (Fn : FunD K "blur" "Sky.blur" (defArgs s_Sky_blur) (defBody s_Sky_blur) (defScope s_Sky_blur) [] [] f fd) (I : SyF K C) : FnOk P w K mg base CX0 1 f fd ["self"] (spP K C (rG fun s => .int s.blur)) := by
  refine fn_pure Fn sc_Sky_blur (fun ds d ⟨_, h, _⟩ => by rw [h]; rfl) fun cdv A outer s0 H E0 hr F ds d h => ?_
  obtain ⟨s, rfl, rfl⟩ := h
  exact sds_ret (ed_ixT (ed_fld I.cl I.n3 (ed_var 0) .camera) (by exact ed_int) rfl) rfl
theorem sc_Sky_glare : FnScope ["self"] ["self"] (defScope s_Sky_glare) := ⟨rfl, rfl, rfl, by decide +kernel, rfl, by decide +kernel, by decide +kernel⟩
theorem fn_glare (Fn : FunD K "glare" "Sky.glare" (defArgs s_Sky_glare) (defBody s_Sky_glare) (defScope s_Sky_glare) [] [] f fd) (I : SyF K C) : FnOk P w K mg base CX0 1 f fd ["self"] (spP K C (rG fun s => .int s.glare)) := by
  refine fn_pure Fn sc_Sky_glare (fun ds d ⟨_, h, _⟩ => by rw [h]; rfl) fun cdv A outer s0 H E0 hr F ds d h => ?_
  obtain ⟨s, rfl, rfl⟩ := h
  exact sds_ret (ed_ixT (ed_fld I.cl I.n3 (ed_var 0) .camera) (by exact ed_int) rfl) rfl
theorem sc_Sky_limit : FnScope ["self"] ["self"] (defScope s_Sky_limit) := ⟨rfl, rfl, rfl, by decide +kernel, rfl, by decide +kernel, by decide +kernel⟩
theorem fn_limit (Fn : FunD K "limit" "Sky.limit" (defArgs s_Sky_limit) (defBody s_Sky_limit) (defScope s_Sky_limit) [] [] f fd) (I : SyF K C) : FnOk P w K mg base CX0 1 f fd ["self"] (spP K C (rG fun s => .int s.limit)) := by
  refine fn_pure Fn sc_Sky_limit (fun ds d ⟨_, h, _⟩ => by rw [h]; rfl) fun cdv A outer s0 H E0 hr F ds d h => ?_
  obtain ⟨s, rfl, rfl⟩ := h
  exact sds_ret (ed_ixT (ed_fld I.cl I.n3 (ed_var 0) .camera) (by exact ed_int) rfl) rfl
theorem sc_star_at : FnScope ["self", "number"] ["self", "number"] (defScope s_Sky_star_at) := ⟨rfl, rfl, rfl, by decide +kernel, rfl, by decide +kernel, by decide +kernel⟩
theorem fn_star_at (Fn : FunD K "star_at" "Sky.star_at" (defArgs s_Sky_star_at) (defBody s_Sky_star_at) (defScope s_Sky_star_at) [] [] f fd) (I : SyF K C) (T : Tx mg) : FnOk P w K mg base CX0 1 f fd ["self", "number"] (spP K C r_star_at) := by
  refine fn_pure Fn sc_star_at (fun ds d ⟨_, _, h, _⟩ => by rw [h]; rfl) fun cdv A outer s0 H E0 hr F ds d h => ?_
  obtain ⟨s, i, rfl, h0, h1, rfl⟩ := h
  refine sds_ifN (bd_conv (bd_not (bd_chain ed_int (ed_var 1) (ed_len T.len (ad_cons (ed_fld I.cl I.n2 (ed_var 0) .stars) ad_nil) (LenD.tup _)) c_le c_lt)) (by simp [h0, h1])) ?_
  exact sds_ret (ed_ixTi (ed_fld I.cl I.n2 (ed_var 0) .stars) (ed_var 1) h0 (star_get h0 h1)) rfl
def r_Sky_init (K : PySem.W.Frag) (C : Addr) (as : List Dat) (post : Addr → Led → Prop) : Prop := ∃ (n r b g l : Int) (ts : List T3), as = [.int n, encL t3 ts, camD r b g l] ∧ 4 ≤ n ∧ n ≤ 9 ∧ CamOk n r b g l ∧ ts.length ≤ 20 ∧ (∀ t ∈ ts, StarOk n t) ∧ ts.Nodup ∧ post = fun x O' => O' = [(x, moI K C C skyN [.int n, encT t3 (sort3 ts), camD r b g l])]
theorem sc_Sky_init : FnScope ["self", "side", "stars", "camera", "star"] ["self", "side", "stars", "camera"] (defScope s_Sky_init) := ⟨rfl, rfl, rfl, by decide +kernel, rfl, by decide +kernel, by decide +kernel⟩
theorem ini_Sky (Fn : FunD K "__init__" "Sky.__init__" (defArgs s_Sky_init) (defBody s_Sky_init) (defScope s_Sky_init) [] [] f fd) (I : SyF K C) (T : Tx mg) (h_is_camera : Cal P w K mg base 1 "is_camera" ["side", "camera"] (spP K C r_is_camera)) (h_is_star : Cal P w K mg base 1 "is_star" ["side", "star"] (spP K C r_is_star)) :
    FnOk P w K mg base CX0 2 f fd ["self", "side", "stars", "camera"] (spI K C C (r_Sky_init K C)) := by
  refine fn_init Fn sc_Sky_init (fun as post ⟨_, _, _, _, _, _, h, _⟩ => by rw [h]; rfl) fun cdv A outer s0 H E0 hr F x as post h => ?_
  have nd := sc_Sky_init.nd
  obtain ⟨n, r, b, g, l, ts, rfl, n4, n9, hc, hl, hst, hnd, rfl⟩ := h
  refine sds_ifN (bd_conv (BW.bd (bw_or (bd_not (bd_chain ed_int (ed_var 1) ed_int c_le c_le)) (fun _ => (bw_or1 (bd_not (bd_val (ed_call h_is_camera (hr.mono (by decide)) (ad_cons (ed_var 1) (ad_cons (ed_var 3) ad_nil)) ⟨n, r, b, g, l, rfl, hc, rfl⟩))))))) (by simp [n4, n9])) ?_
  refine sds_ifN (bd_conv (BW.bd (bw_or (bd_cmp (ed_len T.len (ad_cons (ed_var 2) ad_nil) (LenD.lst _)) (ed_gint rfl T.MOST_STARS) c_gt) (fun _ => (bw_or1 (bd_not (bd_val (ed_all T.all (ad_cons (ed_lcB ts t3 (sh1 4) (fun a => [some (.loc x), some (.int n), some (encL t3 ts), some (camD r b g l), some (t3 a)]) (fun _ => true) [("star", 4)] (it_list (ed_var 2)) nd (blkOk_by (N := ["self", "side", "stars", "camera", "star"]) (sc := defScope s_Sky_init) (by decide +kernel)) (gb_name 4 nd) (fun a ha => rfl) (fun a ha s H C1 cl fp => (ed_call h_is_star (hr.mono (by decide)) (ad_cons (ed_var 1) (ad_cons (ed_var 4) ad_nil)) ⟨n, a, rfl, hst a ha, rfl⟩)) (by omega)) ad_nil)))))))) (by simp; omega)) ?_
  refine sds_ifN (bd_conv (bd_cmp (ed_lenSet3 rfl hr.units T.len T.set (ed_var 2) (LstD.lst _) (by omega) hnd) (ed_len T.len (ad_cons (ed_var 2) ad_nil) (LenD.lst _)) c_ne) (by simp)) ?_
  refine sds_fld I.cl I.n1 (EDG.of (ed_var 1)) (fun O => ed_var 0) (by decide) (by decide) (fun d N hd => ?_)
  obtain ⟨rfl, rfl⟩ := hd
  refine sds_fld I.cl I.n2 (EDG.of (ed_tupleOf T.tuple (ad_cons (ed_sorted3 T.sorted (ad_cons (ed_var 2) ad_nil) (.lst (LstD.lst _))) ad_nil) (LstD.lst _))) (fun O => ed_var 0) (by decide) (by decide) (fun d N hd => ?_)
  obtain ⟨rfl, rfl⟩ := hd
  refine sds_fld I.cl I.n3 (EDG.of (ed_var 3)) (fun O => ed_var 0) (by decide) (by decide) (fun d N hd => ?_)
  obtain ⟨rfl, rfl⟩ := hd
  exact sds_nil fun σ H h => ⟨_, _, h, rfl⟩
abbrev CmkS (P : Program) (w : World) (K : PySem.W.Frag) (mg : Str → Option Value) (base : Heap) (C : Addr) : Prop := Cmk P w K mg base 2 "Sky" C ["self", "side", "stars", "camera"] (spI K C C (r_Sky_init K C))
theorem edg_Sky {X : Cx} {ds : Dsl} {O : Led} {e : Expr} {es : List Expr} {p pos : Pos} {n r b g l : Int} {ts : List T3} (M : CmkS X.prog X.w X.K X.mg X.base C) (hr : Room 3 X.A) (h : AD X C ds O (e :: es) [.int n, encL t3 ts, camD r b g l] O) (n4 : 4 ≤ n) (n9 : n ≤ 9) (hc : CamOk n r b g l) (hl : ts.length ≤ 20) (hst : ∀ t ∈ ts, StarOk n t) (hnd : ts.Nodup)
    (hg : Gl X "Sky" := by rfl) (hp : Pl X e es pos := by exact ⟨rfl, rfl⟩) : EDG X C ds O (.Call (.Name "Sky" p) (e :: es) [] pos) fun d N => d = .sky ⟨n, sort3 ts, r, b, g, l⟩ ∧ N = [] :=
  edg_make M hr h ⟨n, r, b, g, l, ts, rfl, n4, n9, hc, hl, hst, hnd, rfl⟩ (fun x O1 F1 H1 hO ok => ⟨_, _, _, _, hO, ⟨rfl, rfl⟩, fun dx zs F2 ex e1 e2 e3 => by
    match zs, e2, e3 with
    | [(n1, v1), (n2, v2), (n3, v3)], h2, h3 =>
      have q1 := (List.cons.inj h2).1
      have q2 := (List.cons.inj (List.cons.inj h2).2).1
      have q3 := (List.cons.inj (List.cons.inj (List.cons.inj h2).2).2).1
      dsimp only at q1 q2 q3
      subst q1 q2 q3
      cases h3 with
      | cons a1 r => cases r with
        | cons a2 r => cases r with
          | cons a3 r =>
            cases a1
            cases a2 with
            | tup b1 b2 => cases a3 with
              | tup c1 c2 =>
                cases c2 with
                | cons d1 c2 => cases c2 with
                  | cons d2 c2 => cases c2 with
                    | cons d3 c2 => cases c2 with
                      | cons d4 c2 =>
                        cases c2
                        cases d1
                        cases d2
                        cases d3
                        cases d4
                        exact .sky e1 b1 b2 c1⟩) hg hp
end
end Sw
/-! Walks: the law's defs. -/
namespace Sw
open PySem PySem.Spec L2
section
variable {P : Program} {w : World} {K : PySem.W.Frag} {mg : Str → Option Value} {base : Heap} {C : Addr}
def partsD (p : SkyD) : Dat := .tup [.int p.side, encL t3 p.stars, camD p.reach p.blur p.glare p.limit]
theorem num_get {N : List Int} (h : NumOk N) {i : Int} (h1 : i < 90) : (N.map Dat.int)[i.toNat]? = some (.int (numM N i)) := by
  rw [List.getElem?_map, (h.at_ h1).1]
  rfl
theorem sc_l_row : FnScope ["_law_cell", "_law_many", "_law_row_here", "_law_rest", "_law_state", "_law_k"] ["_law_cell", "_law_many"] (defScope s__law_row) := ⟨rfl, rfl, rfl, by decide +kernel, rfl, by decide +kernel, by decide +kernel⟩
def r_l_row (ds : List Dat) (d : Dat) : Prop := ∃ (c n : Int), ds = [.int c, .int n] ∧ 0 ≤ n ∧ n ≤ 1000 ∧ d = encL .int (rowM c n)
theorem cal_l_row (D : Dfn K mg "_law_row" s__law_row) (T : Tx mg) : Cal P w K mg base 1 "_law_row" ["_law_cell", "_law_many"] (spP K C r_l_row) := by
  refine cal_pure D sc_l_row (fun ds d ⟨_, _, h, _⟩ => by rw [h]; rfl) (fun _ _ _ _ _ _ us hl => match us, hl with | [_, _], _ => rfl) fun f cdv A outer s0 H E0 hr F ds d h => ?_
  have nd := sc_l_row.nd
  obtain ⟨c, n, rfl, h0, h1, rfl⟩ := h
  refine sds_newL (i := 2) nd fun q2 => ?_
  refine sds_set (i := 3) nd ed_int ?_
  refine sds_ifJ [some (.int c), some (.int n), some (.loc q2), some (.int (rowI c).2.1), none, none] [(q2, .lst [])] (bd_cmp (ed_abs T.abs (ad_cons (ed_var 0) ad_nil)) (ed_pow ed_int ed_int ⟨by decide, by decide, by decide⟩) c_ge) (fun h => ?_) (fun h => ?_) ?_
  · have h' : (10 : Int) ^ 18 ≤ absI c := of_decide_eq_true h
    have e : (rowI c).2.1 = absI c := if_pos h'
    refine sds_set (i := 3) (d := .int (rowI c).2.1) nd (ed_conv (ed_abs T.abs (ad_cons (ed_var 0) ad_nil)) (by rw [e]; rfl)) ?_
    exact sds_end (fun _ _ h => h) ⟨rfl, rfl, rfl, rfl, trivial⟩
  · have h' : ¬ (10 : Int) ^ 18 ≤ absI c := of_decide_eq_false h
    have e : (rowI c).2.1 = 0 := if_neg h'
    exact sds_end (fun _ _ h => h) ⟨rfl, rfl, rfl, by rw [e], trivial⟩
  refine sds_set (i := 4) nd (ed_mod (ed_toint T.int (ad_cons (ed_abs T.abs (ad_cons (ed_var 0) ad_nil)) ad_nil)) ed_int (by omega)) ?_
  refine sds_for (upto n.toNat) .int (sh1 5) (fun pre => True) (fun pre => [some (.int c), some (.int n), some (.loc q2), some (.int (rowF c pre).2.1), some (.int (rowF c pre).2.2), none]) (fun pre => [(q2, .lst ((rowF c pre).1.map .int))]) (it_rangeI T.range (ed_var 1) h0 (by omega)) (gt_name 5 nd) trivial ⟨rfl, rfl, rfl, rfl, rfl, trivial⟩ rfl (fun pre a post hL hI E1 => ⟨_, rfl, ?_⟩) (fun hI => ?_)
  · have p1 := pre_len hL
    rw [upto_len] at p1
    have ok := rowF_ok c pre
    have ol := ok.len
    refine sds_set (i := 4) nd (ed_mod (ed_toint T.int (ad_cons (ed_add (ed_mul (ed_add (ed_var 4) ed_int) ed_int (.inl (by have := ok.s0; have := ok.s1; omega))) (ed_mul ed_int (ed_var 5) (.inl (by decide)))) ad_nil)) ed_int (by omega)) ?_
    refine sds_ifJ [some (.int c), some (.int n), some (.loc q2), some (.int (rowF c (pre ++ [a])).2.1), some (.int (rowF c (pre ++ [a])).2.2), none] [(q2, .lst ((rowF c (pre ++ [a])).1.map .int))] (bd_cmp (ed_var 3) ed_int c_gt) (fun h => ?_) (fun h => ?_) ?_
    · have e : rowF c (pre ++ [a]) = ((rowF c pre).1 ++ [(rowF c pre).2.1 % 1009], (rowF c pre).2.1 / 1009, (((rowF c pre).2.2 + 1) * 48271 + 69621 * a) % 2147483647) := by
        rw [rowF_snoc]
        exact if_pos (of_decide_eq_true h)
      refine sds_expr (ed_append [] _ (ed_var 2) (ad_cons (ed_mod (ed_toint T.int (ad_cons (ed_var 3) ad_nil)) ed_int (by omega)) ad_nil) (by rw [List.length_map, ol]; omega)) ?_
      refine sds_set (i := 3) nd (ed_fdiv (ed_var 3) ed_int ⟨by decide, by decide⟩) ?_
      exact sds_end (fun _ _ h => h) (by rw [e]; exact ⟨rfl, rfl, rfl, rfl, rfl, trivial⟩) (by rw [e, List.map_append]; rfl)
    · have e : rowF c (pre ++ [a]) = ((rowF c pre).1 ++ [(((rowF c pre).2.2 + 1) * 48271 + 69621 * a) % 2147483647 / 2048 % 1009], (rowF c pre).2.1, (((rowF c pre).2.2 + 1) * 48271 + 69621 * a) % 2147483647) := by
        rw [rowF_snoc]
        exact if_neg (of_decide_eq_false h)
      refine sds_expr (ed_append [] _ (ed_var 2) (ad_cons (ed_mod (ed_toint T.int (ad_cons (ed_fdiv (ed_var 4) ed_int ⟨by decide, by decide⟩) ad_nil)) ed_int (by omega)) ad_nil) (by rw [List.length_map, ol]; omega)) ?_
      exact sds_end (fun _ _ h => h) (by rw [e]; exact ⟨rfl, rfl, rfl, rfl, rfl, trivial⟩) (by rw [e, List.map_append]; rfl)
    exact sds_end (fun _ _ h => ⟨trivial, h⟩) ⟨rfl, rfl, rfl, rfl, rfl, trivial⟩
  refine sds_freeze (i := 2) List.not_mem_nil ?_
  exact sds_ret (ed_var 2) rfl
theorem sc_l_turned : FnScope ["_law_quarters", "_law_x", "_law_y", "_law_turn"] ["_law_quarters", "_law_x", "_law_y"] (defScope s__law_turned) := ⟨rfl, rfl, rfl, by decide +kernel, rfl, by decide +kernel, by decide +kernel⟩
def r_l_turned (ds : List Dat) (d : Dat) : Prop := ∃ (q x y : Int), ds = [.int q, .int x, .int y] ∧ d = t2 (turnM q (x, y))
theorem cal_l_turned (D : Dfn K mg "_law_turned" s__law_turned) (T : Tx mg) : Cal P w K mg base 1 "_law_turned" ["_law_quarters", "_law_x", "_law_y"] (spP K C r_l_turned) := by
  refine cal_pure D sc_l_turned (fun ds d ⟨_, _, _, h, _⟩ => by rw [h]; rfl) (fun _ _ _ _ _ _ us hl => match us, hl with | [_, _, _], _ => rfl) fun f cdv A outer s0 H E0 hr F ds d h => ?_
  have nd := sc_l_turned.nd
  obtain ⟨q, x, y, rfl, rfl⟩ := h
  refine sds_for (upto (q % 4).toNat) .int (sh1 3) (fun pre => True) (fun pre => [some (.int q), some (.int (rotN pre.length (x, y)).1), some (.int (rotN pre.length (x, y)).2), none]) (fun pre => []) (it_rangeI T.range (ed_mod (ed_toint T.int (ad_cons (ed_var 0) ad_nil)) ed_int (by omega)) (by omega) (by omega)) (gt_name 3 nd) trivial ⟨rfl, rfl, rfl, trivial⟩ rfl (fun pre a post hL hI E1 => ⟨_, rfl, ?_⟩) (fun hI => ?_)
  · refine sds_par 1 2 nd (ad_cons (ed_sub ed_int (ed_var 2)) (ad_cons (ed_var 1) ad_nil)) ?_
    refine sds_end (fun _ _ h => ⟨trivial, h⟩) ?_
    rw [List.length_append]
    exact ⟨rfl, by show some (Dat.int (0 - (rotN pre.length (x, y)).2)) = _; rw [Int.zero_sub]; rfl, rfl, trivial⟩
  refine sds_ret (ed_tup (ad_cons (ed_var 1) (ad_cons (ed_var 2) ad_nil))) ?_
  rw [upto_len]
  rfl
theorem sc_l_near : FnScope ["_law_side", "_law_number", "_law_rest"] ["_law_side", "_law_number"] (defScope s__law_near) := ⟨rfl, rfl, rfl, by decide +kernel, rfl, by decide +kernel, by decide +kernel⟩
def r_l_near (ds : List Dat) (d : Dat) : Prop := ∃ (n z : Int), ds = [.int n, .int z] ∧ 0 < n ∧ n ≤ 9 ∧ d = .int (nearM n z)
theorem cal_l_near (D : Dfn K mg "_law_near" s__law_near) (T : Tx mg) : Cal P w K mg base 1 "_law_near" ["_law_side", "_law_number"] (spP K C r_l_near) := by
  refine cal_pure D sc_l_near (fun ds d ⟨_, _, h, _⟩ => by rw [h]; rfl) (fun _ _ _ _ _ _ us hl => match us, hl with | [_, _], _ => rfl) fun f cdv A outer s0 H E0 hr F ds d h => ?_
  have nd := sc_l_near.nd
  obtain ⟨n, z, rfl, h0, h9, rfl⟩ := h
  have a0 := Int.emod_nonneg z (Int.ne_of_gt h0)
  have a1 := Int.emod_lt_of_pos z h0
  refine sds_set (i := 2) nd (ed_mod (ed_toint T.int (ad_cons (ed_var 1) ad_nil)) (ed_var 0) (by omega)) ?_
  refine sds_ifJ [some (.int n), some (.int z), some (.int (nearM n z))] [] (bd_cmp (ed_mul ed_int (ed_var 2) (.inl (by decide))) (ed_var 0) c_gt) (fun h => ?_) (fun h => ?_) ?_
  · have h' := of_decide_eq_true h
    refine sds_set (i := 2) (d := .int (nearM n z)) nd (ed_conv (ed_sub (ed_var 2) (ed_var 0)) (by unfold nearM; rw [if_neg (by omega)])) ?_
    exact sds_end (fun _ _ h => h) ⟨rfl, rfl, rfl, trivial⟩
  · have h' := of_decide_eq_false h
    exact sds_end (fun _ _ h => h) ⟨rfl, rfl, by unfold nearM; rw [if_pos (by omega)], trivial⟩
  exact sds_ret (ed_var 2) rfl
theorem sc_l_numbers : FnScope ["_law_script", "_law_many", "_law_cells", "_law_each", "_law_numbers_here", "_law_cell", "_law_number"] ["_law_script", "_law_many"] (defScope s__law_numbers) := ⟨rfl, rfl, rfl, by decide +kernel, rfl, by decide +kernel, by decide +kernel⟩
def r_l_numbers (ds : List Dat) (d : Dat) : Prop := ∃ (ns : List Int), ds = [.fzl (ns.map .int), .int 90] ∧ d = encL .int (numsM ns)
theorem cal_l_numbers (D : Dfn K mg "_law_numbers" s__law_numbers) (T : Tx mg) (h_l_row : Cal P w K mg base 1 "_law_row" ["_law_cell", "_law_many"] (spP K C r_l_row)) : Cal P w K mg base 2 "_law_numbers" ["_law_script", "_law_many"] (spP K C r_l_numbers) := by
  refine cal_pure D sc_l_numbers (fun ds d ⟨_, h, _⟩ => by rw [h]; rfl) (fun _ _ _ _ _ _ us hl => match us, hl with | [_, _], _ => rfl) fun f cdv A outer s0 H E0 hr F ds d h => ?_
  have nd := sc_l_numbers.nd
  obtain ⟨ns, rfl, rfl⟩ := h
  have cl : (ns.take 63).length ≤ 63 := by rw [List.length_take]; omega
  have e1 : 1 ≤ eachM ns ∧ eachM ns ≤ 91 := by
    unfold eachM
    have g : ∀ m : Int, 1 ≤ m → 1 ≤ 1 + 90 / m ∧ 1 + 90 / m ≤ 91 := fun m hm => by
      have a := Int.ediv_nonneg (a := 90) (b := m) (by decide) (by omega)
      have b := Int.ediv_le_self (a := 90) m (by decide)
      omega
    exact g _ (by split <;> omega)
  refine sds_set (i := 2) (d := encL .int (ns.take 63)) nd (ed_conv (ed_slL (ed_var 0) pd_none (pd_some (ed_int (i := 63))) (LstS.fzl _)) (by rw [show (63 : Int) = ((63 : Nat) : Int) from rfl, cut_take, ← List.map_take]; rfl)) ?_
  refine sds_set (i := 3) (d := .int (eachM ns)) nd (ed_conv (ed_add ed_int (ed_fdiv (ed_var 1) (ed_max2 T.max (ad_cons ed_int (ad_cons (ed_len T.len (ad_cons (ed_var 2) ad_nil) (LenD.lst _)) ad_nil))) ⟨by rw [List.length_map]; split <;> omega, by rw [List.length_map]; split <;> omega⟩)) (by rw [List.length_map]; rfl)) ?_
  refine sds_newL (i := 4) nd fun q4 => ?_
  refine sds_for (ns.take 63) .int (sh1 5) (fun pre => True) (fun pre => [some (.fzl (ns.map .int)), some (.int 90), some (encL .int (ns.take 63)), some (.int (eachM ns)), some (.loc q4), none, none]) (fun pre => [(q4, .lst ((pre.flatMap fun c => rowM c (eachM ns)).map .int))]) (it_list (ed_var 2)) (gt_name 5 nd) trivial ⟨rfl, rfl, rfl, rfl, rfl, trivial⟩ rfl (fun pre a post hL hI E1 => ⟨_, rfl, ?_⟩) (fun hI => ?_)
  · have p1 := pre_len hL
    have fl : (pre.flatMap fun c => rowM c (eachM ns)).length ≤ pre.length * 91 := flat_le (fun a => by rw [rowM_len]; omega) pre
    refine sds_for (rowM a (eachM ns)) .int (sh1 6) (fun pre2 => True) (fun pre2 => [some (.fzl (ns.map .int)), some (.int 90), some (encL .int (ns.take 63)), some (.int (eachM ns)), some (.loc q4), some (.int a), none]) (fun pre2 => [(q4, .lst (((pre.flatMap fun c => rowM c (eachM ns)) ++ pre2).map .int))]) (it_list (ed_call h_l_row (hr.mono (by decide)) (ad_cons (ed_var 5) (ad_cons (ed_var 3) ad_nil)) ⟨_, _, rfl, by omega, by omega, rfl⟩)) (gt_name 6 nd) trivial ⟨rfl, rfl, rfl, rfl, rfl, rfl, trivial⟩ (by rw [List.append_nil]) (fun pre2 b post2 hL2 hI2 E2 => ⟨_, rfl, ?_⟩) (fun hI2 => ?_)
    · have p2 := pre_len hL2
      rw [rowM_len] at p2
      refine sds_expr (ed_append [] _ (ed_var 4) (ad_cons (ed_var 6) ad_nil) (by rw [List.length_map, List.length_append]; omega)) ?_
      exact sds_end (fun _ _ h => ⟨trivial, h⟩) ⟨rfl, rfl, rfl, rfl, rfl, rfl, trivial⟩ (by simp)
    · exact sds_end (fun _ _ h => ⟨trivial, h⟩) ⟨rfl, rfl, rfl, rfl, rfl, trivial⟩ (by simp)
  have pl : (poolM ns).length ≤ (ns.take 63).length * 91 := flat_le (fun a => by rw [rowM_len]; omega) _
  refine sds_while (fun k : Nat => k = 0 ∨ (poolM ns).length + k ≤ 90) (fun k => 90 - k) (fun k => [some (.fzl (ns.map .int)), some (.int 90), some (encL .int (ns.take 63)), some (.int (eachM ns)), some (.loc q4), none, none]) (fun k => [(q4, .lst ((poolM ns ++ List.replicate k 0).map .int))]) (fun k => decide ((((poolM ns ++ List.replicate k (0 : Int)).map Dat.int).length : Int) < 90)) 0 (.inl rfl) ⟨rfl, rfl, rfl, rfl, rfl, trivial⟩ (by rw [List.replicate_zero, List.append_nil]; rfl) (fun k hk => bd_cmp (ed_len T.len (ad_cons (ed_var 4) ad_nil) (LenD.loc List.mem_cons_self)) (ed_var 1) c_lt) (fun k hI hk => ?_) (fun k hI hk => ?_)
  · have hk' := of_decide_eq_true hk
    rw [List.length_map, List.length_append, List.length_replicate] at hk'
    refine sds_expr (ed_append [] _ (ed_var 4) (ad_cons ed_int ad_nil) (by rw [List.length_map, List.length_append, List.length_replicate]; omega)) ?_
    exact sds_end (fun _ _ h => ⟨k + 1, by omega, .inr (by omega), h⟩) ⟨rfl, rfl, rfl, rfl, rfl, trivial⟩ (by rw [List.replicate_succ']; simp)
  have hk' := of_decide_eq_false hk
  rw [List.length_map, List.length_append, List.length_replicate] at hk'
  have ek : k = 90 - (poolM ns).length := by omega
  refine sds_ret (ed_conv (ed_slL (ed_var 4) pd_none (pd_some (ed_var 1)) (LstS.ls (LstD.loc List.mem_cons_self))) (z := encL .int (numsM ns)) (by rw [show (90 : Int) = ((90 : Nat) : Int) from rfl, cut_take, ← List.map_take, ek]; rfl)) rfl
theorem sc_l_motion : FnScope ["_law_parts", "_law_numbers_here", "_law_at"] ["_law_parts", "_law_numbers_here", "_law_at"] (defScope s__law_motion) := ⟨rfl, rfl, rfl, by decide +kernel, rfl, by decide +kernel, by decide +kernel⟩
def r_l_motion (ds : List Dat) (d : Dat) : Prop := ∃ (p : SkyD) (N : List Int) (i : Int), ds = [partsD p, encL .int N, .int i] ∧ 0 < p.side ∧ NumOk N ∧ 0 ≤ i ∧ i + 2 < 90 ∧ d = t3 (numM N i % p.side, numM N (i + 1) % p.side, numM N (i + 2) % 4)
theorem cal_l_motion (D : Dfn K mg "_law_motion" s__law_motion) (T : Tx mg) : Cal P w K mg base 1 "_law_motion" ["_law_parts", "_law_numbers_here", "_law_at"] (spP K C r_l_motion) := by
  refine cal_pure D sc_l_motion (fun ds d ⟨_, _, _, h, _⟩ => by rw [h]; rfl) (fun _ _ _ _ _ _ us hl => match us, hl with | [_, _, _], _ => rfl) fun f cdv A outer s0 H E0 hr F ds d h => ?_
  have nd := sc_l_motion.nd
  obtain ⟨p, N, i, rfl, h0, hN, i0, i1, rfl⟩ := h
  refine sds_ret (ed_tup (ad_cons (ed_mod (ed_toint T.int (ad_cons (ed_ixLi (ed_var 1) (ed_var 2) (LstD.lst _) (by omega) (num_get hN (by omega))) ad_nil)) (ed_ixT (ed_var 0) (by exact ed_int) rfl) (by omega)) (ad_cons (ed_mod (ed_toint T.int (ad_cons (ed_ixLi (ed_var 1) (ed_add (ed_var 2) ed_int) (LstD.lst _) (by omega) (num_get hN (by omega))) ad_nil)) (ed_ixT (ed_var 0) (by exact ed_int) rfl) (by omega)) (ad_cons (ed_mod (ed_toint T.int (ad_cons (ed_ixLi (ed_var 1) (ed_add (ed_var 2) ed_int) (LstD.lst _) (by omega) (num_get hN (by omega))) ad_nil)) ed_int (by omega)) ad_nil)))) ?_
  rfl
theorem sc_l_star : FnScope ["_law_parts", "_law_star_here", "_law_motion_here", "_law_x", "_law_y"] ["_law_parts", "_law_star_here", "_law_motion_here"] (defScope s__law_star) := ⟨rfl, rfl, rfl, by decide +kernel, rfl, by decide +kernel, by decide +kernel⟩
def r_l_star (ds : List Dat) (d : Dat) : Prop := ∃ (p : SkyD) (t m : T3), ds = [partsD p, t3 t, t3 m] ∧ 0 < p.side ∧ 0 ≤ m.2.2 ∧ m.2.2 ≤ 3 ∧ d = t3 (movSt p.side t m)
theorem cal_l_star (D : Dfn K mg "_law_star" s__law_star) (T : Tx mg) (h_l_turned : Cal P w K mg base 1 "_law_turned" ["_law_quarters", "_law_x", "_law_y"] (spP K C r_l_turned)) : Cal P w K mg base 2 "_law_star" ["_law_parts", "_law_star_here", "_law_motion_here"] (spP K C r_l_star) := by
  refine cal_pure D sc_l_star (fun ds d ⟨_, _, _, h, _⟩ => by rw [h]; rfl) (fun _ _ _ _ _ _ us hl => match us, hl with | [_, _, _], _ => rfl) fun f cdv A outer s0 H E0 hr F ds d h => ?_
  have nd := sc_l_star.nd
  obtain ⟨p, t, m, rfl, h0, m0, m3, rfl⟩ := h
  refine sds_asg (ed_call h_l_turned (hr.mono (by decide)) (ad_cons (ed_ixT (ed_var 2) (by exact ed_int) rfl) (ad_cons (ed_ixT (ed_var 1) (by exact ed_int) rfl) (ad_cons (ed_ixT (ed_var 1) (by exact ed_int) rfl) ad_nil))) ⟨_, _, _, rfl, rfl⟩) (gd_tup (gds_cons (gd_name 3 nd) (gds_cons (gd_name 4 nd) gds_nil))) ?_
  refine sds_ret (ed_tup (ad_cons (ed_mod (ed_toint T.int (ad_cons (ed_add (ed_var 3) (ed_ixT (ed_var 2) (by exact ed_int) rfl)) ad_nil)) (ed_ixT (ed_var 0) (by exact ed_int) rfl) (by omega)) (ad_cons (ed_mod (ed_toint T.int (ad_cons (ed_add (ed_var 4) (ed_ixT (ed_var 2) (by exact ed_int) rfl)) ad_nil)) (ed_ixT (ed_var 0) (by exact ed_int) rfl) (by omega)) (ad_cons (ed_ixT (ed_var 1) (by exact ed_int) rfl) ad_nil)))) ?_
  unfold movSt movePM turnM
  rw [show m.2.2 % 4 = m.2.2 by omega]
  rfl
theorem sc_l_attitude : FnScope ["_law_parts", "_law_numbers_here", "_law_at"] ["_law_parts", "_law_numbers_here", "_law_at"] (defScope s__law_attitude) := ⟨rfl, rfl, rfl, by decide +kernel, rfl, by decide +kernel, by decide +kernel⟩
def r_l_attitude (ds : List Dat) (d : Dat) : Prop := ∃ (p : SkyD) (N : List Int) (i : Int), ds = [partsD p, encL .int N, .int i] ∧ 0 < p.side ∧ NumOk N ∧ 0 ≤ i ∧ i < 90 ∧ d = t3 (lawAtt p N i)
theorem cal_l_attitude (D : Dfn K mg "_law_attitude" s__law_attitude) (T : Tx mg) : Cal P w K mg base 1 "_law_attitude" ["_law_parts", "_law_numbers_here", "_law_at"] (spP K C r_l_attitude) := by
  refine cal_pure D sc_l_attitude (fun ds d ⟨_, _, _, h, _⟩ => by rw [h]; rfl) (fun _ _ _ _ _ _ us hl => match us, hl with | [_, _, _], _ => rfl) fun f cdv A outer s0 H E0 hr F ds d h => ?_
  have nd := sc_l_attitude.nd
  obtain ⟨p, N, i, rfl, h0, hN, i0, i1, rfl⟩ := h
  refine sds_ret (ed_tup (ad_cons (ed_mod (ed_toint T.int (ad_cons (ed_ixLi (ed_var 1) (ed_var 2) (LstD.lst _) (by omega) (num_get hN (by omega))) ad_nil)) (ed_ixT (ed_var 0) (by exact ed_int) rfl) (by omega)) (ad_cons (ed_mod (ed_toint T.int (ad_cons (ed_fdiv (ed_ixLi (ed_var 1) (ed_var 2) (LstD.lst _) (by omega) (num_get hN (by omega))) ed_int ⟨by decide, by decide⟩) ad_nil)) (ed_ixT (ed_var 0) (by exact ed_int) rfl) (by omega)) (ad_cons (ed_mod (ed_toint T.int (ad_cons (ed_fdiv (ed_ixLi (ed_var 1) (ed_var 2) (LstD.lst _) (by omega) (num_get hN (by omega))) ed_int ⟨by decide, by decide⟩) ad_nil)) ed_int (by omega)) ad_nil)))) ?_
  rfl
theorem sc_l_offset : FnScope ["_law_parts", "_law_attitude_here", "_law_star_here", "_law_x"] ["_law_parts", "_law_attitude_here", "_law_star_here"] (defScope s__law_offset) := ⟨rfl, rfl, rfl, by decide +kernel, rfl, by decide +kernel, by decide +kernel⟩
def r_l_offset (ds : List Dat) (d : Dat) : Prop := ∃ (p : SkyD) (a t : T3), ds = [partsD p, t3 a, t3 t] ∧ 0 < p.side ∧ p.side ≤ 9 ∧ d = t2 (turnM (4 - a.2.2) (nearM p.side (t.1 - a.1), nearM p.side (t.2.1 - a.2.1)))
theorem cal_l_offset (D : Dfn K mg "_law_offset" s__law_offset) (T : Tx mg) (h_l_near : Cal P w K mg base 1 "_law_near" ["_law_side", "_law_number"] (spP K C r_l_near)) (h_l_turned : Cal P w K mg base 1 "_law_turned" ["_law_quarters", "_law_x", "_law_y"] (spP K C r_l_turned)) : Cal P w K mg base 2 "_law_offset" ["_law_parts", "_law_attitude_here", "_law_star_here"] (spP K C r_l_offset) := by
  refine cal_pure D sc_l_offset (fun ds d ⟨_, _, _, h, _⟩ => by rw [h]; rfl) (fun _ _ _ _ _ _ us hl => match us, hl with | [_, _, _], _ => rfl) fun f cdv A outer s0 H E0 hr F ds d h => ?_
  have nd := sc_l_offset.nd
  obtain ⟨p, a, t, rfl, h0, h9, rfl⟩ := h
  refine sds_set (i := 3) nd (ed_call h_l_near (hr.mono (by decide)) (ad_cons (ed_ixT (ed_var 0) (by exact ed_int) rfl) (ad_cons (ed_sub (ed_ixT (ed_var 2) (by exact ed_int) rfl) (ed_ixT (ed_var 1) (by exact ed_int) rfl)) ad_nil)) ⟨_, _, rfl, h0, h9, rfl⟩) ?_
  refine sds_ret (ed_call h_l_turned (hr.mono (by decide)) (ad_cons (ed_sub ed_int (ed_ixT (ed_var 1) (by exact ed_int) rfl)) (ad_cons (ed_var 3) (ad_cons (ed_call h_l_near (hr.mono (by decide)) (ad_cons (ed_ixT (ed_var 0) (by exact ed_int) rfl) (ad_cons (ed_sub (ed_ixT (ed_var 2) (by exact ed_int) rfl) (ed_ixT (ed_var 1) (by exact ed_int) rfl)) ad_nil)) ⟨_, _, rfl, h0, h9, rfl⟩) ad_nil))) ⟨_, _, _, rfl, rfl⟩) ?_
  rfl
end
end Sw
/-! Walks: the law's matching. -/
namespace Sw
open PySem PySem.Spec L2
section
variable {P : Program} {w : World} {K : PySem.W.Frag} {mg : Str → Option Value} {base : Heap} {C : Addr}
def lgLed (tp mp : Addr) (tr : List Int) (mates : List (Int × Int)) (R : Led) : Led := (tp, .lst (tr.map .int)) :: (mp, .dI (encP mates)) :: R
structure LgOk (rows : List (List Int)) (m : Nat) (tr : List Int) (mates : List (Int × Int)) : Prop where
  kb : KB mates
  rg : ∀ c x, lk mates c = some x → 0 ≤ x ∧ x < rows.length
  nd : tr.Nodup
  tr : ∀ c ∈ tr, 0 ≤ c ∧ c < (m : Int)
def r_l_give (n : Nat) (ds : List Dat) (O : Led) (post : Dat → Led → Prop) : Prop := ∃ (rows : List (List Int)) (r : Int) (tr : List Int) (mates : List (Int × Int)) (m : Nat) (mp tp : Addr) (R : Led),
  ds = [encL (encL .int) rows, .int r, .loc mp, .loc tp] ∧ O = lgLed tp mp tr mates R ∧ TabOk rows m ∧ 0 ≤ r ∧ r < rows.length ∧ LgOk rows m tr mates ∧ GPre (rowT rows) (lk mates) tr r ∧ m ≤ n + tr.length ∧
  post = fun d O' => ∃ k tr' mates', d = .bl k ∧ O' = lgLed tp mp tr' mates' R ∧ LgOk rows m tr' mates' ∧ (k = true → GYes (rowT rows) (lk mates) tr r (lk mates')) ∧ (k = false → mates' = mates ∧ GNo (rowT rows) (lk mates) tr (rowT rows r) tr')
theorem sc_l_give : FnScope ["_law_rows", "_law_row_here", "_law_mates", "_law_tried", "_law_column"] ["_law_rows", "_law_row_here", "_law_mates", "_law_tried"] (defScope s__law_give) := ⟨rfl, rfl, rfl, by decide +kernel, rfl, by decide +kernel, by decide +kernel⟩
theorem LgOk.few {rows : List (List Int)} {m : Nat} {tr : List Int} {mates : List (Int × Int)} (h : LgOk rows m tr mates) : tr.length ≤ m := by
  have hs : ∀ x ∈ tr, x ∈ upto m := fun x hx => mem_upto.mpr (h.tr x hx)
  have := List.Nodup.length_le_of_subset h.nd hs
  rwa [upto_len] at this
theorem rowT_mem {rows : List (List Int)} {r : Int} (h0 : 0 ≤ r) (h1 : r < rows.length) : rowT rows r ∈ rows := by
  unfold rowT
  rw [List.getD_eq_getElem?_getD, List.getElem?_eq_getElem (show r.toNat < rows.length by omega)]
  exact List.getElem_mem _
theorem rowT_get {rows : List (List Int)} {r : Int} (h0 : 0 ≤ r) (h1 : r < rows.length) : (rows.map (encL Dat.int))[r.toNat]? = some (Dat.lst ((rowT rows r).map Dat.int)) := by
  rw [List.getElem?_map]
  unfold rowT
  rw [List.getD_eq_getElem?_getD, List.getElem?_eq_getElem (show r.toNat < rows.length by omega)]
  rfl
theorem LgOk.put {rows : List (List Int)} {m : Nat} {tr : List Int} {mates : List (Int × Int)} (h : LgOk rows m tr mates) {c r : Int} (hc : 0 ≤ c ∧ c < 1000) (h0 : 0 ≤ r) (h1 : r < rows.length) : LgOk rows m tr (pu mates c r) :=
  ⟨h.kb.pu hc, fun a x e => by
    rw [lk_pu] at e
    split at e
    · cases e; exact ⟨h0, h1⟩
    · exact h.rg a x e, h.nd, h.tr⟩
theorem LgOk.try {rows : List (List Int)} {m : Nat} {tr : List Int} {mates : List (Int × Int)} (h : LgOk rows m tr mates) {c : Int} (hn : c ∉ tr) (hc : 0 ≤ c ∧ c < (m : Int)) : LgOk rows m (tr ++ [c]) mates :=
  ⟨h.kb, h.rg, List.nodup_append.mpr ⟨h.nd, by simp, fun x hx y hy e => hn (by rw [← List.mem_singleton.mp hy, ← e]; exact hx)⟩, fun x hx => by
    rcases List.mem_append.mp hx with hx | hx
    · exact h.tr x hx
    · rw [List.mem_singleton.mp hx]; exact hc⟩
theorem sds_ifTN {X : Cx} {C : Addr} {ds : Dsl} {O O' : Led} {E : En} {c : Expr} {body orelse : List Stmt} {pos : Pos} {D : Ends} (hc : BD X C ds O c true O') (h1 : SDs X (At X C E ds O') body D) : SDs X (At X C E ds O) (.If c body orelse pos :: []) D :=
  sds_if (M1 := D.nx) (M2 := D.nx) hc (fun _ => h1) (fun _ => sds_nil fun _ _ h => h) (fun z => Bool.noConfusion z) (fun z => Bool.noConfusion z)
theorem give_step (D : Dfn K mg "_law_give" s__law_give) (n : Nat) (h_give : ∀ j, n = j + 1 → Cal P w K mg base n "_law_give" ["_law_rows", "_law_row_here", "_law_mates", "_law_tried"] (spL K C (r_l_give j))) : Cal P w K mg base (n + 1) "_law_give" ["_law_rows", "_law_row_here", "_law_mates", "_law_tried"] (spL K C (r_l_give n)) := by
  refine cal_def D sc_l_give (fun ds O post ⟨_, _, _, _, _, _, _, _, h, _⟩ => by rw [h]; rfl) (fun _ _ _ _ _ _ us hl => match us, hl with | [_, _, _, _], _ => rfl) fun f cdv A outer s0 H E0 hr F O ds post h ok0 => ?_
  have nd := sc_l_give.nd
  obtain ⟨rows, r, tr, mates, m, mp, tp, R, rfl, rfl, tok, r0, r1, lg, gp, hn, rfl⟩ := h
  have cols := tok.cols
  refine sds_forS (rowT rows r) .int (sh1 4) (fun pre (b : List Int) => GNo (rowT rows) (lk mates) tr pre b ∧ LgOk rows m b mates) (fun b => [some (encL (encL .int) rows), some (.int r), some (.loc mp), some (.loc tp), none]) (fun b => lgLed tp mp b mates R) tr (it_list (ed_ixLi (ed_var 0) (ed_var 1) (LstD.lst _) r0 (rowT_get r0 r1))) (gt_name 4 nd) ⟨gno_start, lg⟩ (by repeat (first | exact trivial | refine And.intro rfl ?_)) rfl (fun pre a post hL b hI E1 => ⟨_, rfl, ?_⟩) (fun b hI => ?_)
  · obtain ⟨gn, lb⟩ := hI
    have haT : a ∈ rowT rows r := by rw [hL]; simp
    have ha := tok.rg _ (rowT_mem r0 r1) a haT
    have ha' : 0 ≤ a ∧ a < 1000 := by omega
    have bl := lb.few
    by_cases hin : a ∈ b
    · refine sds_ifN (bd_conv (bd_cmp (ed_var 4) (ed_var 3) (c_ninD (enc := .int) (a := a) (xs := b) eqc_int (LstD.loc List.mem_cons_self) (hu65 hr))) (by simp [hin])) ?_
      exact sds_end (fun _ _ hh => ⟨b, ⟨gn.seen hin, lb⟩, hh⟩) (by repeat (first | exact trivial | refine And.intro rfl ?_))
    · refine sds_ifTN (bd_conv (bd_cmp (ed_var 4) (ed_var 3) (c_ninD (enc := .int) (a := a) (xs := b) eqc_int (LstD.loc List.mem_cons_self) (hu65 hr))) (by simp [hin])) ?_
      have lb1 := lb.try hin ha
      have bl1 := lb1.few
      rw [List.length_append, List.length_singleton] at bl1
      refine sds_expr (ed_append [] ((mp, .dI (encP mates)) :: R) (ed_var 3) (ad_cons (ed_var 4) ad_nil) (by rw [List.length_map]; omega)) ?_
      refine sds_perm (O' := lgLed tp mp (b ++ [a]) mates R) (by unfold lgLed; rw [List.map_append]; exact List.Perm.refl _) ?_
      cases hm : lk mates a with
      | none =>
        refine sds_ifT (bd_conv (BW.bd (bw_or (k := true) (k' := false) (bd_conv (bd_dnin (x := .loc mp) (key := .int a) hr.units (ed_var 4) (ed_var 2) (dic_at (l := mates) (by simp [lgLed]) hm)) (by rfl)) (fun z => nomatch z))) (by rfl)) ?_
        refine sds_dput [(tp, .lst ((b ++ [a]).map .int))] R hr.units (ed_var 1) (ed_var 2) (ed_var 4) put_at lb.kb.hl noT ?_
        refine sds_ret ed_bl ?_
        exact ⟨true, b ++ [a], pu mates a r, rfl, rfl, lb1.put ha' r0 r1, fun _ => by rw [lk_upF]; exact gyes_free gp gn hin haT hm, fun z => nomatch z⟩
      | some r2 =>
        have hr2 := lb.rg a r2 hm
        obtain ⟨j, rfl⟩ : ∃ j, n = j + 1 := ⟨n - 1, by
          have h1 := lb1.few
          have h2 : tr.length ≤ b.length := List.Nodup.length_le_of_subset lg.nd gn.sub
          rw [List.length_append, List.length_singleton] at h1
          omega⟩
        refine sds_ifL (post := fun k O' => ∃ tr' mates', O' = lgLed tp mp tr' mates' R ∧ LgOk rows m tr' mates' ∧ (k = true → GYes (rowT rows) (lk mates) (b ++ [a]) r2 (lk mates')) ∧ (k = false → mates' = mates ∧ GNo (rowT rows) (lk mates) (b ++ [a]) (rowT rows r2) tr'))
          (bdl_or (bd_conv (bd_dnin (x := .loc mp) (key := .int a) hr.units (ed_var 4) (ed_var 2) (dic_at (l := mates) (by simp [lgLed]) hm)) (by rfl)) (bdl_val (edl_call (h_give j rfl) (hr.mono (by omega)) (ad_cons (ed_var 0) (ad_cons (ed_dget (d := .int r2) hr.units (ed_var 2) (ed_var 4) (dic_at (l := mates) (by simp [lgLed]) hm)) (ad_cons (ed_var 2) (ad_cons (ed_var 3) ad_nil)))) ⟨rows, r2, b ++ [a], mates, m, mp, tp, R, rfl, rfl, tok, hr2.1, hr2.2, lb1, gp.down gn hin hm, ?_, rfl⟩ (fun d O' ⟨k, tr', mates', _, e, _⟩ => by rw [e]; rfl)) (fun d O' ⟨k, tr', mates', e1, e2, e3, e4, e5⟩ => ⟨k, e1, tr', mates', e2, e3, e4, e5⟩) (fun k O' ⟨tr', mates', e, _⟩ => by rw [e]; rfl))) (fun O' h => ?_) (fun O' h => ?_)
        · have h2 : tr.length ≤ b.length := List.Nodup.length_le_of_subset lg.nd gn.sub
          rw [List.length_append, List.length_singleton]
          omega
        · obtain ⟨tr', mates', rfl, e3, e4, _⟩ := h
          refine sds_dput [(tp, .lst (tr'.map .int))] R hr.units (ed_var 1) (ed_var 2) (ed_var 4) put_at e3.kb.hl noT ?_
          refine sds_ret ed_bl ?_
          exact ⟨true, tr', pu mates' a r, rfl, rfl, e3.put ha' r0 r1, fun _ => by rw [lk_upF]; exact gyes_down gp gn hin haT hm (e4 rfl), fun z => nomatch z⟩
        · obtain ⟨tr', mates', rfl, e3, _, e5⟩ := h
          obtain ⟨rfl, e6⟩ := e5 rfl
          exact sds_end (fun _ _ hh => ⟨tr', ⟨gn.down hin hm e6, e3⟩, hh⟩) (by repeat (first | exact trivial | refine And.intro rfl ?_))
  · obtain ⟨gn, lb⟩ := hI
    refine sds_ret ed_bl ?_
    exact ⟨false, b, mates, rfl, rfl, lb, (fun z => nomatch z), fun _ => ⟨rfl, gn⟩⟩
theorem cal_l_give (D : Dfn K mg "_law_give" s__law_give) : ∀ n, Cal P w K mg base (n + 1) "_law_give" ["_law_rows", "_law_row_here", "_law_mates", "_law_tried"] (spL K C (r_l_give n))
  | 0 => give_step D 0 fun j e => absurd e (by omega)
  | n + 1 => give_step D (n + 1) fun j e => by
    have : j = n := by omega
    subst this
    exact cal_l_give D j
end
end Sw
/-! Walks: the law's most. -/
namespace Sw
open PySem PySem.Spec L2
def D3 (t : T3) (d : Dat) : Prop := ∃ r, d = .tup (.int t.1 :: .int t.2.1 :: .int t.2.2 :: r)
/-- a way to lay things that begin with three ints -/
structure E3 (α : Type) where
  enc : α → Dat
  f : α → T3
  ok : ∀ a, D3 (f a) (enc a)
def e3 : E3 T3 := ⟨t3, id, fun a => ⟨[], rfl⟩⟩
def t4 (v : T4) : Dat := .tup [.int v.1, .int v.2.1, .int v.2.2.1, .bl v.2.2.2]
def e4 : E3 T4 := ⟨t4, cut4, fun a => ⟨[.bl a.2.2.2], rfl⟩⟩
/-- a list or a tuple -/
inductive SqD (xs : List Dat) : Dat → Prop
  | lst : SqD xs (.lst xs)
  | tup : SqD xs (.tup xs)
section
variable {X : Cx} {C : Addr} {ds : Dsl} {O O1 O2 : Led} {a b e tg iter : Expr} {x z : Dat} {xs : List Dat} {pos : Pos}
theorem SqD.len (h : SqD xs x) : LenD O x xs.length := by
  cases h with
  | lst => exact LenD.lst _
  | tup => exact LenD.tup _
theorem it_sq (hx : SqD xs x) (h : ED X C ds O iter x O1) : IT X C ds O tg iter xs O1 := by
  cases hx with
  | lst => exact it_list h
  | tup => exact it_tup h
theorem ed_ixS {i : Int} (hx : SqD xs x) (ha : ED X C ds O a x O1) (hb : ED X C ds O1 b (.int i) O2) (h0 : 0 ≤ i) (hi : xs[i.toNat]? = some z) (hs : PlainIx b := by exact fun _ _ => rfl) : ED X C ds O (.Subscript a b pos) z O2 := by
  cases hx with
  | lst => exact ed_ixLi ha hb (LstD.lst _) h0 hi hs
  | tup => exact ed_ixTi ha hb h0 hi hs
end
section
variable {P : Program} {w : World} {K : PySem.W.Frag} {mg : Str → Option Value} {base : Heap} {C : Addr}
theorem sc_l_close : FnScope ["_law_parts", "_law_one", "_law_other", "_law_times", "_law_far"] ["_law_parts", "_law_one", "_law_other", "_law_times"] (defScope s__law_close) := ⟨rfl, rfl, rfl, by decide +kernel, rfl, by decide +kernel, by decide +kernel⟩
def r_l_close (ds : List Dat) (d : Dat) : Prop := ∃ (p : SkyD) (a b : T3) (da db : Dat), ds = [partsD p, da, db, .int 1] ∧ D3 a da ∧ D3 b db ∧ d = .bl (closeB p a b)
theorem cal_l_close (D : Dfn K mg "_law_close" s__law_close) (T : Tx mg) : Cal P w K mg base 1 "_law_close" ["_law_parts", "_law_one", "_law_other", "_law_times"] (spP K C r_l_close) := by
  refine cal_pure D sc_l_close (fun ds d ⟨_, _, _, _, _, h, _⟩ => by rw [h]; rfl) (fun _ _ _ _ _ _ us hl => match us, hl with | [_, _, _, _], _ => rfl) fun f cdv A outer s0 H E0 hr F ds d h => ?_
  have nd := sc_l_close.nd
  obtain ⟨p, a, b, _, _, rfl, ⟨ra, rfl⟩, ⟨rb, rfl⟩, rfl⟩ := h
  refine sds_set (i := 4) nd (ed_max2 T.max (ad_cons (ed_abs T.abs (ad_cons (ed_sub (ed_ixT (ed_var 1) (by exact ed_int) rfl) (ed_ixT (ed_var 2) (by exact ed_int) rfl)) ad_nil)) (ad_cons (ed_abs T.abs (ad_cons (ed_sub (ed_ixT (ed_var 1) (by exact ed_int) rfl) (ed_ixT (ed_var 2) (by exact ed_int) rfl)) ad_nil)) ad_nil))) ?_
  refine sds_ret (ed_and (ed_cmp (ed_var 4) (ed_mul (ed_var 3) (ed_ixT (ed_ixT (ed_var 0) (by exact ed_int) rfl) (by exact ed_int) rfl) (.inl (by decide))) c_le) (fun _ => (ed_one (ed_cmp (ed_abs T.abs (ad_cons (ed_sub (ed_ixT (ed_var 1) (by exact ed_int) rfl) (ed_ixT (ed_var 2) (by exact ed_int) rfl)) ad_nil)) (ed_mul (ed_var 3) (ed_ixT (ed_ixT (ed_var 0) (by exact ed_int) rfl) (by exact ed_int) rfl) (.inl (by decide))) c_le)))) ?_
  rw [Int.one_mul, Int.one_mul]
  rfl
theorem edl_len {X : Cx} {C : Addr} {ds : Dsl} {O : Led} {e : Expr} {p pos : Pos} {post post' : Dat → Led → Prop} (hm : X.mg "len" = none) (h : EDL X C ds O e post) (hp : ∀ d O', post d O' → ∃ xs, d = .lst xs ∧ dom O' = dom O ∧ post' (.int xs.length) O') (hg : Gl X "len" := by rfl)
    (na : starEach [e] X.env = (false, eval e X.env) :: starEach [] X.env := by rfl) : EDL X C ds O (.Call (.Name "len" p) [e] [] pos) fun d O' => dom O' = dom O ∧ post' d O' :=
  ⟨fun d O' h => h.1, fun σ H F ok env Q q pins s I => (pe_callB call_len hg hm PySem.boot_len (pa_cons pe_w pa_nil na) (by decide) (by decide) na rfl).run pins s σ H Q I (h.run σ H F ok env _ fun v H1 F1 d O' g1 ok1 d1 hpo => by
    obtain ⟨xs, rfl, h1, h2⟩ := hp d O' hpo
    cases d1 with
    | lst h3 h4 =>
      exact ⟨_, _, rfl, .inl ⟨_, SqL.of (ok1.ex _ _ h3), h4.length.symm⟩, q (.int xs.length) H1 F1 _ O' g1 ok1 (.int _) ⟨h1, h2⟩⟩)⟩
theorem sc_l_most : FnScope ["_law_parts", "_law_some", "_law_others", "_law_times", "_law_rows", "_law_one", "_law_mates", "_law_row_here", "_law_k"] ["_law_parts", "_law_some", "_law_others", "_law_times"] (defScope s__law_most) := ⟨rfl, rfl, rfl, by decide +kernel, rfl, by decide +kernel, by decide +kernel⟩
def r_l_most (ds : List Dat) (d : Dat) : Prop := ∃ (α β : Type) (ea : E3 α) (eb : E3 β) (p : SkyD) (xs : List α) (ys : List β) (x y : Dat), ds = [partsD p, x, y, .int 1] ∧ SqD (xs.map ea.enc) x ∧ SqD (ys.map eb.enc) y ∧ xs.length ≤ 60 ∧ ys.length ≤ 60 ∧ d = .int (lmostM p (xs.map ea.f) (ys.map eb.f))
theorem cal_l_most (D : Dfn K mg "_law_most" s__law_most) (T : Tx mg) (h_l_close : Cal P w K mg base 1 "_law_close" ["_law_parts", "_law_one", "_law_other", "_law_times"] (spP K C r_l_close)) (h_give : Cal P w K mg base 61 "_law_give" ["_law_rows", "_law_row_here", "_law_mates", "_law_tried"] (spL K C (r_l_give 60))) : Cal P w K mg base 62 "_law_most" ["_law_parts", "_law_some", "_law_others", "_law_times"] (spP K C r_l_most) := by
  refine cal_pure D sc_l_most (fun ds d ⟨_, _, _, _, _, _, _, _, _, h, _⟩ => by rw [h]; rfl) (fun _ _ _ _ _ _ us hl => match us, hl with | [_, _, _, _], _ => rfl) fun f cdv A outer s0 H E0 hr F ds d h => ?_
  have nd := sc_l_most.nd
  obtain ⟨α, β, ea, eb, p, xs, ys, x, y, rfl, hx, hy, lx, ly, rfl⟩ := h
  have yl : (ys.map eb.enc).length = ys.length := List.length_map _
  refine sds_newL (i := 4) nd fun q4 => ?_
  refine sds_for xs ea.enc (sh1 5) (fun pre => True) (fun pre => [some (partsD p), some x, some y, some (.int 1), some (.loc q4), none, none, none, none]) (fun pre => [(q4, .lst ((lrows p (pre.map ea.f) (ys.map eb.f)).map (encL .int)))]) (it_sq hx (ed_var 1)) (gt_name 5 nd) trivial (by repeat (first | exact trivial | refine And.intro rfl ?_)) rfl (fun pre a post hL hI E1 => ⟨_, rfl, ?_⟩) (fun hI => ?_)
  · have p1 := pre_len hL
    refine sds_expr (ed_append [] _ (ed_var 4) (ad_cons (ed_lcF (upto ys.length) .int (sh1 8) (fun k => [some (partsD p), some x, some y, some (.int 1), some (.loc q4), some (ea.enc a), none, none, some (.int k)]) (fun k => closeB p (ea.f a) (at3 (ys.map eb.f) k)) [("_law_k", 8)] (it_rangeI T.range (ed_conv (ed_len T.len (ad_cons (ed_var 2) ad_nil) hy.len) (by rw [yl])) (by omega) (by omega)) nd (blkOk_by (N := ["_law_parts", "_law_some", "_law_others", "_law_times", "_law_rows", "_law_one", "_law_mates", "_law_row_here", "_law_k"]) (sc := defScope s__law_most) (by decide +kernel)) (gb_name 8 nd) (fun a ha => rfl) (cd_one (cs (upto ys.length) fun k hk s H C1 cl fp => (bd_val (ed_call h_l_close (hr.mono (by decide)) (ad_cons (ed_var 0) (ad_cons (ed_var 5) (ad_cons (ed_ixS hy (ed_var 2) (ed_var 8) (mem_upto.mp hk).1 (z := eb.enc (ys[k.toNat]'(by have := mem_upto.mp hk; omega))) (by rw [List.getElem?_map, List.getElem?_eq_getElem]; rfl)) (ad_cons (ed_var 3) ad_nil)))) ⟨p, _, _, _, _, rfl, ea.ok a, eb.ok _, by
      have hk' := mem_upto.mp hk
      unfold at3
      rw [List.getD_eq_getElem?_getD, List.getElem?_map, List.getElem?_eq_getElem (show k.toNat < ys.length by omega)]
      rfl⟩)))) (fun a ha s H C1 cl fp => (ed_var 8)) (by rw [upto_len]; omega)) ad_nil) (by rw [List.length_map, lrows, List.length_map, List.length_map]; omega)) ?_
    refine sds_end (fun _ _ h => ⟨trivial, h⟩) (by repeat (first | exact trivial | refine And.intro rfl ?_)) ?_
    unfold lrows
    rw [List.map_append, List.map_append, List.map_append]
    simp [encL]
  · refine sds_freeze (i := 4) List.not_mem_nil ?_
    have nx : (xs.map ea.f).length = xs.length := List.length_map _
    have ny : (ys.map eb.f).length = ys.length := List.length_map _
    have tok := lrows_ok p (xs.map ea.f) (ys.map eb.f) (by omega) (by omega)
    have rl : (lrows p (xs.map ea.f) (ys.map eb.f)).length = xs.length := by rw [lrows, List.length_map, nx]
    refine sds_newD 6 (.dI []) nd fun q6 => ?_
    refine sds_ret0L (edl_len T.len (edl_lcS (upto xs.length) .int (sh1 7) (fun a => [some (partsD p), some x, some y, some (.int 1), some (.lst ((lrows p (xs.map ea.f) (ys.map eb.f)).map (encL .int))), none, some (.loc q6), some (.int a), none]) .int (fun pre kept (b : List (Int × Int)) => PDn (rowT (lrows p (xs.map ea.f) (ys.map eb.f))) pre kept (lk b) ∧ LgOk (lrows p (xs.map ea.f) (ys.map eb.f)) (ys.map eb.f).length [] b ∧ kept.Nodup) (fun b => [(q6, .dI (encP b))]) [] [("_law_row_here", 7)] (it_rangeI T.range (ed_conv (ed_len T.len (ad_cons (ed_var 4) ad_nil) (LenD.lst _)) (by rw [List.length_map, rl])) (by omega) (by omega)) nd (blkOk_by (N := ["_law_parts", "_law_some", "_law_others", "_law_times", "_law_rows", "_law_one", "_law_mates", "_law_row_here", "_law_k"]) (sc := defScope s__law_most) (by decide +kernel)) (gb_name 7 nd) (fun a ha => rfl) (fun b => rfl) ⟨PDn.nil, ⟨KB.nil, (fun c x h => nomatch h), List.nodup_nil, (fun c h => nomatch h)⟩, List.nodup_nil⟩ (fun pre a post kept b hL hI s H C1 cl fp => ?_) (fun a ha b s H C1 cl fp => ed_var 7) (by rw [upto_len]; omega))
      (post' := fun d O' => d = .int (lmostM p (xs.map ea.f) (ys.map eb.f))) (fun d O' h => ?_)) fun d O' h => h.2
    · obtain ⟨pd, lg, nk⟩ := hI
      have am : a ∈ upto xs.length := by rw [hL]; simp
      have ar := mem_upto.mp am
      have hnd := upto_nodup xs.length
      rw [hL] at hnd
      have ha : a ∉ pre := fun m => (List.nodup_append.mp hnd).2.2 _ m _ List.mem_cons_self rfl
      refine bdl_val (edl_callG h_give (hr.mono (by decide)) (adg_cons (ed_var 4) (adg_cons (ed_var 7) (adg_cons (ed_var 6) (adg_mk edg_lst0 (fun d N h => ad_nil))))) (post := fun d O' => ∃ k b', d = .bl k ∧ O' = [(q6, .dI (encP b'))] ∧ (k = true → PDn (rowT (lrows p (xs.map ea.f) (ys.map eb.f))) (pre ++ [a]) (kept ++ [a]) (lk b') ∧ LgOk (lrows p (xs.map ea.f) (ys.map eb.f)) (ys.map eb.f).length [] b' ∧ (kept ++ [a]).Nodup) ∧ (k = false → PDn (rowT (lrows p (xs.map ea.f) (ys.map eb.f))) (pre ++ [a]) kept (lk b') ∧ LgOk (lrows p (xs.map ea.f) (ys.map eb.f)) (ys.map eb.f).length [] b' ∧ kept.Nodup)) (fun xs' N h => ?_) (fun d O' ⟨_, _, _, e, _⟩ => by rw [e]; rfl)) (fun d O' ⟨k, b', e1, e2, e3, e4⟩ => ⟨k, e1, b', e2, e3, e4⟩) (fun k O' ⟨b', e, _⟩ => by rw [e]; rfl)
      obtain ⟨_, rfl, _, rfl, _, rfl, _, rfl, q, rfl, rfl⟩ := h
      refine ⟨_, ⟨lrows p (xs.map ea.f) (ys.map eb.f), a, [], b, (ys.map eb.f).length, q6, q, [], rfl, rfl, tok, ar.1, by rw [rl]; exact ar.2, lg, pd.pre ha, by rw [ny]; exact Nat.le_trans ly (Nat.le_add_right _ _), rfl⟩, fun d O' h => ?_⟩
      obtain ⟨k, tr', mates', e1, e2, lg', e3, e4⟩ := h
      have lg2 : LgOk (lrows p (xs.map ea.f) (ys.map eb.f)) (ys.map eb.f).length [] mates' := ⟨lg'.kb, lg'.rg, List.nodup_nil, fun c h => nomatch h⟩
      refine ⟨[(q, .lst (tr'.map .int))], [(q6, .dI (encP mates'))], e2, k, mates', e1, rfl, fun hk => ⟨pd.yes ha (e3 hk), lg2, List.nodup_append.mpr ⟨nk, by simp, fun z hz y hy e => ?_⟩⟩, fun hk => ?_⟩
      · rw [List.mem_singleton.mp hy] at e
        exact ha (pd.sub a (e ▸ hz))
      · obtain ⟨rfl, e5⟩ := e4 hk
        exact ⟨pd.no e5, lg2, nk⟩
    · obtain ⟨kept, b, rfl, rfl, pd, lg, nk⟩ := h
      refine ⟨_, rfl, rfl, ?_⟩
      rw [List.length_map]
      congr 2
      unfold lmostM matM
      refine (mxN_eq (pd_mx (by rw [nx]; exact pd) (upto_nodup _) nk fun r hr c hc => ?_)).symm
      have := mem_upto.mp hr
      exact tok.rg _ (rowT_mem this.1 (by rw [rl]; omega)) c hc
end
end Sw
/-! Walks: the law's need. -/
namespace Sw
open PySem PySem.Spec L2
section
variable {P : Program} {w : World} {K : PySem.W.Frag} {mg : Str → Option Value} {base : Heap} {C : Addr}
theorem sc_l_all : FnScope ["_law_parts", "_law_found", "_law_x", "_law_y", "_law_quarter"] ["_law_parts"] (defScope s__law_all) := ⟨rfl, rfl, rfl, by decide +kernel, rfl, by decide +kernel, by decide +kernel⟩
def r_l_all (ds : List Dat) (d : Dat) : Prop := ∃ (p : SkyD), ds = [partsD p] ∧ 0 ≤ p.side ∧ p.side ≤ 9 ∧ d = encL t3 (tripsM p.side.toNat)
theorem cal_l_all (D : Dfn K mg "_law_all" s__law_all) (T : Tx mg) : Cal P w K mg base 1 "_law_all" ["_law_parts"] (spP K C r_l_all) := by
  refine cal_pure D sc_l_all (fun ds d ⟨_, h, _⟩ => by rw [h]; rfl) (fun _ _ _ _ _ _ us hl => match us, hl with | [_], _ => rfl) fun f cdv A outer s0 H E0 hr F ds d h => ?_
  have nd := sc_l_all.nd
  obtain ⟨p, rfl, h0, h9, rfl⟩ := h
  have tl := trips_le (n := p.side.toNat) (by omega)
  refine sds_newL (i := 1) nd fun q1 => ?_
  refine sds_for (upto p.side.toNat) .int (sh1 2) (fun pre => True) (fun pre => [some (partsD p), some (.loc q1), none, none, none]) (fun pre => [(q1, .lst ((pre.flatMap fun x => (upto p.side.toNat).flatMap fun y => (upto 4).map fun q => ((x, y, q) : T3)).map t3))]) (it_rangeI T.range (ed_ixT (ed_var 0) (by exact ed_int) rfl) h0 (by omega)) (gt_name 2 nd) trivial (by repeat (first | exact trivial | refine And.intro rfl ?_)) rfl (fun pre a post hL hI E1 => ⟨_, rfl, ?_⟩) (fun hI => ?_)
  · have p1 := pre_len hL
    rw [upto_len] at p1
    have f1 : ∀ x : Int, ((upto p.side.toNat).flatMap fun y => (upto 4).map fun q => ((x, y, q) : T3)).length ≤ p.side.toNat * 4 := fun x => by
      have := flat_le (f := fun y => (upto 4).map fun q => ((x, y, q) : T3)) (c := 4) (fun y => by simp [upto]) (upto p.side.toNat)
      rwa [upto_len] at this
    have f2 : (pre.flatMap fun x => (upto p.side.toNat).flatMap fun y => (upto 4).map fun q => ((x, y, q) : T3)).length ≤ pre.length * (p.side.toNat * 4) := flat_le f1 pre
    have f3 : pre.length * (p.side.toNat * 4) ≤ 9 * (9 * 4) := Nat.mul_le_mul (by omega) (Nat.mul_le_mul (by omega) (Nat.le_refl 4))
    refine sds_for (upto p.side.toNat) .int (sh1 3) (fun pre2 => True) (fun pre2 => [some (partsD p), some (.loc q1), some (.int a), none, none]) (fun pre2 => [(q1, .lst (((pre.flatMap fun x => (upto p.side.toNat).flatMap fun y => (upto 4).map fun q => ((x, y, q) : T3)) ++ pre2.flatMap fun y => (upto 4).map fun q => ((a, y, q) : T3)).map t3))]) (it_rangeI T.range (ed_ixT (ed_var 0) (by exact ed_int) rfl) h0 (by omega)) (gt_name 3 nd) trivial (by repeat (first | exact trivial | refine And.intro rfl ?_)) (by simp) (fun pre2 b post2 hL2 hI2 E2 => ⟨_, rfl, ?_⟩) (fun hI2 => ?_)
    · have p2 := pre_len hL2
      rw [upto_len] at p2
      have f4 : (pre2.flatMap fun y => (upto 4).map fun q => ((a, y, q) : T3)).length ≤ pre2.length * 4 := flat_le (fun y => by simp [upto]) pre2
      refine sds_for (upto 4) .int (sh1 4) (fun pre3 => True) (fun pre3 => [some (partsD p), some (.loc q1), some (.int a), some (.int b), none]) (fun pre3 => [(q1, .lst (((pre.flatMap fun x => (upto p.side.toNat).flatMap fun y => (upto 4).map fun q => ((x, y, q) : T3)) ++ (pre2.flatMap fun y => (upto 4).map fun q => ((a, y, q) : T3)) ++ pre3.map fun q => ((a, b, q) : T3)).map t3))]) (it_rangeI T.range (ed_int (i := 4)) (by decide) (by decide)) (gt_name 4 nd) trivial (by repeat (first | exact trivial | refine And.intro rfl ?_)) (by simp) (fun pre3 c post3 hL3 hI3 E3 => ⟨_, rfl, ?_⟩) (fun hI3 => ?_)
      · have p3 := pre_len hL3
        rw [upto_len] at p3
        refine sds_expr (ed_append [] _ (ed_var 1) (ad_cons (ed_tup (ad_cons (ed_var 2) (ad_cons (ed_var 3) (ad_cons (ed_var 4) ad_nil)))) ad_nil) (by simp only [List.length_map, List.length_append]; omega)) ?_
        exact sds_end (fun _ _ h => ⟨trivial, h⟩) (by repeat (first | exact trivial | refine And.intro rfl ?_)) (by simp [t3])
      · exact sds_end (fun _ _ h => ⟨trivial, h⟩) (by repeat (first | exact trivial | refine And.intro rfl ?_)) (by simp)
    · exact sds_end (fun _ _ h => ⟨trivial, h⟩) (by repeat (first | exact trivial | refine And.intro rfl ?_)) (by simp)
  refine sds_freeze (i := 1) List.not_mem_nil ?_
  exact sds_ret (ed_var 1) rfl
theorem sc_l_seen : FnScope ["_law_parts", "_law_attitude_here", "_law_found", "_law_star_here", "_law_reach", "_law_blur", "_law_glare", "_law_limit", "_law_far", "_law_dx", "_law_dy"] ["_law_parts", "_law_attitude_here"] (defScope s__law_seen) := ⟨rfl, rfl, rfl, by decide +kernel, rfl, by decide +kernel, by decide +kernel⟩
def r_l_seen (ds : List Dat) (d : Dat) : Prop := ∃ (p : SkyD) (a : T3), ds = [partsD p, t3 a] ∧ 0 < p.side ∧ p.side ≤ 9 ∧ p.stars.length ≤ 1000 ∧ d = encL t4 (lawSeen p a)
theorem cal_l_seen (D : Dfn K mg "_law_seen" s__law_seen) (T : Tx mg) (h_l_offset : Cal P w K mg base 2 "_law_offset" ["_law_parts", "_law_attitude_here", "_law_star_here"] (spP K C r_l_offset)) : Cal P w K mg base 3 "_law_seen" ["_law_parts", "_law_attitude_here"] (spP K C r_l_seen) := by
  refine cal_pure D sc_l_seen (fun ds d ⟨_, _, h, _⟩ => by rw [h]; rfl) (fun _ _ _ _ _ _ us hl => match us, hl with | [_, _], _ => rfl) fun f cdv A outer s0 H E0 hr F ds d h => ?_
  have nd := sc_l_seen.nd
  obtain ⟨p, a, rfl, h0, h9, hl, rfl⟩ := h
  refine sds_asg (ed_ixT (ed_var 0) (by exact ed_int) rfl) (gd_tup (gds_cons (gd_name 4 nd) (gds_cons (gd_name 5 nd) (gds_cons (gd_name 6 nd) (gds_cons (gd_name 7 nd) gds_nil))))) ?_
  refine sds_newL (i := 2) nd fun q2 => ?_
  refine sds_for p.stars t3 (sh1 3) (fun pre => True) (fun pre => [some (partsD p), some (t3 a), some (.loc q2), none, some (.int p.reach), some (.int p.blur), some (.int p.glare), some (.int p.limit), none, none, none]) (fun pre => [(q2, .lst (((pre.filter (lawIn p a)).map (lawOne p a)).map t4))]) (it_list (ed_ixT (ed_var 0) (by exact ed_int) rfl)) (gt_name 3 nd) trivial (by repeat (first | exact trivial | refine And.intro rfl ?_)) rfl (fun pre t post hL hI E1 => ⟨_, rfl, ?_⟩) (fun hI => ?_)
  · have p1 := pre_len hL
    have fl := List.length_filter_le (lawIn p a) pre
    refine sds_asg (ed_call h_l_offset (hr.mono (by decide)) (ad_cons (ed_var 0) (ad_cons (ed_var 1) (ad_cons (ed_var 3) ad_nil))) ⟨p, a, t, rfl, h0, h9, rfl⟩) (gd_tup (gds_cons (gd_name 9 nd) (gds_cons (gd_name 10 nd) gds_nil))) ?_
    refine sds_set (i := 8) nd (ed_max2 T.max (ad_cons (ed_abs T.abs (ad_cons (ed_var 9) ad_nil)) (ad_cons (ed_abs T.abs (ad_cons (ed_var 10) ad_nil)) ad_nil))) ?_
    refine sds_ifJ [some (partsD p), some (t3 a), some (.loc q2), none, some (.int p.reach), some (.int p.blur), some (.int p.glare), some (.int p.limit), none, none, none] [(q2, .lst ((((pre ++ [t]).filter (lawIn p a)).map (lawOne p a)).map t4))] (k := lawIn p a t) (BW.bd (bw_and (bd_cmp (ed_var 8) (ed_add (ed_var 4) (ed_var 5)) c_le) (fun _ => (bw_and1 (bd_cmp (ed_ixT (ed_var 3) (by exact ed_int) rfl) (ed_sub (ed_var 7) (ed_var 6)) c_ge))))) (fun h => ?_) (fun h => ?_) ?_
    · refine sds_expr (ed_append [] _ (ed_var 2) (ad_cons (ed_tup (ad_cons (ed_var 9) (ad_cons (ed_var 10) (ad_cons (ed_ixT (ed_var 3) (by exact ed_int) rfl) (ad_cons (ed_and (ed_cmp (ed_var 8) (ed_sub (ed_var 4) (ed_var 5)) c_le) (fun _ => (ed_one (ed_cmp (ed_ixT (ed_var 3) (by exact ed_int) rfl) (ed_add (ed_var 7) (ed_var 6)) c_ge)))) ad_nil))))) ad_nil) (by simp only [List.length_map]; omega)) ?_
      exact sds_end (fun _ _ h => h) (by repeat (first | exact trivial | refine And.intro rfl ?_)) (by rw [pos_rest _ _ _ h, List.map_append, List.map_append]; rfl)
    · exact sds_end (fun _ _ h => h) (by repeat (first | exact trivial | refine And.intro rfl ?_)) (by rw [neg_rest _ _ _ h])
    exact sds_end (fun _ _ h => ⟨trivial, h⟩) (by repeat (first | exact trivial | refine And.intro rfl ?_))
  refine sds_freeze (i := 2) List.not_mem_nil ?_
  exact sds_ret (ed_var 2) rfl
theorem sc_l_moved : FnScope ["_law_parts", "_law_attitude_here", "_law_motion_here", "_law_x", "_law_y"] ["_law_parts", "_law_attitude_here", "_law_motion_here"] (defScope s__law_moved) := ⟨rfl, rfl, rfl, by decide +kernel, rfl, by decide +kernel, by decide +kernel⟩
def r_l_moved (ds : List Dat) (d : Dat) : Prop := ∃ (p : SkyD) (a m : T3), ds = [partsD p, t3 a, t3 m] ∧ 0 < p.side ∧ 0 ≤ m.2.2 ∧ m.2.2 ≤ 3 ∧ d = t3 (moveM p.side a m)
theorem cal_l_moved (D : Dfn K mg "_law_moved" s__law_moved) (T : Tx mg) (h_l_turned : Cal P w K mg base 1 "_law_turned" ["_law_quarters", "_law_x", "_law_y"] (spP K C r_l_turned)) : Cal P w K mg base 2 "_law_moved" ["_law_parts", "_law_attitude_here", "_law_motion_here"] (spP K C r_l_moved) := by
  refine cal_pure D sc_l_moved (fun ds d ⟨_, _, _, h, _⟩ => by rw [h]; rfl) (fun _ _ _ _ _ _ us hl => match us, hl with | [_, _, _], _ => rfl) fun f cdv A outer s0 H E0 hr F ds d h => ?_
  have nd := sc_l_moved.nd
  obtain ⟨p, a, m, rfl, h0, m0, m3, rfl⟩ := h
  refine sds_asg (ed_call h_l_turned (hr.mono (by decide)) (ad_cons (ed_ixT (ed_var 2) (by exact ed_int) rfl) (ad_cons (ed_ixT (ed_var 1) (by exact ed_int) rfl) (ad_cons (ed_ixT (ed_var 1) (by exact ed_int) rfl) ad_nil))) ⟨_, _, _, rfl, rfl⟩) (gd_tup (gds_cons (gd_name 3 nd) (gds_cons (gd_name 4 nd) gds_nil))) ?_
  refine sds_ret (ed_tup (ad_cons (ed_mod (ed_toint T.int (ad_cons (ed_add (ed_var 3) (ed_ixT (ed_var 2) (by exact ed_int) rfl)) ad_nil)) (ed_ixT (ed_var 0) (by exact ed_int) rfl) (by omega)) (ad_cons (ed_mod (ed_toint T.int (ad_cons (ed_add (ed_var 4) (ed_ixT (ed_var 2) (by exact ed_int) rfl)) ad_nil)) (ed_ixT (ed_var 0) (by exact ed_int) rfl) (by omega)) (ad_cons (ed_mod (ed_toint T.int (ad_cons (ed_add (ed_ixT (ed_var 1) (by exact ed_int) rfl) (ed_ixT (ed_var 2) (by exact ed_int) rfl)) ad_nil)) ed_int (by omega)) ad_nil)))) ?_
  unfold moveM movePM turnM
  rw [show m.2.2 % 4 = m.2.2 by omega]
  rfl
theorem sc_l_need : FnScope ["_law_parts", "_law_attitude_here", "_law_sighting_here", "_law_seen_here", "_law_sure", "_law_missing", "_law_one"] ["_law_parts", "_law_attitude_here", "_law_sighting_here"] (defScope s__law_need) := ⟨rfl, rfl, rfl, by decide +kernel, rfl, by decide +kernel, by decide +kernel⟩
def r_l_need (ds : List Dat) (d : Dat) : Prop := ∃ (p : SkyD) (a : T3) (sg : List T3), ds = [partsD p, t3 a, encT t3 sg] ∧ 0 < p.side ∧ p.side ≤ 9 ∧ p.stars.length ≤ 60 ∧ sg.length ≤ 60 ∧ d = t2 (lawNeed p a sg)
theorem cal_l_need (D : Dfn K mg "_law_need" s__law_need) (T : Tx mg) (h_l_seen : Cal P w K mg base 3 "_law_seen" ["_law_parts", "_law_attitude_here"] (spP K C r_l_seen)) (h_l_most : Cal P w K mg base 62 "_law_most" ["_law_parts", "_law_some", "_law_others", "_law_times"] (spP K C r_l_most)) : Cal P w K mg base 63 "_law_need" ["_law_parts", "_law_attitude_here", "_law_sighting_here"] (spP K C r_l_need) := by
  refine cal_pure D sc_l_need (fun ds d ⟨_, _, _, h, _⟩ => by rw [h]; rfl) (fun _ _ _ _ _ _ us hl => match us, hl with | [_, _, _], _ => rfl) fun f cdv A outer s0 H E0 hr F ds d h => ?_
  have nd := sc_l_need.nd
  obtain ⟨p, a, sg, rfl, h0, h9, hl, hg, rfl⟩ := h
  have l1 : (lawSeen p a).length ≤ 60 := by
    rw [lawSeen, List.length_map]
    exact Nat.le_trans (List.length_filter_le _ _) hl
  have l2 : ((lawSeen p a).filter fun v => v.2.2.2).length ≤ 60 := Nat.le_trans (List.length_filter_le _ _) l1
  refine sds_set (i := 3) nd (ed_call h_l_seen (hr.mono (by decide)) (ad_cons (ed_var 0) (ad_cons (ed_var 1) ad_nil)) ⟨_, _, rfl, h0, h9, by omega, rfl⟩) ?_
  refine sds_setLc (i := 4) (lawSeen p a) t4 (sh1 6) (fun v => [some (partsD p), some (t3 a), some (encT t3 sg), some (encL t4 (lawSeen p a)), none, none, some (t4 v)]) (fun v => v.2.2.2) t4 [("_law_one", 6)] (it_list (ed_var 3)) nd (blkOk_by (N := ["_law_parts", "_law_attitude_here", "_law_sighting_here", "_law_seen_here", "_law_sure", "_law_missing", "_law_one"]) (sc := defScope s__law_need) (by decide +kernel)) (gb_name 6 nd) (fun a ha => rfl) (cd_one (cs (lawSeen p a) fun a ha s H C1 cl fp => (bd_val (ed_ixT (ed_var 6) (by exact ed_int) rfl)))) (fun a ha ht s H C1 cl fp => (ed_var 6)) (by omega) ?_
  refine sds_set (i := 5) nd (ed_sub (ed_len T.len (ad_cons (ed_var 4) ad_nil) (LenD.lst _)) (ed_call h_l_most (hr.mono (by decide)) (ad_cons (ed_var 0) (ad_cons (ed_var 4) (ad_cons (ed_var 2) (ad_cons ed_int ad_nil)))) ⟨_, _, e4, e3, p, (lawSeen p a).filter fun v => v.2.2.2, sg, _, _, rfl, .lst, .tup, l2, hg, rfl⟩)) ?_
  refine sds_ret (ed_tup (ad_cons (ed_var 5) (ad_cons (ed_sub (ed_len T.len (ad_cons (ed_var 2) ad_nil) (LenD.tup _)) (ed_call h_l_most (hr.mono (by decide)) (ad_cons (ed_var 0) (ad_cons (ed_var 2) (ad_cons (ed_var 3) (ad_cons ed_int ad_nil)))) ⟨_, _, e3, e4, p, sg, lawSeen p a, _, _, rfl, .tup, .lst, hg, l1, rfl⟩)) ad_nil))) ?_
  have e0 : sg.map e3.f = sg := List.map_id _
  rw [e0, List.length_map, List.length_map]
  rfl
end
end Sw
/-! Plain: matchings by what is matched: maps, permutations, rows that have no partner. -/
namespace Sw
section
variable {α β α' β' : Type}
theorem Sub.perm {l A B : List α} (h : Sub l A) (p : A.Perm B) : Sub l B := by
  obtain ⟨r, q⟩ := h
  exact ⟨r, q.trans p⟩
theorem Sub.perml {l l' A : List α} (h : Sub l A) (p : l.Perm l') : Sub l' A := by
  obtain ⟨r, q⟩ := h
  exact ⟨r, (List.Perm.append_right r p.symm).trans q⟩
theorem Sub.refl (A : List α) : Sub A A := ⟨[], by rw [List.append_nil]⟩
theorem Sub.map (f : α → β) {l A : List α} (h : Sub l A) : Sub (l.map f) (A.map f) := by
  obtain ⟨r, q⟩ := h
  exact ⟨r.map f, by rw [← List.map_append]; exact q.map f⟩
theorem perm_unmap (f : α → β) {m k : List β} (h : m.Perm k) : ∀ {A : List α}, k = A.map f → ∃ A' : List α, A'.Perm A ∧ A'.map f = m := by
  induction h with
  | nil =>
    intro A e
    exact ⟨[], by rw [List.map_eq_nil_iff.mp e.symm], rfl⟩
  | cons x _ ih =>
    intro A e
    match A, e with
    | a :: A, e =>
      have e1 := (List.cons.inj e).1
      obtain ⟨A', h1, h2⟩ := ih (List.cons.inj e).2
      exact ⟨a :: A', h1.cons a, by rw [List.map_cons, h2, e1]⟩
  | swap x y l =>
    intro A e
    match A, e with
    | a :: b :: A, e =>
      have e1 := (List.cons.inj e).1
      have e2 := (List.cons.inj (List.cons.inj e).2).1
      have e3 := (List.cons.inj (List.cons.inj e).2).2
      exact ⟨b :: a :: A, List.Perm.swap _ _ _, by rw [List.map_cons, List.map_cons, e1, e2, e3]⟩
  | trans _ _ ih1 ih2 =>
    intro A e
    obtain ⟨A', h1, h2⟩ := ih2 e
    obtain ⟨A'', h3, h4⟩ := ih1 h2.symm
    exact ⟨A'', h3.trans h1, h4⟩
theorem Sub.unmap {f : α → β} {l : List β} {A : List α} (h : Sub l (A.map f)) : ∃ l', Sub l' A ∧ l'.map f = l := by
  obtain ⟨r, q⟩ := h
  obtain ⟨A', h1, h2⟩ := perm_unmap f q rfl
  obtain ⟨l', r', e1, e2, e3⟩ := List.map_eq_append_iff.mp h2
  exact ⟨l', ⟨r', by rw [← e1]; exact h1⟩, e2⟩
theorem Sub.filter (p : α → Bool) {l A : List α} (h : Sub l A) (hp : ∀ x ∈ l, p x = true) : Sub l (A.filter p) := by
  obtain ⟨r, q⟩ := h
  refine ⟨r.filter p, ?_⟩
  have := q.filter p
  rwa [List.filter_append, List.filter_eq_self.mpr hp] at this
theorem Sub.of_filter {p : α → Bool} {l A : List α} (h : Sub l (A.filter p)) : Sub l A := by
  obtain ⟨r, q⟩ := h
  refine ⟨r ++ A.filter (fun x => !p x), ?_⟩
  rw [← List.append_assoc]
  exact (List.Perm.append_right _ q).trans (List.filter_append_perm p A)
/-- greater matchings -/
theorem mxN_le {R : α → β → Bool} {R' : α' → β' → Bool} {A : List α} {B : List β} {A' : List α'} {B' : List β'} (h : ∀ L, Mt R A B L → ∃ L', Mt R' A' B' L' ∧ L.length ≤ L'.length) : mxN R A B ≤ mxN R' A' B' := by
  obtain ⟨⟨L, h1, h2⟩, _⟩ := mxN_mx R A B
  obtain ⟨L', k1, k2⟩ := h L h1
  have := (mxN_mx R' A' B').2 L' k1
  omega
theorem mxN_ge {R : α → β → Bool} {A : List α} {B : List β} {L : List (α × β)} (h : Mt R A B L) : L.length ≤ mxN R A B := (mxN_mx R A B).2 L h
theorem mxN_len (R : α → β → Bool) (A : List α) (B : List β) : mxN R A B ≤ A.length := by
  obtain ⟨⟨L, h1, h2⟩, _⟩ := mxN_mx R A B
  have := h1.len
  omega
theorem mxN_map (R : α' → β' → Bool) (f : α → α') (g : β → β') (A : List α) (B : List β) : mxN (fun a b => R (f a) (g b)) A B = mxN R (A.map f) (B.map g) := by
  apply Nat.le_antisymm
  · refine mxN_le fun L ⟨h1, h2, h3⟩ => ⟨L.map fun p => (f p.1, g p.2), ⟨?_, ?_, ?_⟩, by rw [List.length_map]; exact Nat.le_refl _⟩
    · rw [List.map_map]
      have := h1.map f
      rwa [List.map_map] at this
    · rw [List.map_map]
      have := h2.map g
      rwa [List.map_map] at this
    · intro p hp
      obtain ⟨q, hq, rfl⟩ := List.mem_map.mp hp
      exact h3 q hq
  · refine mxN_le fun L ⟨h1, h2, h3⟩ => ?_
    obtain ⟨l1, s1, e1⟩ := h1.unmap
    obtain ⟨l2, s2, e2⟩ := h2.unmap
    have n1 := congrArg List.length e1
    have n2 := congrArg List.length e2
    rw [List.length_map, List.length_map] at n1 n2
    refine ⟨l1.zip l2, ⟨?_, ?_, ?_⟩, by rw [List.length_zip]; omega⟩
    · rw [List.map_fst_zip (by omega)]
      exact s1
    · rw [List.map_snd_zip (by omega)]
      exact s2
    · intro p hp
      obtain ⟨i, hi⟩ := List.mem_iff_getElem?.mp hp
      rw [List.getElem?_zip_eq_some] at hi
      have a1 : (L.map (·.1))[i]? = some (f p.1) := by rw [← e1, List.getElem?_map, hi.1]; rfl
      have a2 : (L.map (·.2))[i]? = some (g p.2) := by rw [← e2, List.getElem?_map, hi.2]; rfl
      rw [List.getElem?_map] at a1 a2
      cases e : L[i]? with
      | none => rw [e] at a1; cases a1
      | some q =>
        rw [e] at a1 a2
        have b1 : q.1 = f p.1 := Option.some.inj a1
        have b2 : q.2 = g p.2 := Option.some.inj a2
        have := h3 q (List.mem_of_getElem? e)
        show R (f p.1) (g p.2) = true
        rw [← b1, ← b2]
        exact this
theorem mxN_perm {R : α → β → Bool} {A A' : List α} {B B' : List β} (hA : A.Perm A') (hB : B.Perm B') : mxN R A B = mxN R A' B' :=
  Nat.le_antisymm (mxN_le fun L ⟨h1, h2, h3⟩ => ⟨L, ⟨h1.perm hA, h2.perm hB, h3⟩, Nat.le_refl _⟩) (mxN_le fun L ⟨h1, h2, h3⟩ => ⟨L, ⟨h1.perm hA.symm, h2.perm hB.symm, h3⟩, Nat.le_refl _⟩)
theorem Sub.mem' {l A : List α} (h : Sub l A) {x : α} (hx : x ∈ l) : x ∈ A := h.mem hx
theorem Mt.mem {R : α → β → Bool} {A : List α} {B : List β} {L : List (α × β)} (h : Mt R A B L) {p : α × β} (hp : p ∈ L) : p.1 ∈ A ∧ p.2 ∈ B :=
  ⟨h.1.mem (List.mem_map.mpr ⟨p, hp, rfl⟩), h.2.1.mem (List.mem_map.mpr ⟨p, hp, rfl⟩)⟩
theorem mxN_congr {R R' : α → β → Bool} {A : List α} {B : List β} (h : ∀ a ∈ A, ∀ b ∈ B, R a b = R' a b) : mxN R A B = mxN R' A B :=
  Nat.le_antisymm (mxN_le fun L m => ⟨L, ⟨m.1, m.2.1, fun p hp => (h p.1 (m.mem hp).1 p.2 (m.mem hp).2) ▸ m.2.2 p hp⟩, Nat.le_refl _⟩) (mxN_le fun L m => ⟨L, ⟨m.1, m.2.1, fun p hp => (h p.1 (m.mem hp).1 p.2 (m.mem hp).2) ▸ m.2.2 p hp⟩, Nat.le_refl _⟩)
theorem mxN_swap (R : α → β → Bool) (A : List α) (B : List β) : mxN R A B = mxN (fun b a => R a b) B A := by
  have key : ∀ {α β : Type} (R : α → β → Bool) (A : List α) (B : List β), mxN R A B ≤ mxN (fun b a => R a b) B A := fun R A B =>
    mxN_le fun L m => ⟨L.map fun p => (p.2, p.1), ⟨by rw [List.map_map]; exact m.2.1, by rw [List.map_map]; exact m.1, fun p hp => by
      obtain ⟨q, hq, rfl⟩ := List.mem_map.mp hp
      exact m.2.2 q hq⟩, by rw [List.length_map]; exact Nat.le_refl _⟩
  exact Nat.le_antisymm (key R A B) (key _ B A)
theorem mxN_drop {R : α → β → Bool} {A : List α} {B : List β} (p : α → Bool) (h : ∀ a ∈ A, p a = false → ∀ b ∈ B, R a b = false) : mxN R A B = mxN R (A.filter p) B := by
  refine Nat.le_antisymm (mxN_le fun L m => ⟨L, ⟨m.1.filter p fun x hx => ?_, m.2.1, m.2.2⟩, Nat.le_refl _⟩) (mxN_le fun L m => ⟨L, ⟨m.1.of_filter, m.2.1, m.2.2⟩, Nat.le_refl _⟩)
  obtain ⟨q, hq, rfl⟩ := List.mem_map.mp hx
  cases e : p q.1 with
  | true => rfl
  | false =>
    have := h q.1 (m.mem hq).1 e q.2 (m.mem hq).2
    rw [m.2.2 q hq] at this
    cases this
theorem mxN_dropR {R : α → β → Bool} {A : List α} {B : List β} (p : β → Bool) (h : ∀ a ∈ A, ∀ b ∈ B, p b = false → R a b = false) : mxN R A B = mxN R A (B.filter p) := by
  rw [mxN_swap, mxN_drop p (fun b hb e a ha => h a ha b hb e), mxN_swap]
/-- all of A matched -/
theorem mxN_all {R : α → β → Bool} {A : List α} {B : List β} : mxN R A B = A.length ↔ ∃ L, Mt R A B L ∧ (L.map (·.1)).Perm A := by
  constructor
  · intro e
    obtain ⟨⟨L, m, h⟩, _⟩ := mxN_mx R A B
    refine ⟨L, m, ?_⟩
    obtain ⟨r, q⟩ := m.1
    have := q.length_eq
    rw [List.length_append, List.length_map] at this
    have : r = [] := List.length_eq_zero_iff.mp (by omega)
    rwa [this, List.append_nil] at q
  · intro ⟨L, m, q⟩
    have := mxN_ge m
    have h2 := mxN_len R A B
    have := q.length_eq
    rw [List.length_map] at this
    omega
/-- by a function that gives each a partner -/
theorem mxN_fn {R : α → β → Bool} {A : List α} {B : List β} (f : α → β) (h : ∀ a ∈ A, R a (f a) = true) (hs : Sub (A.map f) B) : mxN R A B = A.length :=
  mxN_all.mpr ⟨A.map fun a => (a, f a), ⟨by rw [List.map_map]; exact (by rw [show ((fun p : α × β => p.1) ∘ fun a => (a, f a)) = id from rfl, List.map_id]; exact Sub.refl A), by rw [List.map_map]; exact hs, fun p hp => by
    obtain ⟨a, ha, rfl⟩ := List.mem_map.mp hp
    exact h a ha⟩, by rw [List.map_map, show ((fun p : α × β => p.1) ∘ fun a => (a, f a)) = id from rfl, List.map_id]⟩
end
/-! ### numbers as what they stand for -/
theorem upto_map {α : Type} (L : List α) (d : α) : (upto L.length).map (fun i => L.getD i.toNat d) = L := by
  apply List.ext_getElem?
  intro i
  rw [List.getElem?_map]
  unfold upto
  rw [List.getElem?_map]
  by_cases h : i < L.length
  · rw [List.getElem?_range h]
    simp [List.getD_eq_getElem?_getD, h]
  · rw [List.getElem?_eq_none (by simpa using h), List.getElem?_eq_none (by simpa using h)]
    rfl
theorem numF_map {α : Type} (p : α → Bool) (L : List α) (d : α) : (numF p L).map (fun i => L.getD i.toNat d) = L.filter p := by
  unfold numF
  rw [List.map_map]
  have h1 : (L.zipIdx.filter fun q => p q.1).map ((fun i : Int => L.getD i.toNat d) ∘ fun q => ((q.2 : Nat) : Int)) = (L.zipIdx.filter fun q => p q.1).map (·.1) := by
    refine List.map_congr_left fun q hq => ?_
    have h2 := List.mem_zipIdx_iff_getElem?.mp (List.mem_filter.mp hq).1
    show L.getD (((q.2 : Nat) : Int)).toNat d = q.1
    rw [List.getD_eq_getElem?_getD, show (((q.2 : Nat) : Int)).toNat = q.2 by omega, h2]
    rfl
  rw [h1]
  have h3 : ∀ (L : List α) (k : Nat), ((L.zipIdx k).filter fun q => p q.1).map (·.1) = L.filter p := by
    intro L
    induction L with
    | nil => intro k; rfl
    | cons a L ih =>
      intro k
      rw [List.zipIdx_cons, List.filter_cons, List.filter_cons]
      cases p a with
      | true => simp [ih]
      | false => simp [ih]
  exact h3 L 0
end Sw
/-! Plain: what is needed, and unlikeness, by what is seen. -/
namespace Sw
/-! ### what is seen -/
def seeT (s : SkyD) (a : T3) : List T3 := (lawSeen s a).map cut4
def sureB (s : SkyD) (v : T3) : Bool := decide (maxI (absI v.1) (absI v.2.1) ≤ s.reach - s.blur) && decide (s.limit + s.glare ≤ v.2.2)
noncomputable def needT (s : SkyD) (V : List T3) (sg : List T3) : P2 := (((V.filter (sureB s)).length : Int) - mxN (closeB s) (V.filter (sureB s)) sg, (sg.length : Int) - mxN (closeB s) sg V)
def close2 (s : SkyD) (u v : T3) : Bool := decide (absI (u.1 - v.1) ≤ 2 * s.blur) && (decide (absI (u.2.1 - v.2.1) ≤ 2 * s.blur) && decide (absI (u.2.2 - v.2.2) ≤ 2 * s.glare))
noncomputable def lackT (s : SkyD) (V W : List T3) : Int := ((V.filter (sureB s)).length : Int) - mxN (close2 s) (V.filter (sureB s)) W
theorem absI_neg (x : Int) : absI (-x) = absI x := by
  unfold absI
  split <;> split <;> omega
theorem absI_sub (x y : Int) : absI (x - y) = absI (y - x) := by
  unfold absI
  split <;> split <;> omega
theorem maxI_comm (x y : Int) : maxI x y = maxI y x := by
  unfold maxI
  split <;> split <;> omega
theorem rot_far (p : P2) : maxI (absI (rot p).1) (absI (rot p).2) = maxI (absI p.1) (absI p.2) := by
  show maxI (absI (-p.2)) (absI p.1) = _
  rw [absI_neg, maxI_comm]
theorem rotN_far (p : P2) : ∀ k, maxI (absI (rotN k p).1) (absI (rotN k p).2) = maxI (absI p.1) (absI p.2)
  | 0 => rfl
  | k + 1 => (rot_far _).trans (rotN_far p k)
theorem turn_far (q : Int) (p : P2) : maxI (absI (turnM q p).1) (absI (turnM q p).2) = maxI (absI p.1) (absI p.2) := rotN_far p _
theorem turn_four (q : Int) (p : P2) : turnM (4 - q) p = turnM (-q) p := by
  unfold turnM
  rw [show (4 - q) % 4 = -q % 4 by omega]
/-- the offset as the law reckons it -/
theorem offM_law (s : SkyD) (a t : T3) : offM s a t = if s.reach + s.blur < lawFar s a t then none else some (lawOff s a t) := by
  unfold offM lawFar lawOff
  rw [turn_far, turn_four]
theorem inRoom_law (s : SkyD) (a : T3) (room least : Int) (t : T3) : inRoom s a room least t = (decide (lawFar s a t ≤ s.reach + s.blur) && (decide (lawFar s a t ≤ room) && decide (least ≤ t.2.2))) := by
  unfold inRoom
  rw [offM_law]
  by_cases h : s.reach + s.blur < lawFar s a t
  · rw [if_pos h, decide_eq_false (show ¬ lawFar s a t ≤ s.reach + s.blur by omega)]
    rfl
  · rw [if_neg h, decide_eq_true (show lawFar s a t ≤ s.reach + s.blur by omega), Bool.true_and]
    rfl
theorem inRoom_seen (s : SkyD) (a : T3) : inRoom s a (s.reach + s.blur) (s.limit - s.glare) = lawIn s a := funext fun t => by
  rw [inRoom_law]
  unfold lawIn
  cases decide (lawFar s a t ≤ s.reach + s.blur) <;> rfl
theorem inRoom_sure {s : SkyD} (hb : 0 ≤ s.blur) (hg : 0 ≤ s.glare) (a t : T3) : inRoom s a (s.reach - s.blur) (s.limit + s.glare) t = (lawIn s a t && sureB s (cut4 (lawOne s a t))) := by
  rw [inRoom_law]
  show _ = ((decide (lawFar s a t ≤ s.reach + s.blur) && decide (s.limit - s.glare ≤ t.2.2)) && (decide (lawFar s a t ≤ s.reach - s.blur) && decide (s.limit + s.glare ≤ t.2.2)))
  by_cases h1 : s.limit + s.glare ≤ t.2.2
  · rw [decide_eq_true h1, decide_eq_true (show s.limit - s.glare ≤ t.2.2 by omega)]
    cases decide (lawFar s a t ≤ s.reach + s.blur) <;> rfl
  · rw [decide_eq_false h1]
    simp
theorem flag_sure (s : SkyD) (a t : T3) : (lawOne s a t).2.2.2 = sureB s (cut4 (lawOne s a t)) := rfl
theorem filter_map_filter {α β : Type} (p : α → Bool) (f : α → β) (q : β → Bool) (L : List α) : ((L.filter p).map f).filter q = (L.filter fun a => p a && q (f a)).map f := by
  induction L with
  | nil => rfl
  | cons a L ih =>
    rw [List.filter_cons, List.filter_cons]
    cases h : p a with
    | true =>
      rw [if_pos rfl, List.map_cons, List.filter_cons, ih]
      cases h2 : q (f a) with
      | true => simp [h2]
      | false => simp [h2]
    | false => simpa [h] using ih
theorem seeT_map (s : SkyD) (a : T3) : seeT s a = (s.stars.filter (lawIn s a)).map fun t => cut4 (lawOne s a t) := by
  unfold seeT lawSeen
  rw [List.map_map]
  rfl
theorem sureT_map {s : SkyD} (hb : 0 ≤ s.blur) (hg : 0 ≤ s.glare) (a : T3) : (seeT s a).filter (sureB s) = (s.stars.filter (inRoom s a (s.reach - s.blur) (s.limit + s.glare))).map fun t => cut4 (lawOne s a t) := by
  rw [seeT_map, filter_map_filter]
  rw [show (fun t => lawIn s a t && sureB s (cut4 (lawOne s a t))) = inRoom s a (s.reach - s.blur) (s.limit + s.glare) from funext fun t => (inRoom_sure hb hg a t).symm]
theorem seen_star (s : SkyD) (a : T3) : (seenM s a).map (starAt s) = s.stars.filter (lawIn s a) := by
  rw [← inRoom_seen]
  exact numF_map _ s.stars _
theorem sure_star (s : SkyD) (a : T3) : (sureM s a).map (starAt s) = s.stars.filter (inRoom s a (s.reach - s.blur) (s.limit + s.glare)) := numF_map _ s.stars _
theorem lawIn_off {s : SkyD} {a t : T3} (h : lawIn s a t = true) : offM s a t = some (lawOff s a t) := by
  unfold lawIn at h
  rw [Bool.and_eq_true, decide_eq_true_eq] at h
  rw [offM_law, if_neg (by omega)]
/-- the triple of a seen star -/
def triM (s : SkyD) (a : T3) (i : Int) : T3 := ((offAt s a i).1, (offAt s a i).2, (starAt s i).2.2)
theorem triM_law {s : SkyD} {a : T3} {i : Int} (h : i ∈ seenM s a) : triM s a i = cut4 (lawOne s a (starAt s i)) := by
  have h1 := (within_at h).2.2.2.2
  rw [inRoom_seen] at h1
  have h2 := lawIn_off h1
  unfold triM offAt
  rw [h2]
  rfl
theorem seen_tri (s : SkyD) (a : T3) : (seenM s a).map (triM s a) = seeT s a := by
  rw [seeT_map, ← seen_star, List.map_map]
  exact List.map_congr_left fun i hi => triM_law hi
theorem sure_tri {s : SkyD} (hb : 0 ≤ s.blur) (hg : 0 ≤ s.glare) (a : T3) : (sureM s a).map (triM s a) = (seeT s a).filter (sureB s) := by
  rw [sureT_map hb hg, ← sure_star, List.map_map]
  exact List.map_congr_left fun i hi => triM_law (sure_seen hb hg hi)
theorem sees_seeT (s : SkyD) (a : T3) : seesM s a = sort3 (seeT s a) := by
  rw [← seen_tri]
  rfl
theorem sees_perm (s : SkyD) (a : T3) : (seesM s a).Perm (seeT s a) := by
  rw [sees_seeT]
  exact sort3_perm _
theorem sees_srt (s : SkyD) (a : T3) : SrT (seesM s a) := by
  rw [sees_seeT]
  exact sort3_srt _
theorem sees_iff {s : SkyD} {a b : T3} : seesM s a = seesM s b ↔ (seeT s a).Perm (seeT s b) :=
  ⟨fun h => (sees_perm s a).symm.trans (h ▸ sees_perm s b), fun h => srt_uniq (sees_srt s a) (sees_srt s b) ((sees_perm s a).trans (h.trans (sees_perm s b).symm))⟩
/-! ### needs -/
theorem close_comm (s : SkyD) (u v : T3) : closeB s u v = closeB s v u := by
  unfold closeB
  rw [absI_sub u.1, absI_sub u.2.1, absI_sub u.2.2]
theorem needT_perm {s : SkyD} {V W : List T3} (h : V.Perm W) (sg : List T3) : needT s V sg = needT s W sg := by
  unfold needT
  rw [(h.filter _).length_eq, mxN_perm (h.filter _) (List.Perm.refl sg), mxN_perm (List.Perm.refl sg) h]
theorem lmost_mx (p : SkyD) (xs ys : List T3) : lmostM p xs ys = mxN (closeB p) xs ys := by
  unfold lmostM matM
  have h : ∀ i ∈ upto xs.length, ∀ j ∈ upto ys.length, decide (j ∈ rowT (lrows p xs ys) i) = closeB p (at3 xs i) (at3 ys j) := fun i hi j hj => by
    have hi' := mem_upto.mp hi
    have hl : i.toNat < xs.length := by omega
    have e : rowT (lrows p xs ys) i = (upto ys.length).filter fun k => closeB p (at3 xs i) (at3 ys k) := by
      unfold rowT lrows at3
      rw [List.getD_eq_getElem?_getD, List.getElem?_map, List.getElem?_eq_getElem hl, List.getD_eq_getElem?_getD, List.getElem?_eq_getElem hl]
      rfl
    rw [e]
    cases hc : closeB p (at3 xs i) (at3 ys j) with
    | true => exact decide_eq_true (List.mem_filter.mpr ⟨hj, hc⟩)
    | false =>
      exact decide_eq_false fun z => by
        have := (List.mem_filter.mp z).2
        rw [hc] at this
        cases this
  rw [mxN_congr h, mxN_map (closeB p) (at3 xs) (at3 ys)]
  congr 1
  · exact upto_map xs _
  · exact upto_map ys _
theorem lawNeed_T (s : SkyD) (a : T3) (sg : List T3) : lawNeed s a sg = needT s (seeT s a) sg := by
  have e : ((lawSeen s a).filter fun v => v.2.2.2).map cut4 = (seeT s a).filter (sureB s) := by
    unfold seeT lawSeen
    rw [filter_map_filter, List.map_map, List.map_map, filter_map_filter]
    rfl
  unfold lawNeed needT
  rw [lmost_mx, lmost_mx, e, ← e, List.length_map]
  rfl
theorem fit_close {s : SkyD} {a t p : T3} (h : offM s a t = some (lawOff s a t)) : fitB s a t p = closeB s (cut4 (lawOne s a t)) p := by
  unfold fitB
  rw [h]
  rfl
theorem table_row {s : SkyD} {a : T3} {sg : List T3} {i j : Int} (h0 : 0 ≤ i) (hi : i < s.stars.length) (hj : j ∈ upto sg.length) : decide (j ∈ rowT (tableM s a sg) i) = fitB s a (starAt s i) (at3 sg j) := by
  have hl : i.toNat < s.stars.length := by omega
  have e : rowT (tableM s a sg) i = fitM s a (starAt s i) sg := by
    unfold rowT tableM starAt
    rw [List.getD_eq_getElem?_getD, List.getElem?_map, List.getElem?_eq_getElem hl, List.getD_eq_getElem?_getD, List.getElem?_eq_getElem hl]
    rfl
  have hj' := mem_upto.mp hj
  have hl2 : j.toNat < sg.length := by omega
  have e2 : sg[j.toNat]? = some (at3 sg j) := by
    unfold at3
    rw [List.getD_eq_getElem?_getD, List.getElem?_eq_getElem hl2]
    rfl
  rw [e, fit_num]
  cases hc : fitB s a (starAt s i) (at3 sg j) with
  | true => exact decide_eq_true (numF_iff.mpr ⟨hj'.1, _, e2, hc⟩)
  | false =>
    exact decide_eq_false fun z => by
      obtain ⟨_, x, hx, hp⟩ := numF_iff.mp z
      rw [e2] at hx
      cases hx
      rw [hc] at hp
      cases hp
theorem mat_table {s : SkyD} {a : T3} {sg : List T3} {rows : List Int} (hr : RowsOk s.stars.length rows) : matM (tableM s a sg) rows sg.length = mxN (fitB s a) (rows.map (starAt s)) sg := by
  unfold matM
  rw [mxN_congr fun i hi j hj => table_row (hr.rg i hi).1 (hr.rg i hi).2 hj, mxN_map (fitB s a) (starAt s) (at3 sg)]
  congr 1
  exact upto_map sg _
theorem needM_T {s : SkyD} (hb : 0 ≤ s.blur) (hg : 0 ≤ s.glare) (a : T3) {sg : List T3} (hs : ∀ p ∈ sg, s.limit ≤ p.2.2) : needM s a sg = needT s (seesM s a) sg := by
  rw [needT_perm (sees_perm s a)]
  unfold needM needOf needT
  rw [mat_table (rows := sureM s a) (within_rows s a _ _), mat_table (rows := upto (tableM s a sg).length) (by rw [show (tableM s a sg).length = s.stars.length by simp [tableM]]; exact upto_rows _), sure_star]
  have e1 : (sureM s a).length = ((seeT s a).filter (sureB s)).length := by rw [← sure_tri hb hg, List.length_map]
  have e2 : mxN (fitB s a) (s.stars.filter (inRoom s a (s.reach - s.blur) (s.limit + s.glare))) sg = mxN (closeB s) ((seeT s a).filter (sureB s)) sg := by
    rw [sureT_map hb hg]
    have := mxN_map (closeB s) (fun t => cut4 (lawOne s a t)) id (s.stars.filter (inRoom s a (s.reach - s.blur) (s.limit + s.glare))) sg
    rw [List.map_id] at this
    rw [← this]
    refine mxN_congr fun t ht p hp => fit_close (lawIn_off ?_)
    have h1 := (List.mem_filter.mp ht).2
    rw [inRoom_sure hb hg, Bool.and_eq_true] at h1
    exact h1.1
  have e3 : mxN (fitB s a) ((upto (tableM s a sg).length).map (starAt s)) sg = mxN (closeB s) sg (seeT s a) := by
    rw [show (tableM s a sg).length = s.stars.length by simp [tableM], show (upto s.stars.length).map (starAt s) = s.stars from upto_map s.stars _]
    rw [mxN_drop (lawIn s a), mxN_swap (closeB s)]
    · have := mxN_map (fun b a => closeB s a b) (fun t => cut4 (lawOne s a t)) id (s.stars.filter (lawIn s a)) sg
      rw [List.map_id, ← seeT_map] at this
      rw [← this]
      exact mxN_congr fun t ht p hp => (fit_close (lawIn_off (List.mem_filter.mp ht).2)).trans (close_comm s _ _)
    · intro t ht h p hp
      have hp' := hs p hp
      unfold lawIn at h
      unfold fitB
      rw [offM_law]
      by_cases hf : s.reach + s.blur < lawFar s a t
      · rw [if_pos hf]
      · rw [if_neg hf]
        rw [decide_eq_true (show lawFar s a t ≤ s.reach + s.blur by omega), Bool.true_and] at h
        have h' := of_decide_eq_false h
        show (_ && decide (absI (t.2.2 - p.2.2) ≤ s.glare)) = false
        rw [decide_eq_false (show ¬ absI (t.2.2 - p.2.2) ≤ s.glare by unfold absI; split <;> omega), Bool.and_false]
  rw [e1, e2, e3]
/-! ### unlikeness -/
theorem lackT_perm {s : SkyD} {V V' W W' : List T3} (h : V.Perm V') (k : W.Perm W') : lackT s V W = lackT s V' W' := by
  unfold lackT
  rw [(h.filter _).length_eq, mxN_perm (h.filter _) k]
theorem lackM_T {s : SkyD} (hb : 0 ≤ s.blur) (hg : 0 ≤ s.glare) (a b : T3) : lackM s a b = lackT s (seesM s a) (seesM s b) := by
  rw [lackT_perm (sees_perm s a) (sees_perm s b)]
  unfold lackM lackT
  rw [← sure_tri hb hg, List.length_map]
  split
  · rename_i h
    rw [h]
    have := mxN_len (close2 s) (([] : List Int).map (triM s a)) (seeT s b)
    simp only [List.map_nil, List.length_nil] at this ⊢
    omega
  · congr 2
    unfold matM
    have h1 : ∀ i ∈ sureM s a, ∀ j ∈ upto s.stars.length, decide (j ∈ rowT (linkM s a b) i) = (decide (j ∈ seenM s b) && closeL s a b i j) := fun i hi j hj => by
      have h2 := (within_rows s a _ _).rg i hi
      have e : rowT (linkM s a b) i = nearL s a b i := by
        unfold rowT linkM
        rw [List.getD_eq_getElem?_getD, List.getElem?_map]
        have : (upto s.stars.length)[i.toNat]? = some i := by
          unfold upto
          rw [List.getElem?_map, List.getElem?_range (by omega)]
          show some ((i.toNat : Nat) : Int) = some i
          rw [show ((i.toNat : Nat) : Int) = i by omega]
        rw [this]
        show (if i ∈ seenM s a then nearL s a b i else []) = _
        rw [if_pos (sure_seen hb hg hi)]
      rw [e]
      unfold nearL
      cases hc : closeL s a b i j with
      | true => by_cases hm : j ∈ seenM s b <;> simp [hm, hc]
      | false => simp [hc]
    rw [mxN_congr h1, mxN_dropR (fun j => decide (j ∈ seenM s b)) (fun i hi j hj e => by rw [e]; rfl)]
    have hp : ((upto s.stars.length).filter fun j => decide (j ∈ seenM s b)).Perm (seenM s b) := by
      refine (List.perm_ext_iff_of_nodup ((upto_nodup _).filter _) (within_rows s b _ _).nd).mpr fun j => ?_
      rw [List.mem_filter, decide_eq_true_eq]
      exact ⟨fun h => h.2, fun h => ⟨mem_upto.mpr ((within_rows s b _ _).rg j h), h⟩⟩
    rw [mxN_perm (List.Perm.refl _) hp, ← seen_tri s b, ← mxN_map (close2 s) (triM s a) (triM s b)]
    refine mxN_congr fun i hi j hj => ?_
    rw [decide_eq_true hj]
    rfl
theorem unlM_T {s : SkyD} (hb : 0 ≤ s.blur) (hg : 0 ≤ s.glare) (a b : T3) : unlM s a b = maxI (lackT s (seesM s a) (seesM s b)) (lackT s (seesM s b) (seesM s a)) := by
  unfold unlM
  rw [lackM_T hb hg, lackM_T hb hg]
theorem lackT_self {s : SkyD} (hb : 0 ≤ s.blur) (hg : 0 ≤ s.glare) (V : List T3) : lackT s V V = 0 := by
  unfold lackT
  rw [mxN_fn (R := close2 s) (A := V.filter (sureB s)) (B := V) id (fun v hv => by
    unfold close2
    have e : ∀ x : Int, absI (x - x) = 0 := fun x => by rw [Int.sub_self]; rfl
    show (decide (absI (v.1 - v.1) ≤ _) && (decide (absI (v.2.1 - v.2.1) ≤ _) && decide (absI (v.2.2 - v.2.2) ≤ _))) = true
    rw [e, e, e, decide_eq_true (show (0 : Int) ≤ 2 * s.blur by omega), decide_eq_true (show (0 : Int) ≤ 2 * s.glare by omega)]
    rfl) (by rw [List.map_id]; exact (Sub.refl _).of_filter)]
  omega
theorem unl_alike {s : SkyD} (hb : 0 ≤ s.blur) (hg : 0 ≤ s.glare) {a b : T3} (h : seesM s a = seesM s b) : unlM s a b = 0 := by
  rw [unlM_T hb hg, h, lackT_self hb hg]
  rfl
/-- without blur and glare all that is seen is sure -/
theorem sees_sure {s : SkyD} (hb : s.blur = 0) (hg : s.glare = 0) (a : T3) : (seesM s a).filter (sureB s) = seesM s a := by
  refine List.filter_eq_self.mpr fun v hv => ?_
  have h1 := (sees_perm s a).mem_iff.mp hv
  rw [seeT_map] at h1
  obtain ⟨t, ht, rfl⟩ := List.mem_map.mp h1
  have h2 := (List.mem_filter.mp ht).2
  unfold lawIn at h2
  rw [Bool.and_eq_true, decide_eq_true_eq, decide_eq_true_eq] at h2
  show (decide (lawFar s a t ≤ s.reach - s.blur) && decide (s.limit + s.glare ≤ t.2.2)) = true
  rw [decide_eq_true (by omega), decide_eq_true (by omega)]
  rfl
theorem absI_zero {x : Int} (h : absI x ≤ 0) : x = 0 := by
  unfold absI at h
  split at h <;> omega
theorem lack_sub {s : SkyD} (hb : s.blur = 0) (hg : s.glare = 0) {a b : T3} (h : lackT s (seesM s a) (seesM s b) ≤ 0) : Sub (seesM s a) (seesM s b) := by
  unfold lackT at h
  rw [sees_sure hb hg] at h
  have h1 := mxN_len (close2 s) (seesM s a) (seesM s b)
  obtain ⟨L, m, q⟩ := mxN_all.mp (show mxN (close2 s) (seesM s a) (seesM s b) = (seesM s a).length by omega)
  have e : L.map (·.2) = L.map (·.1) := List.map_congr_left fun p hp => by
    have := m.2.2 p hp
    unfold close2 at this
    rw [Bool.and_eq_true, Bool.and_eq_true, decide_eq_true_eq, decide_eq_true_eq, decide_eq_true_eq, hb, hg] at this
    obtain ⟨h1, h2, h3⟩ := this
    have h1 := absI_zero h1
    have h2 := absI_zero h2
    have h3 := absI_zero h3
    refine Prod.ext ?_ (Prod.ext ?_ ?_) <;> omega
  have := m.2.1
  rw [e] at this
  exact this.perml q
theorem unl_iff {s : SkyD} (hb : s.blur = 0) (hg : s.glare = 0) {a b : T3} : unlM s a b ≤ 0 ↔ seesM s a = seesM s b := by
  refine ⟨fun h => ?_, fun h => by rw [unl_alike (by omega) (by omega) h]; exact Int.le_refl 0⟩
  rw [unlM_T (by omega) (by omega)] at h
  have h1 : lackT s (seesM s a) (seesM s b) ≤ 0 ∧ lackT s (seesM s b) (seesM s a) ≤ 0 := by
    unfold maxI at h
    split at h <;> omega
  obtain ⟨r1, p1⟩ := lack_sub hb hg h1.1
  have l2 := (lack_sub hb hg h1.2).len
  have l1 := p1.length_eq
  rw [List.length_append] at l1
  have : r1 = [] := List.length_eq_zero_iff.mp (by omega)
  rw [this, List.append_nil] at p1
  exact srt_uniq (sees_srt s a) (sees_srt s b) p1
end Sw
/-! Plain: motions. -/
namespace Sw
/-! ### numbers and pairs modulo n -/
def Mq (n x y : Int) : Prop := ∃ k, x = y + n * k
theorem Mq.refl (n x : Int) : Mq n x x := ⟨0, by rw [Int.mul_zero, Int.add_zero]⟩
theorem Mq.symm {n x y : Int} (h : Mq n x y) : Mq n y x := by
  obtain ⟨k, rfl⟩ := h
  exact ⟨-k, by rw [Int.mul_neg]; omega⟩
theorem Mq.trans {n x y z : Int} (h : Mq n x y) (g : Mq n y z) : Mq n x z := by
  obtain ⟨k, rfl⟩ := h
  obtain ⟨j, rfl⟩ := g
  exact ⟨j + k, by rw [Int.mul_add]; omega⟩
theorem Mq.neg {n x y : Int} (h : Mq n x y) : Mq n (-x) (-y) := by
  obtain ⟨k, rfl⟩ := h
  exact ⟨-k, by rw [Int.mul_neg]; omega⟩
theorem Mq.add {n x y u v : Int} (h : Mq n x y) (g : Mq n u v) : Mq n (x + u) (y + v) := by
  obtain ⟨k, rfl⟩ := h
  obtain ⟨j, rfl⟩ := g
  exact ⟨k + j, by rw [Int.mul_add]; omega⟩
theorem Mq.sub {n x y u v : Int} (h : Mq n x y) (g : Mq n u v) : Mq n (x - u) (y - v) := by
  have := h.add g.neg
  rwa [← Int.sub_eq_add_neg, ← Int.sub_eq_add_neg] at this
theorem mq_emod (n x : Int) : Mq n (x % n) x := ⟨-(x / n), by rw [Int.mul_neg]; have := Int.mul_ediv_add_emod x n; omega⟩
theorem Mq.eq {n x y : Int} (h : Mq n x y) : x % n = y % n := by
  obtain ⟨k, rfl⟩ := h
  exact Int.add_mul_emod_self_left y n k
theorem Mq.eqv {n x y : Int} (h : Mq n x y) (x0 : 0 ≤ x) (x1 : x < n) (y0 : 0 ≤ y) (y1 : y < n) : x = y := by
  have := h.eq
  rwa [Int.emod_eq_of_lt x0 x1, Int.emod_eq_of_lt y0 y1] at this
theorem mq_of {n x y : Int} (h : x % n = y % n) : Mq n x y := (mq_emod n x).symm.trans (h ▸ mq_emod n y)
def pa (p q : P2) : P2 := (p.1 + q.1, p.2 + q.2)
def pn (p : P2) : P2 := (-p.1, -p.2)
def Mp (n : Int) (p q : P2) : Prop := Mq n p.1 q.1 ∧ Mq n p.2 q.2
theorem Mp.refl (n : Int) (p : P2) : Mp n p p := ⟨.refl _ _, .refl _ _⟩
theorem Mp.symm {n : Int} {p q : P2} (h : Mp n p q) : Mp n q p := ⟨h.1.symm, h.2.symm⟩
theorem Mp.trans {n : Int} {p q r : P2} (h : Mp n p q) (g : Mp n q r) : Mp n p r := ⟨h.1.trans g.1, h.2.trans g.2⟩
theorem Mp.add {n : Int} {p q r t : P2} (h : Mp n p q) (g : Mp n r t) : Mp n (pa p r) (pa q t) := ⟨h.1.add g.1, h.2.add g.2⟩
theorem Mp.neg {n : Int} {p q : P2} (h : Mp n p q) : Mp n (pn p) (pn q) := ⟨h.1.neg, h.2.neg⟩
theorem Mp.rot {n : Int} {p q : P2} (h : Mp n p q) : Mp n (rot p) (rot q) := ⟨h.2.neg, h.1⟩
theorem Mp.rotN {n : Int} {p q : P2} (h : Mp n p q) : ∀ k, Mp n (rotN k p) (rotN k q)
  | 0 => h
  | k + 1 => (h.rotN k).rot
theorem Mp.turn {n : Int} {p q : P2} (h : Mp n p q) (k : Int) : Mp n (turnM k p) (turnM k q) := h.rotN _
theorem rot_pa (p q : P2) : rot (pa p q) = pa (rot p) (rot q) := by
  unfold rot pa
  dsimp only
  rw [Int.neg_add]
theorem rotN_pa (p q : P2) : ∀ k, rotN k (pa p q) = pa (rotN k p) (rotN k q)
  | 0 => rfl
  | k + 1 => by
    show rot (rotN k (pa p q)) = pa (rot (rotN k p)) (rot (rotN k q))
    rw [rotN_pa p q k, rot_pa]
theorem turn_pa (k : Int) (p q : P2) : turnM k (pa p q) = pa (turnM k p) (turnM k q) := rotN_pa p q _
theorem rot_pn (p : P2) : rot (pn p) = pn (rot p) := rfl
theorem rotN_pn (p : P2) : ∀ k, rotN k (pn p) = pn (rotN k p)
  | 0 => rfl
  | k + 1 => by
    show rot (rotN k (pn p)) = pn (rot (rotN k p))
    rw [rotN_pn p k, rot_pn]
theorem turn_pn (k : Int) (p : P2) : turnM k (pn p) = pn (turnM k p) := rotN_pn p _
theorem rotN_add (p : P2) (i : Nat) : ∀ j, rotN (j + i) p = rotN j (rotN i p)
  | 0 => by rw [Nat.zero_add]; rfl
  | j + 1 => by
    rw [Nat.succ_add]
    show rot (rotN (j + i) p) = rot (rotN j (rotN i p))
    rw [rotN_add p i j]
theorem rotN_four (p : P2) : rotN 4 p = p := by
  show (- -p.1, - -p.2) = p
  rw [Int.neg_neg, Int.neg_neg]
theorem turn_mod (k : Int) (p : P2) : turnM (k % 4) p = turnM k p := by
  unfold turnM
  rw [Int.emod_emod_of_dvd k (by decide : (4 : Int) ∣ 4)]
theorem turn_turn (j k : Int) (p : P2) : turnM j (turnM k p) = turnM (j + k) p := by
  unfold turnM
  rw [← rotN_add]
  have h1 := Int.emod_nonneg j (show (4 : Int) ≠ 0 by decide)
  have h2 := Int.emod_nonneg k (show (4 : Int) ≠ 0 by decide)
  have h3 := Int.emod_lt_of_pos j (show (0 : Int) < 4 by decide)
  have h4 := Int.emod_lt_of_pos k (show (0 : Int) < 4 by decide)
  by_cases h : (j % 4).toNat + (k % 4).toNat < 4
  · rw [show ((j + k) % 4).toNat = (j % 4).toNat + (k % 4).toNat by omega]
  · rw [show (j % 4).toNat + (k % 4).toNat = ((j + k) % 4).toNat + 4 by omega, rotN_add, rotN_four]
theorem turn_zero (p : P2) : turnM 0 p = p := rfl
theorem turn_nat {k : Int} (h0 : 0 ≤ k) (h3 : k ≤ 3) (p : P2) : rotN k.toNat p = turnM k p := by
  unfold turnM
  rw [show k % 4 = k by omega]
theorem turn_same {j k : Int} (h : j % 4 = k % 4) (p : P2) : turnM j p = turnM k p := by
  unfold turnM
  rw [h]
theorem turn_inv (k : Int) (p : P2) : turnM (-k) (turnM k p) = p := by
  rw [turn_turn, show -k + k = 0 by omega]
  rfl
theorem turn_inv' (k : Int) (p : P2) : turnM k (turnM (-k) p) = p := by
  rw [turn_turn, show k + -k = 0 by omega]
  rfl
theorem turn_inj {k : Int} {p q : P2} (h : turnM k p = turnM k q) : p = q := by
  have := congrArg (turnM (-k)) h
  rwa [turn_inv, turn_inv] at this
theorem pa_comm (p q : P2) : pa p q = pa q p := by
  unfold pa
  rw [Int.add_comm p.1, Int.add_comm p.2]
theorem pa_assoc (p q r : P2) : pa (pa p q) r = pa p (pa q r) := by
  unfold pa
  rw [Int.add_assoc, Int.add_assoc]
theorem pa_pn (p : P2) : pa p (pn p) = (0, 0) := by
  unfold pa pn
  rw [Int.add_right_neg, Int.add_right_neg]
theorem pa_zero (p : P2) : pa p (0, 0) = p := by
  unfold pa
  rw [Int.add_zero, Int.add_zero]
/-! ### places moved -/
def pl (a : T3) : P2 := (a.1, a.2.1)
def InP (n : Int) (p : P2) : Prop := 0 ≤ p.1 ∧ p.1 < n ∧ 0 ≤ p.2 ∧ p.2 < n
theorem Mp.eqv {n : Int} {p q : P2} (h : Mp n p q) (hp : InP n p) (hq : InP n q) : p = q := Prod.ext (h.1.eqv hp.1 hp.2.1 hq.1 hq.2.1) (h.2.eqv hp.2.2.1 hp.2.2.2 hq.2.2.1 hq.2.2.2)
theorem movePM_in {n : Int} (hn : 0 < n) (p : P2) (m : T3) : InP n (movePM n p m) := movePM_ok hn p m
def Q3 (m : T3) : Prop := 0 ≤ m.2.2 ∧ m.2.2 ≤ 3
theorem movePM_mp {n : Int} {m : T3} (h : Q3 m) (p : P2) : Mp n (movePM n p m) (pa (turnM m.2.2 p) (pl m)) := by
  rw [← turn_nat h.1 h.2]
  exact ⟨mq_emod _ _, mq_emod _ _⟩
theorem mot_in {n : Int} {m : T3} (h : MotOk n m) : InP n (pl m) := ⟨h.1, h.2.1, h.2.2.1, h.2.2.2.1⟩
theorem star_in {n : Int} {m : T3} (h : StarOk n m) : InP n (pl m) := ⟨h.1, h.2.1, h.2.2.1, h.2.2.2.1⟩
theorem mot_q {n : Int} {m : T3} (h : MotOk n m) : Q3 m := ⟨h.2.2.2.2.1, h.2.2.2.2.2⟩
theorem pl_move (n : Int) (a m : T3) : pl (moveM n a m) = movePM n (pl a) m := rfl
theorem pl_movSt (n : Int) (t m : T3) : pl (movSt n t m) = movePM n (pl t) m := rfl
theorem t3_ext {a b : T3} (h : pl a = pl b) (g : a.2.2 = b.2.2) : a = b := by
  obtain ⟨a1, a2, a3⟩ := a
  obtain ⟨b1, b2, b3⟩ := b
  cases h
  cases g
  rfl
/-! ### nearest -/
theorem near_mod {n x y : Int} (h : Mq n x y) : nearM n x = nearM n y := by
  unfold nearM
  rw [h.eq]
theorem neg_emod {n z : Int} (hn : 0 < n) : -z % n = if z % n = 0 then 0 else n - z % n := by
  have h0 := Int.emod_nonneg z (Int.ne_of_gt hn)
  have h1 := Int.emod_lt_of_pos z hn
  have h2 := (mq_emod n z).neg.eq
  rw [← h2]
  split
  · rename_i h
    rw [h]
    exact Int.zero_emod n
  · rename_i h
    have : Mq n (-(z % n)) (n - z % n) := ⟨-1, by rw [Int.mul_neg, Int.mul_one]; omega⟩
    rw [this.eq, Int.emod_eq_of_lt (by omega) (by omega)]
theorem near_abs {n : Int} (hn : 0 < n) (z : Int) : absI (nearM n (-z)) = absI (nearM n z) := by
  have h0 := Int.emod_nonneg z (Int.ne_of_gt hn)
  have h1 := Int.emod_lt_of_pos z hn
  unfold nearM
  rw [neg_emod hn]
  unfold absI
  split <;> split <;> split <;> split <;> omega
theorem near_neg {n : Int} (hn : 0 < n) {z : Int} (h : 2 * absI (nearM n z) < n) : nearM n (-z) = -nearM n z := by
  have h0 := Int.emod_nonneg z (Int.ne_of_gt hn)
  have h1 := Int.emod_lt_of_pos z hn
  unfold nearM at h ⊢
  rw [neg_emod hn]
  unfold absI at h
  split at h <;> split at h <;> split <;> split <;> omega
theorem near_zero {n : Int} (hn : 0 < n) {z : Int} (h : nearM n z = 0) : z % n = 0 := by
  have h0 := Int.emod_nonneg z (Int.ne_of_gt hn)
  have h1 := Int.emod_lt_of_pos z hn
  unfold nearM at h
  split at h <;> omega
def near2 (n : Int) (p : P2) : P2 := (nearM n p.1, nearM n p.2)
def farP (p : P2) : Int := maxI (absI p.1) (absI p.2)
theorem near2_mod {n : Int} {p q : P2} (h : Mp n p q) : near2 n p = near2 n q := by
  unfold near2
  rw [near_mod h.1, near_mod h.2]
theorem near2_far {n : Int} (hn : 0 < n) (p : P2) : farP (near2 n (rot p)) = farP (near2 n p) := by
  unfold farP near2 rot
  dsimp only
  rw [near_abs hn, maxI_comm]
theorem near2_farN {n : Int} (hn : 0 < n) (p : P2) : ∀ k, farP (near2 n (rotN k p)) = farP (near2 n p)
  | 0 => rfl
  | k + 1 => (near2_far hn _).trans (near2_farN hn p k)
theorem maxI_le {a b c : Int} : maxI a b ≤ c ↔ a ≤ c ∧ b ≤ c := by
  unfold maxI
  split <;> omega
theorem near2_rot {n : Int} (hn : 0 < n) {p : P2} (h : 2 * farP (near2 n p) < n) : near2 n (rot p) = rot (near2 n p) := by
  unfold near2 rot
  dsimp only
  have h2 := (maxI_le.mp (Int.le_refl (farP (near2 n p)))).2
  rw [near_neg hn (by show 2 * absI (near2 n p).2 < n; omega)]
theorem near2_rotN {n : Int} (hn : 0 < n) {p : P2} (h : 2 * farP (near2 n p) < n) : ∀ k, near2 n (rotN k p) = rotN k (near2 n p)
  | 0 => rfl
  | k + 1 => by
    show near2 n (rot (rotN k p)) = rot (rotN k (near2 n p))
    rw [near2_rot hn (by rw [near2_farN hn]; exact h), near2_rotN hn h k]
/-! ### what a motion leaves -/
def dif (t a : T3) : P2 := pa (pl t) (pn (pl a))
theorem lawOff_near (s : SkyD) (a t : T3) : lawOff s a t = turnM (4 - a.2.2) (near2 s.side (dif t a)) := rfl
theorem lawFar_near (s : SkyD) (a t : T3) : lawFar s a t = farP (near2 s.side (dif t a)) := by
  unfold lawFar
  rw [lawOff_near, turn_far]
  rfl
theorem dif_move {n : Int} {m : T3} (h : Q3 m) (a t : T3) : Mp n (dif (movSt n t m) (moveM n a m)) (turnM m.2.2 (dif t a)) := by
  unfold dif
  rw [pl_move, pl_movSt, turn_pa, turn_pn]
  refine ((movePM_mp h (pl t)).add (movePM_mp h (pl a)).neg).trans ?_
  have e : pa (pa (turnM m.2.2 (pl t)) (pl m)) (pn (pa (turnM m.2.2 (pl a)) (pl m))) = pa (turnM m.2.2 (pl t)) (pn (turnM m.2.2 (pl a))) := by
    unfold pa pn
    dsimp only
    refine Prod.ext ?_ ?_ <;> dsimp only <;> omega
  rw [e]
  exact Mp.refl _ _
theorem lawFar_move {s : SkyD} (hn : 0 < s.side) {m : T3} (h : Q3 m) (a t : T3) : lawFar s (moveM s.side a m) (movSt s.side t m) = lawFar s a t := by
  rw [lawFar_near, lawFar_near, near2_mod (dif_move h a t)]
  exact near2_farN hn _ _
theorem lawIn_move {s : SkyD} (hn : 0 < s.side) {m : T3} (h : Q3 m) (a t : T3) : lawIn s (moveM s.side a m) (movSt s.side t m) = lawIn s a t := by
  unfold lawIn
  rw [lawFar_move hn h]
  rfl
theorem lawOff_move {s : SkyD} (hn : 0 < s.side) {m : T3} (h : Q3 m) {a t : T3} (hf : 2 * lawFar s a t < s.side) : lawOff s (moveM s.side a m) (movSt s.side t m) = lawOff s a t := by
  rw [lawFar_near] at hf
  rw [lawOff_near, lawOff_near, near2_mod (dif_move h a t)]
  have e : near2 s.side (turnM m.2.2 (dif t a)) = turnM m.2.2 (near2 s.side (dif t a)) := near2_rotN hn hf _
  rw [e, turn_turn]
  exact turn_same (by show (4 - (a.2.2 + m.2.2) % 4 + m.2.2) % 4 = (4 - a.2.2) % 4; omega) _
theorem room_far {s : SkyD} (ok : SkyOk s) {a t : T3} (h : lawIn s a t = true) : 2 * lawFar s a t < s.side := by
  unfold lawIn at h
  rw [Bool.and_eq_true, decide_eq_true_eq] at h
  have := ok.cam.room
  omega
theorem one_move {s : SkyD} (ok : SkyOk s) {m : T3} (h : Q3 m) {a t : T3} (hi : lawIn s a t = true) : cut4 (lawOne s (moveM s.side a m) (movSt s.side t m)) = cut4 (lawOne s a t) := by
  have n0 : 0 < s.side := by have := ok.n4; omega
  unfold cut4 lawOne
  dsimp only
  rw [lawOff_move n0 h (room_far ok hi)]
  rfl
/-! ### still motions -/
theorem movSt_ok {n : Int} (hn : 0 < n) {t : T3} (h : StarOk n t) (m : T3) : StarOk n (movSt n t m) :=
  ⟨(movePM_in hn (pl t) m).1, (movePM_in hn (pl t) m).2.1, (movePM_in hn (pl t) m).2.2.1, (movePM_in hn (pl t) m).2.2.2, h.2.2.2.2.1, h.2.2.2.2.2⟩
theorem mp_cancel {n : Int} {p q r : P2} (h : Mp n (pa p r) (pa q r)) : Mp n p q := by
  have := h.add (Mp.refl n (pn r))
  rwa [pa_assoc, pa_assoc, pa_pn, pa_zero, pa_zero] at this
theorem mp_cancelL {n : Int} {p q r : P2} (h : Mp n (pa r p) (pa r q)) : Mp n p q := by
  rw [pa_comm r, pa_comm r] at h
  exact mp_cancel h
theorem movePM_inj {n : Int} {m : T3} (h : Q3 m) {p q : P2} (hp : InP n p) (hq : InP n q) (e : movePM n p m = movePM n q m) : p = q := by
  have h1 := (movePM_mp h p).symm.trans (e ▸ movePM_mp h q)
  have h2 := (mp_cancel h1).turn (-m.2.2)
  rw [turn_inv, turn_inv] at h2
  exact h2.eqv hp hq
theorem movSt_inj {n : Int} {m : T3} (h : Q3 m) {t u : T3} (ht : StarOk n t) (hu : StarOk n u) (e : movSt n t m = movSt n u m) : t = u :=
  t3_ext (movePM_inj h (star_in ht) (star_in hu) (congrArg pl e)) (by have := congrArg (fun z : T3 => z.2.2) e; exact this)
theorem bright_nodup {s : SkyD} (ok : SkyOk s) : (brightM s).Nodup := ok.nd.filter _
theorem bright_star {s : SkyD} (ok : SkyOk s) {t : T3} (h : t ∈ brightM s) : StarOk s.side t := ok.stars t (List.mem_filter.mp h).1
theorem still_iff {s : SkyD} {m : T3} : stillB s m = true ↔ ∀ t ∈ brightM s, movSt s.side t m ∈ brightM s := by
  unfold stillB
  rw [List.all_eq_true]
  exact ⟨fun h t ht => of_decide_eq_true (h t ht), fun h t ht => decide_eq_true (h t ht)⟩
theorem still_perm {s : SkyD} (ok : SkyOk s) {m : T3} (h : Q3 m) (hs : stillB s m = true) : ((brightM s).map fun t => movSt s.side t m).Perm (brightM s) := by
  have nd : ((brightM s).map fun t => movSt s.side t m).Nodup := nodup_map_of (bright_nodup ok) fun a ha b hb e => movSt_inj h (bright_star ok ha) (bright_star ok hb) e
  obtain ⟨r, p⟩ := sub_of nd fun x hx => by
    obtain ⟨t, ht, rfl⟩ := List.mem_map.mp hx
    exact still_iff.mp hs t ht
  have l := p.length_eq
  rw [List.length_append, List.length_map] at l
  have : r = [] := List.length_eq_zero_iff.mp (by omega)
  rwa [this, List.append_nil] at p
theorem seeT_bright (s : SkyD) (a : T3) : seeT s a = ((brightM s).filter (lawIn s a)).map fun t => cut4 (lawOne s a t) := by
  rw [seeT_map]
  congr 1
  unfold brightM
  rw [List.filter_filter]
  congr 1
  funext t
  unfold lawIn
  cases decide (lawFar s a t ≤ s.reach + s.blur) <;> cases decide (s.limit - s.glare ≤ t.2.2) <;> rfl
theorem still_sees {s : SkyD} (ok : SkyOk s) {m : T3} (h : Q3 m) (hs : stillB s m = true) (a : T3) : seesM s (moveM s.side a m) = seesM s a := by
  have n0 : 0 < s.side := by have := ok.n4; omega
  refine sees_iff.mpr ?_
  rw [seeT_bright, seeT_bright]
  refine (((still_perm ok h hs).filter (lawIn s (moveM s.side a m))).map _).symm.trans ?_
  rw [List.filter_map, List.map_map]
  have e : (lawIn s (moveM s.side a m) ∘ fun t => movSt s.side t m) = lawIn s a := funext fun t => lawIn_move n0 h a t
  rw [e]
  rw [List.map_congr_left fun t ht => ?_]
  exact one_move ok h (List.mem_filter.mp ht).2
/-- a motion that leaves what is seen from the places is still -/
theorem still_of {s : SkyD} (ok : SkyOk s) {m : T3} (h : MotOk s.side m) (hs : ∀ a, MotOk s.side a → a.2.2 = 0 → seesM s (moveM s.side a m) = seesM s a) : stillB s m = true := by
  have n0 : 0 < s.side := by have := ok.n4; omega
  refine still_iff.mpr fun t ht => ?_
  have st := bright_star ok ht
  have hb : s.limit - s.glare ≤ t.2.2 := of_decide_eq_true (List.mem_filter.mp ht).2
  have e := sees_iff.mp (hs (t.1, t.2.1, 0) ⟨st.1, st.2.1, st.2.2.1, st.2.2.2.1, Int.le_refl 0, by show (0 : Int) ≤ 3; decide⟩ rfl)
  have z : nearM s.side 0 = 0 := by
    unfold nearM
    rw [Int.zero_emod, if_pos (by omega)]
  have o : lawOff s (t.1, t.2.1, 0) t = (0, 0) := by
    unfold lawOff
    dsimp only
    rw [Int.sub_self, Int.sub_self, z]
    rfl
  have hin : lawIn s (t.1, t.2.1, 0) t = true := by
    unfold lawIn lawFar
    rw [o, decide_eq_true hb, decide_eq_true]
    · rfl
    · have := ok.cam.r0
      have := ok.cam.b0
      show (0 : Int) ≤ _
      omega
  have m1 : (0, 0, t.2.2) ∈ seeT s (t.1, t.2.1, 0) := by
    rw [seeT_map]
    refine List.mem_map.mpr ⟨t, List.mem_filter.mpr ⟨(List.mem_filter.mp ht).1, hin⟩, ?_⟩
    unfold cut4 lawOne
    dsimp only
    rw [o]
  have m2 := e.mem_iff.mpr m1
  rw [seeT_map] at m2
  obtain ⟨u, hu, eu⟩ := List.mem_map.mp m2
  obtain ⟨hu1, hu2⟩ := List.mem_filter.mp hu
  have q1 : lawOff s (moveM s.side (t.1, t.2.1, 0) m) u = (0, 0) := Prod.ext (congrArg (fun z : T3 => z.1) eu) (congrArg (fun z : T3 => z.2.1) eu)
  have q2 : u.2.2 = t.2.2 := by
    have := congrArg (fun z : T3 => z.2.2) eu
    exact this
  rw [lawOff_near] at q1
  have q3 : near2 s.side (dif u (moveM s.side (t.1, t.2.1, 0) m)) = (0, 0) := by
    refine turn_inj (q1.trans ?_)
    have : ∀ k, rotN k (0, 0) = (0, 0) := fun k => by
      induction k with
      | zero => rfl
      | succ k ih => show rot (rotN k (0, 0)) = (0, 0); rw [ih]; rfl
    exact (this _).symm
  have q4 : ∀ {x y : Int}, nearM s.side (x + -y) = 0 → Mq s.side x y := fun {x y} h => by
    have := near_zero n0 h
    have := mq_of (this.trans (Int.zero_emod _).symm)
    have := this.add (Mq.refl s.side y)
    rwa [Int.zero_add, show x + -y + y = x by omega] at this
  have q5 : Mp s.side (pl u) (movePM s.side (pl t) m) := ⟨q4 (congrArg (·.1) q3), q4 (congrArg (·.2) q3)⟩
  have q6 : u = movSt s.side t m := t3_ext (q5.eqv (star_in (ok.stars u hu1)) (movePM_in n0 _ _)) q2
  rw [← q6]
  refine List.mem_filter.mpr ⟨hu1, decide_eq_true ?_⟩
  omega
/-! ### the motion between two -/
theorem betw_ok {n : Int} (hn : 0 < n) (a b : T3) : MotOk n (betwM n a b) := by
  refine ⟨Int.emod_nonneg _ (by omega), Int.emod_lt_of_pos _ hn, Int.emod_nonneg _ (by omega), Int.emod_lt_of_pos _ hn, Int.emod_nonneg _ (by decide), ?_⟩
  show (b.2.2 - a.2.2) % 4 ≤ 3
  omega
theorem betw_mp {n : Int} (a b : T3) : Mp n (pl (betwM n a b)) (pa (pl b) (pn (turnM (b.2.2 - a.2.2) (pl a)))) := by
  rw [← turn_mod]
  refine ⟨?_, ?_⟩
  · refine (mq_emod _ _).trans ?_
    rw [Int.sub_eq_add_neg]
    exact Mq.refl _ _
  · refine (mq_emod _ _).trans ?_
    rw [Int.sub_eq_add_neg]
    exact Mq.refl _ _
theorem move_betw {n : Int} (hn : 0 < n) {a b : T3} (ha : MotOk n a) (hb : MotOk n b) : moveM n a (betwM n a b) = b := by
  have q := mot_q (betw_ok hn a b)
  refine t3_ext ?_ ?_
  · refine Mp.eqv ?_ (movePM_in hn _ _) (mot_in hb)
    refine (movePM_mp q (pl a)).trans (((Mp.refl n _).add (betw_mp a b)).trans ?_)
    rw [show turnM (betwM n a b).2.2 (pl a) = turnM (b.2.2 - a.2.2) (pl a) from turn_mod _ _]
    rw [pa_comm, pa_assoc, pa_comm (pn _), pa_pn, pa_zero]
    exact Mp.refl _ _
  · have h1 := mot_q ha
    have h2 := mot_q hb
    unfold Q3 at h1 h2
    show (a.2.2 + (b.2.2 - a.2.2) % 4) % 4 = b.2.2
    omega
theorem move_inj {n : Int} {a m m' : T3} (hm : MotOk n m) (hm' : MotOk n m') (e : moveM n a m = moveM n a m') : m = m' := by
  have q : m.2.2 = m'.2.2 := by
    have h1 := mot_q hm
    have h2 := mot_q hm'
    unfold Q3 at h1 h2
    have : (a.2.2 + m.2.2) % 4 = (a.2.2 + m'.2.2) % 4 := congrArg (fun z : T3 => z.2.2) e
    omega
  refine t3_ext ?_ q
  have h1 : movePM n (pl a) m = movePM n (pl a) m' := congrArg pl e
  have h2 := (movePM_mp (mot_q hm) (pl a)).symm.trans (h1 ▸ movePM_mp (mot_q hm') (pl a))
  rw [q] at h2
  exact (mp_cancelL h2).eqv (mot_in hm) (mot_in hm')
theorem betw_move {n : Int} (hn : 0 < n) {a m : T3} (ha : MotOk n a) (hm : MotOk n m) : betwM n a (moveM n a m) = m :=
  move_inj (betw_ok hn _ _) hm (move_betw hn ha (moveM_ok hn a m))
/-- from the place of one by the one motion to that by another -/
theorem movSt_betw {n : Int} (hn : 0 < n) {a m1 m2 : T3} (h1 : MotOk n m1) (h2 : MotOk n m2) (t : T3) : movSt n (movSt n t m1) (betwM n (moveM n a m1) (moveM n a m2)) = movSt n t m2 := by
  refine t3_ext ?_ rfl
  refine Mp.eqv ?_ (movePM_in hn _ _) (movePM_in hn _ _)
  have q := mot_q (betw_ok hn (moveM n a m1) (moveM n a m2))
  have qe : ∀ p, turnM (betwM n (moveM n a m1) (moveM n a m2)).2.2 p = turnM (m2.2.2 - m1.2.2) p := fun p =>
    turn_same (by show ((a.2.2 + m2.2.2) % 4 - (a.2.2 + m1.2.2) % 4) % 4 % 4 = (m2.2.2 - m1.2.2) % 4; omega) p
  have qe2 : ∀ p, turnM ((moveM n a m2).2.2 - (moveM n a m1).2.2) p = turnM (m2.2.2 - m1.2.2) p := fun p =>
    turn_same (by show ((a.2.2 + m2.2.2) % 4 - (a.2.2 + m1.2.2) % 4) % 4 = (m2.2.2 - m1.2.2) % 4; omega) p
  refine (movePM_mp q _).trans ?_
  rw [qe]
  refine (((movePM_mp (mot_q h1) (pl t)).turn _).add ((betw_mp _ _).trans ((movePM_mp (mot_q h2) (pl a)).add ((movePM_mp (mot_q h1) (pl a)).turn _).neg))).trans ?_
  refine Mp.trans ?_ (movePM_mp (mot_q h2) (pl t)).symm
  rw [qe2, turn_pa, turn_pa, turn_turn, turn_turn, show m2.2.2 - m1.2.2 + m1.2.2 = m2.2.2 by omega]
  have e : pa (pa (turnM m2.2.2 (pl t)) (turnM (m2.2.2 - m1.2.2) (pl m1))) (pa (pa (turnM m2.2.2 (pl a)) (pl m2)) (pn (pa (turnM m2.2.2 (pl a)) (turnM (m2.2.2 - m1.2.2) (pl m1))))) = pa (turnM m2.2.2 (pl t)) (pl m2) := by
    unfold pa pn
    dsimp only
    refine Prod.ext ?_ ?_ <;> dsimp only <;> omega
  rw [e]
  exact Mp.refl _ _
/-- still motions lead to and fro -/
theorem still_betw {s : SkyD} (ok : SkyOk s) {a m1 m2 : T3} (h1 : MotOk s.side m1) (h2 : MotOk s.side m2) (s1 : stillB s m1 = true) (s2 : stillB s m2 = true) : stillB s (betwM s.side (moveM s.side a m1) (moveM s.side a m2)) = true := by
  have n0 : 0 < s.side := by have := ok.n4; omega
  refine still_iff.mpr fun t ht => ?_
  obtain ⟨u, hu, rfl⟩ := List.mem_map.mp ((still_perm ok (mot_q h1) s1).mem_iff.mpr ht)
  rw [movSt_betw n0 h1 h2]
  exact still_iff.mp s2 u hu
/-! ### quarters -/
def rtT (k : Int) (v : T3) : T3 := ((turnM k (v.1, v.2.1)).1, (turnM k (v.1, v.2.1)).2, v.2.2)
theorem rt_rt (j k : Int) (v : T3) : rtT j (rtT k v) = rtT (j + k) v := by
  show ((turnM j (turnM k (v.1, v.2.1))).1, (turnM j (turnM k (v.1, v.2.1))).2, v.2.2) = _
  rw [turn_turn]
  rfl
theorem rt_zero {k : Int} (h : k % 4 = 0) (v : T3) : rtT k v = v := by
  unfold rtT
  rw [turn_same (k := 0) (by omega)]
  rfl
theorem seeT_turn (s : SkyD) (a : T3) (q : Int) : seeT s (a.1, a.2.1, q) = (seeT s (a.1, a.2.1, 0)).map (rtT (-q)) := by
  rw [seeT_map, seeT_map, List.map_map]
  have e : lawIn s (a.1, a.2.1, q) = lawIn s (a.1, a.2.1, 0) := funext fun t => by
    unfold lawIn
    rw [lawFar_near, lawFar_near]
    rfl
  rw [e]
  refine List.map_congr_left fun t ht => ?_
  show ((turnM (4 - q) (near2 s.side (dif t a))).1, (turnM (4 - q) (near2 s.side (dif t a))).2, t.2.2) = ((turnM (-q) (turnM (4 - 0) (near2 s.side (dif t a)))).1, (turnM (-q) (turnM (4 - 0) (near2 s.side (dif t a)))).2, t.2.2)
  rw [turn_turn, turn_same (j := 4 - q) (k := -q + (4 - 0)) (by omega)]
theorem rev_ok {n : Int} (hn : 0 < n) (m : T3) : MotOk n (revM n m) := by
  refine ⟨Int.emod_nonneg _ (by omega), Int.emod_lt_of_pos _ hn, Int.emod_nonneg _ (by omega), Int.emod_lt_of_pos _ hn, Int.emod_nonneg _ (by decide), ?_⟩
  show -m.2.2 % 4 ≤ 3
  omega
theorem pl_back {n : Int} (hn : 0 < n) {p : P2} {m : T3} (hp : InP n p) (hm : MotOk n m) : movePM n (movePM n p m) (revM n m) = p := by
  refine Mp.eqv ?_ (movePM_in hn _ _) hp
  refine (movePM_mp (mot_q (rev_ok hn m)) _).trans ?_
  rw [show ∀ p, turnM (revM n m).2.2 p = turnM (-m.2.2) p from fun p => turn_mod _ _]
  have e : Mp n (pl (revM n m)) (turnM (-m.2.2) (pn (pl m))) := ⟨mq_emod _ _, mq_emod _ _⟩
  refine (((movePM_mp (mot_q hm) p).turn _).add e).trans ?_
  rw [turn_pa, turn_inv, turn_pn, pa_assoc, pa_pn, pa_zero]
  exact Mp.refl _ _
end Sw
/-! Plain: lots of attitudes. -/
namespace Sw
/-! ### all triples are sorted -/
theorem upto_lt (n : Nat) : (upto n).Pairwise (· < ·) := by
  unfold upto
  refine List.pairwise_map.mpr (List.pairwise_lt_range.imp fun h => ?_)
  omega
theorem trips_srt (n : Nat) : SrT (tripsM n) := by
  unfold SrT tripsM
  rw [List.pairwise_flatMap]
  refine ⟨fun x _ => ?_, (upto_lt n).imp fun {x x'} hx a ha b hb => ?_⟩
  · rw [List.pairwise_flatMap]
    refine ⟨fun y _ => ?_, (upto_lt n).imp fun {y y'} hy a ha b hb => ?_⟩
    · refine List.pairwise_map.mpr ((upto_lt 4).imp fun {q q'} hq => ?_)
      rw [ltT_no]
      dsimp only
      omega
    · obtain ⟨q, _, rfl⟩ := List.mem_map.mp ha
      obtain ⟨q', _, rfl⟩ := List.mem_map.mp hb
      rw [ltT_no]
      dsimp only
      omega
  · obtain ⟨y, _, ha⟩ := List.mem_flatMap.mp ha
    obtain ⟨q, _, rfl⟩ := List.mem_map.mp ha
    obtain ⟨y', _, hb⟩ := List.mem_flatMap.mp hb
    obtain ⟨q', _, rfl⟩ := List.mem_map.mp hb
    rw [ltT_no]
    dsimp only
    omega
/-! ### lots that look alike -/
structure AlI (s : SkyD) (pre : List T3) (st : ASt) : Prop where
  nd : (st.map (·.1)).Nodup
  ne : ∀ p ∈ st, p.2 ≠ []
  sees : ∀ p ∈ st, ∀ x ∈ p.2, x ∈ pre ∧ seesM s x = p.1
  pm : ((st.map (·.2)).flatten).Perm pre
theorem upd_flat (key : List T3) (a : T3) : ∀ {st : ASt}, (st.map (·.1)).Nodup → key ∈ st.map (·.1) → (((st.map fun p => if p.1 = key then (p.1, p.2 ++ [a]) else p).map (·.2)).flatten).Perm ((st.map (·.2)).flatten ++ [a])
  | [], _, h => nomatch h
  | p :: st, nd, h => by
    have nd' := List.nodup_cons.mp nd
    by_cases e : p.1 = key
    · have e2 : (st.map fun p => if p.1 = key then (p.1, p.2 ++ [a]) else p) = st := by
        refine (List.map_congr_left fun q hq => ?_).trans (List.map_id st)
        exact if_neg fun z => nd'.1 (List.mem_map.mpr ⟨q, hq, z.trans e.symm⟩)
      rw [List.map_cons, e2, if_pos e, List.map_cons, List.map_cons, List.flatten_cons, List.flatten_cons]
      show (p.2 ++ [a] ++ (st.map (·.2)).flatten).Perm (p.2 ++ (st.map (·.2)).flatten ++ [a])
      rw [List.append_assoc, List.append_assoc]
      exact List.Perm.append_left _ List.perm_append_comm
    · rw [List.map_cons, if_neg e, List.map_cons, List.map_cons, List.flatten_cons, List.flatten_cons, List.append_assoc]
      refine List.Perm.append_left _ (upd_flat key a nd'.2 ?_)
      rcases List.mem_cons.mp h with z | z
      · exact absurd z.symm e
      · exact z
theorem ali_step {s : SkyD} {pre : List T3} {st : ASt} (h : AlI s pre st) (a : T3) : AlI s (pre ++ [a]) (alS s st a) := by
  unfold alS
  by_cases hk : seesM s a ∈ st.map (·.1)
  · rw [if_pos hk]
    refine ⟨?_, ?_, ?_, (upd_flat _ a h.nd hk).trans (h.pm.append_right _)⟩
    · rw [List.map_map]
      rw [show ((fun p : List T3 × List T3 => p.1) ∘ fun p => if p.1 = seesM s a then (p.1, p.2 ++ [a]) else p) = (fun p => p.1) from funext fun p => by show (if p.1 = seesM s a then (p.1, p.2 ++ [a]) else p).1 = p.1; split <;> rfl]
      exact h.nd
    · intro p hp
      obtain ⟨q, hq, rfl⟩ := List.mem_map.mp hp
      have := h.ne q hq
      split
      · simp
      · exact this
    · intro p hp x hx
      obtain ⟨q, hq, rfl⟩ := List.mem_map.mp hp
      by_cases e : q.1 = seesM s a
      · rw [if_pos e] at hx ⊢
        rcases List.mem_append.mp hx with hx | hx
        · exact ⟨List.mem_append_left _ (h.sees q hq x hx).1, (h.sees q hq x hx).2⟩
        · rw [List.mem_singleton.mp hx]
          exact ⟨by simp, e.symm⟩
      · rw [if_neg e] at hx ⊢
        exact ⟨List.mem_append_left _ (h.sees q hq x hx).1, (h.sees q hq x hx).2⟩
  · rw [if_neg hk]
    refine ⟨?_, ?_, ?_, ?_⟩
    · rw [List.map_append]
      refine List.nodup_append.mpr ⟨h.nd, by simp, fun x hx y hy e => ?_⟩
      have e2 : x = seesM s a := by rw [e, List.mem_singleton.mp hy]
      exact hk (e2 ▸ hx)
    · intro p hp
      rcases List.mem_append.mp hp with hp | hp
      · exact h.ne p hp
      · rw [List.mem_singleton.mp hp]
        simp
    · intro p hp x hx
      rcases List.mem_append.mp hp with hp | hp
      · exact ⟨List.mem_append_left _ (h.sees p hp x hx).1, (h.sees p hp x hx).2⟩
      · rw [List.mem_singleton.mp hp] at hx ⊢
        rw [List.mem_singleton.mp hx]
        exact ⟨by simp, rfl⟩
    · rw [List.map_append, List.flatten_append]
      show ((st.map (·.2)).flatten ++ [[a]].flatten).Perm _
      rw [show [[a]].flatten = [a] from rfl]
      exact h.pm.append_right _
theorem ali_all (s : SkyD) (pre : List T3) : AlI s pre (alF s pre) := by
  have key : ∀ (l : List T3) (pre : List T3) (st : ASt), AlI s pre st → AlI s (pre ++ l) (l.foldl (alS s) st) := by
    intro l
    induction l with
    | nil => intro pre st h; rwa [List.append_nil]
    | cons a l ih =>
      intro pre st h
      have := ih (pre ++ [a]) (alS s st a) (ali_step h a)
      rwa [List.append_assoc] at this
  exact key pre [] [] ⟨List.nodup_nil, (fun _ h => nomatch h), (fun _ h => nomatch h), List.Perm.refl _⟩
theorem lots_flat (s : SkyD) : sort3 (lotsM s).flatten = tripsM s.side.toNat :=
  (sort3_of (trips_srt _) (ali_all s (tripsM s.side.toNat)).pm.symm).symm
theorem lots_ne {s : SkyD} {l : List T3} (h : l ∈ lotsM s) : l ≠ [] := by
  obtain ⟨p, hp, rfl⟩ := List.mem_map.mp h
  exact (ali_all s _).ne p hp
theorem lots_ok {s : SkyD} {l : List T3} (h : l ∈ lotsM s) {x : T3} (hx : x ∈ l) : MotOk s.side x := by
  obtain ⟨p, hp, rfl⟩ := List.mem_map.mp h
  exact trips_mem ((ali_all s _).sees p hp x hx).1
theorem lots_sees {s : SkyD} {l : List T3} (h : l ∈ lotsM s) {x y : T3} (hx : x ∈ l) (hy : y ∈ l) : seesM s x = seesM s y := by
  obtain ⟨p, hp, rfl⟩ := List.mem_map.mp h
  exact ((ali_all s _).sees p hp x hx).2.trans ((ali_all s _).sees p hp y hy).2.symm
/-- who looks the same stands in the same lot -/
theorem lots_in {s : SkyD} {l : List T3} (h : l ∈ lotsM s) {x y : T3} (hx : x ∈ l) (hy : MotOk s.side y) (e : seesM s y = seesM s x) : y ∈ l := by
  have A := ali_all s (tripsM s.side.toNat)
  obtain ⟨p, hp, rfl⟩ := List.mem_map.mp h
  have m := A.pm.mem_iff.mpr (mem_trips hy)
  obtain ⟨l', hl', hy'⟩ := List.mem_flatten.mp m
  obtain ⟨p', hp', rfl⟩ := List.mem_map.mp hl'
  have : p' = p := nodup_of_map A.nd p' hp' p hp ((A.sees p' hp' y hy').2.symm.trans (e.trans (A.sees p hp x hx).2))
  rw [← this]
  exact hy'
/-- the lots without one's own -/
theorem lots_others {s : SkyD} {l : List T3} (h : l ∈ lotsM s) {x : T3} (hx : x ∈ l) : ((lotsM s).filter fun m => !decide (x ∈ m)).length = (lotsM s).length - 1 := by
  have A := ali_all s (tripsM s.side.toNat)
  obtain ⟨p, hp, rfl⟩ := List.mem_map.mp h
  have e : ∀ q ∈ alF s (tripsM s.side.toNat), (!decide (x ∈ q.2)) = !decide (q.1 = p.1) := fun q hq => by
    congr 1
    by_cases c : q.1 = p.1
    · have : q = p := nodup_of_map A.nd q hq p hp c
      rw [this, decide_eq_true hx, decide_eq_true rfl]
    · rw [decide_eq_false c, decide_eq_false fun z => c ((A.sees q hq x z).2.symm.trans (A.sees p hp x hx).2)]
  have key : ∀ {st : ASt}, (st.map (·.1)).Nodup → p ∈ st → (st.filter fun q => !decide (q.1 = p.1)).length = st.length - 1 := by
    intro st
    induction st with
    | nil => intro _ h; exact nomatch h
    | cons q st ih =>
      intro nd h
      have nd' := List.nodup_cons.mp nd
      rw [List.filter_cons]
      by_cases c : q.1 = p.1
      · rw [decide_eq_true c]
        have : st.filter (fun q => !decide (q.1 = p.1)) = st := List.filter_eq_self.mpr fun z hz => by
          rw [decide_eq_false fun w => nd'.1 (List.mem_map.mpr ⟨z, hz, w.trans c.symm⟩)]
          rfl
        rw [this]
        simp
      · have hp' : p ∈ st := by
          rcases List.mem_cons.mp h with z | z
          · exact absurd (congrArg (·.1) z.symm) c
          · exact z
        rw [decide_eq_false c]
        have := ih nd'.2 hp'
        have l0 : 0 < st.length := List.length_pos_of_mem hp'
        simp only [Bool.not_false, if_true, List.length_cons]
        omega
  unfold lotsM
  rw [List.filter_map, List.length_map, List.length_map, ← key A.nd hp]
  congr 1
  exact List.filter_congr fun q hq => e q hq
/-! ### lots by still motions -/
structure SlI (s : SkyD) (pre : List T3) (st : List T3 × List (List T3)) : Prop where
  has : ∀ x ∈ pre, x ∈ st.1
  known : ∀ x ∈ st.1, ∃ l ∈ st.2, x ∈ l
  lots : ∀ l ∈ st.2, ∃ a, MotOk s.side a ∧ l = lotM s a
theorem still_zero {s : SkyD} (ok : SkyOk s) : stillB s (0, 0, 0) = true := by
  have n0 : 0 < s.side := by have := ok.n4; omega
  refine still_iff.mpr fun t ht => ?_
  have st := bright_star ok ht
  have : movSt s.side t (0, 0, 0) = t := t3_ext (Prod.ext (by show (t.1 + 0) % s.side = t.1; rw [Int.add_zero, Int.emod_eq_of_lt st.1 st.2.1]) (by show (t.2.1 + 0) % s.side = t.2.1; rw [Int.add_zero, Int.emod_eq_of_lt st.2.2.1 st.2.2.2.1])) rfl
  rw [this]
  exact ht
theorem move_zero {n : Int} {a : T3} (h : MotOk n a) : moveM n a (0, 0, 0) = a := by
  have q := mot_q h
  unfold Q3 at q
  exact t3_ext (Prod.ext (by show (a.1 + 0) % n = a.1; rw [Int.add_zero, Int.emod_eq_of_lt h.1 h.2.1]) (by show (a.2.1 + 0) % n = a.2.1; rw [Int.add_zero, Int.emod_eq_of_lt h.2.2.1 h.2.2.2.1])) (by show (a.2.2 + 0) % 4 = a.2.2; omega)
theorem still_mem {s : SkyD} {m : T3} : m ∈ stillM s ↔ MotOk s.side m ∧ stillB s m = true :=
  ⟨fun h => ⟨still_ok h, (List.mem_filter.mp h).2⟩, fun h => List.mem_filter.mpr ⟨mem_trips h.1, h.2⟩⟩
theorem zero_still {s : SkyD} (ok : SkyOk s) : (0, 0, 0) ∈ stillM s := by
  have := ok.n4
  exact still_mem.mpr ⟨⟨Int.le_refl 0, by show (0 : Int) < s.side; omega, Int.le_refl 0, by show (0 : Int) < s.side; omega, Int.le_refl 0, by show (0 : Int) ≤ 3; decide⟩, still_zero ok⟩
theorem lotM_mem {s : SkyD} {a x : T3} : x ∈ lotM s a ↔ ∃ m ∈ stillM s, moveM s.side a m = x := by
  unfold lotM
  rw [(sort3_perm _).mem_iff, List.mem_map]
theorem sli_step {s : SkyD} (ok : SkyOk s) {pre : List T3} {st : List T3 × List (List T3)} (h : SlI s pre st) {a : T3} (ha : MotOk s.side a) : SlI s (pre ++ [a]) (slS s st a) := by
  unfold slS
  by_cases hk : a ∈ st.1
  · rw [if_pos hk]
    refine ⟨fun x hx => ?_, h.known, h.lots⟩
    rcases List.mem_append.mp hx with hx | hx
    · exact h.has x hx
    · rw [List.mem_singleton.mp hx]; exact hk
  · rw [if_neg hk]
    refine ⟨fun x hx => ?_, fun x hx => ?_, fun l hl => ?_⟩
    · rcases List.mem_append.mp hx with hx | hx
      · exact adds_mem.mpr (.inl (h.has x hx))
      · rw [List.mem_singleton.mp hx]
        exact adds_mem.mpr (.inr (lotM_mem.mpr ⟨_, zero_still ok, move_zero ha⟩))
    · rcases adds_mem.mp hx with hx | hx
      · obtain ⟨l, hl, hx⟩ := h.known x hx
        exact ⟨l, List.mem_append_left _ hl, hx⟩
      · exact ⟨lotM s a, by simp, hx⟩
    · rcases List.mem_append.mp hl with hl | hl
      · exact h.lots l hl
      · exact ⟨a, ha, List.mem_singleton.mp hl⟩
theorem sli_all {s : SkyD} (ok : SkyOk s) : ∀ {l : List T3}, (∀ a ∈ l, MotOk s.side a) → SlI s l (slF s l) := by
  have key : ∀ (l : List T3) (pre : List T3) (st : List T3 × List (List T3)), (∀ a ∈ l, MotOk s.side a) → SlI s pre st → SlI s (pre ++ l) (l.foldl (slS s) st) := by
    intro l
    induction l with
    | nil => intro pre st _ h; rwa [List.append_nil]
    | cons a l ih =>
      intro pre st ha h
      have := ih (pre ++ [a]) (slS s st a) (fun x hx => ha x (List.mem_cons_of_mem _ hx)) (sli_step ok h (ha a List.mem_cons_self))
      rwa [List.append_assoc] at this
  exact fun {l} hl => key l [] ([], []) hl ⟨(fun _ h => nomatch h), (fun _ h => nomatch h), (fun _ h => nomatch h)⟩
theorem still_lots_has {s : SkyD} (ok : SkyOk s) {x : T3} (hx : MotOk s.side x) : ∃ l ∈ stillLotsM s, x ∈ l :=
  have A := sli_all ok (l := tripsM s.side.toNat) fun _ h => trips_mem h
  A.known x (A.has x (mem_trips hx))
theorem still_lots_iff {s : SkyD} (ok : SkyOk s) {l : List T3} (hl : l ∈ stillLotsM s) {x y : T3} (hx : x ∈ l) (hxo : MotOk s.side x) (hy : MotOk s.side y) : y ∈ l ↔ stillB s (betwM s.side x y) = true := by
  have n0 : 0 < s.side := by have := ok.n4; omega
  obtain ⟨a, ha, rfl⟩ := (sli_all ok (l := tripsM s.side.toNat) fun _ h => trips_mem h).lots l hl
  obtain ⟨m1, h1, rfl⟩ := lotM_mem.mp hx
  obtain ⟨o1, s1⟩ := still_mem.mp h1
  constructor
  · intro h
    obtain ⟨m2, h2, rfl⟩ := lotM_mem.mp h
    obtain ⟨o2, s2⟩ := still_mem.mp h2
    exact still_betw ok o1 o2 s1 s2
  · intro h
    have o2 := betw_ok n0 a y
    have e := move_betw n0 ha hy
    refine lotM_mem.mpr ⟨betwM s.side a y, still_mem.mpr ⟨o2, still_iff.mpr fun t ht => ?_⟩, e⟩
    rw [← movSt_betw n0 (a := a) o1 o2 t, e]
    exact still_iff.mp h _ (still_iff.mp s1 t ht)
/-! ### ways to all -/
theorem cmd_turn {n : Int} {a : T3} (h : MotOk n a) : cmdM n a (0, 0, 1) = (a.1, a.2.1, (a.2.2 + 1) % 4) := by
  have z : turnM a.2.2 (0, 0) = (0, 0) := by
    have : ∀ k, rotN k (0, 0) = (0, 0) := fun k => by
      induction k with
      | zero => rfl
      | succ k ih => show rot (rotN k (0, 0)) = (0, 0); rw [ih]; rfl
    exact this _
  unfold cmdM
  dsimp only
  rw [z, Int.add_zero, Int.add_zero, Int.emod_eq_of_lt h.1 h.2.1, Int.emod_eq_of_lt h.2.2.1 h.2.2.2.1]
theorem ways_all {n : Int} (hn : 0 < n) {K : List T3} (hK : ∀ t ∈ K, MotOk n t) (h1 : ∀ t ∈ K, cmdM n t (1, 0, 0) ∈ K) (h2 : ∀ t ∈ K, cmdM n t (0, 1, 0) ∈ K) (h3 : ∀ t ∈ K, cmdM n t (0, 0, 1) ∈ K) {a : T3} (ha : a ∈ K) {b : T3} (hb : MotOk n b) : b ∈ K := by
  have q : ∀ (k : Nat) (t : T3), t ∈ K → (t.1, t.2.1, (t.2.2 + k) % 4) ∈ K := by
    intro k
    induction k with
    | zero =>
      intro t ht
      have h := mot_q (hK t ht)
      unfold Q3 at h
      rw [show (t.2.2 + (0 : Nat)) % 4 = t.2.2 by omega]
      exact ht
    | succ k ih =>
      intro t ht
      have := h3 _ (ih t ht)
      rw [cmd_turn (hK _ (ih t ht))] at this
      dsimp only at this
      rwa [show ((t.2.2 + (k : Nat)) % 4 + 1) % 4 = (t.2.2 + ((k + 1 : Nat) : Int)) % 4 by omega] at this
  have x : ∀ (k : Nat) (t : T3), t ∈ K → t.2.2 = 0 → ((t.1 + k) % n, t.2.1, 0) ∈ K := by
    intro k
    induction k with
    | zero =>
      intro t ht e
      have h := hK t ht
      rw [show t.1 + ((0 : Nat) : Int) = t.1 by omega, Int.emod_eq_of_lt h.1 h.2.1, ← e]
      exact ht
    | succ k ih =>
      intro t ht e
      have h := hK _ (ih t ht e)
      have := h1 _ (ih t ht e)
      have e2 : cmdM n ((t.1 + (k : Nat)) % n, t.2.1, 0) (1, 0, 0) = ((t.1 + ((k + 1 : Nat) : Int)) % n, t.2.1, 0) := by
        refine t3_ext (Prod.ext ?_ ?_) rfl
        · show ((t.1 + (k : Nat)) % n + 1) % n = (t.1 + ((k + 1 : Nat) : Int)) % n
          rw [((mq_emod n (t.1 + (k : Nat))).add (Mq.refl n 1)).eq]
          congr 1
          omega
        · show (t.2.1 + 0) % n = t.2.1
          rw [Int.add_zero, Int.emod_eq_of_lt h.2.2.1 h.2.2.2.1]
      rwa [e2] at this
  have y : ∀ (k : Nat) (t : T3), t ∈ K → t.2.2 = 0 → (t.1, (t.2.1 + k) % n, 0) ∈ K := by
    intro k
    induction k with
    | zero =>
      intro t ht e
      have h := hK t ht
      rw [show t.2.1 + ((0 : Nat) : Int) = t.2.1 by omega, Int.emod_eq_of_lt h.2.2.1 h.2.2.2.1, ← e]
      exact ht
    | succ k ih =>
      intro t ht e
      have h := hK _ (ih t ht e)
      have := h2 _ (ih t ht e)
      have e2 : cmdM n (t.1, (t.2.1 + (k : Nat)) % n, 0) (0, 1, 0) = (t.1, (t.2.1 + ((k + 1 : Nat) : Int)) % n, 0) := by
        refine t3_ext (Prod.ext ?_ ?_) rfl
        · show (t.1 + 0) % n = t.1
          rw [Int.add_zero, Int.emod_eq_of_lt h.1 h.2.1]
        · show ((t.2.1 + (k : Nat)) % n + 1) % n = (t.2.1 + ((k + 1 : Nat) : Int)) % n
          rw [((mq_emod n (t.2.1 + (k : Nat))).add (Mq.refl n 1)).eq]
          congr 1
          omega
      rwa [e2] at this
  have hq := mot_q (hK a ha)
  have hq' := mot_q hb
  unfold Q3 at hq hq'
  have s1 := q (4 - a.2.2).toNat a ha
  rw [show (a.2.2 + ((4 - a.2.2).toNat : Nat)) % 4 = 0 by omega] at s1
  have go : ∀ u v : Int, 0 ≤ v → v < n → (u + (((v - u) % n).toNat : Nat)) % n = v := fun u v h0 h1 => by
    have := Int.emod_nonneg (v - u) (Int.ne_of_gt hn)
    rw [show ((((v - u) % n).toNat : Nat) : Int) = (v - u) % n by omega]
    have := ((Mq.refl n u).add (mq_emod n (v - u))).eq
    rw [this, show u + (v - u) = v by omega, Int.emod_eq_of_lt h0 h1]
  have s2 := x ((b.1 - a.1) % n).toNat _ s1 rfl
  dsimp only at s2
  rw [go a.1 b.1 hb.1 hb.2.1] at s2
  have s3 := y ((b.2.1 - a.2.1) % n).toNat _ s2 rfl
  dsimp only at s3
  rw [go a.2.1 b.2.1 hb.2.2.1 hb.2.2.2.1] at s3
  have s4 := q b.2.2.toNat _ s3
  dsimp only at s4
  rwa [show (0 + ((b.2.2.toNat : Nat) : Int)) % 4 = b.2.2 by omega] at s4
end Sw
/-! Plain: sightings that tell. -/
namespace Sw
/-! ### bounds -/
structure SnOk (s : SkyD) (v : T3) : Prop where
  x0 : -(s.reach + s.blur) ≤ v.1
  x1 : v.1 ≤ s.reach + s.blur
  y0 : -(s.reach + s.blur) ≤ v.2.1
  y1 : v.2.1 ≤ s.reach + s.blur
  z0 : s.limit - s.glare ≤ v.2.2
  z1 : v.2.2 ≤ 9
theorem absI_le {x c : Int} : absI x ≤ c ↔ -c ≤ x ∧ x ≤ c := by
  unfold absI
  split <;> omega
theorem sees_ok {s : SkyD} (ok : SkyOk s) {a v : T3} (h : v ∈ seesM s a) : SnOk s v := by
  have h1 := (sees_perm s a).mem_iff.mp h
  rw [seeT_map] at h1
  obtain ⟨t, ht, rfl⟩ := List.mem_map.mp h1
  obtain ⟨h2, h3⟩ := List.mem_filter.mp ht
  unfold lawIn lawFar at h3
  rw [Bool.and_eq_true, decide_eq_true_eq, decide_eq_true_eq, maxI_le, absI_le, absI_le] at h3
  exact ⟨h3.1.1.1, h3.1.1.2, h3.1.2.1, h3.1.2.2, h3.2, (ok.stars t h2).2.2.2.2.2⟩
def bx (s : SkyD) (x : Int) : P2 := (maxI (-s.reach) (x - s.blur), minI s.reach (x + s.blur))
def bz (s : SkyD) (z : Int) : P2 := (maxI s.limit (z - s.glare), z + s.glare)
theorem bounds_eq (s : SkyD) (v : T3) : boundsM s v = [bx s v.1, bx s v.2.1, bz s v.2.2] := rfl
def inI (b : P2) (x : Int) : Prop := b.1 ≤ x ∧ x ≤ b.2
def inB (b1 b2 b3 : P2) (p : T3) : Prop := inI b1 p.1 ∧ inI b2 p.2.1 ∧ inI b3 p.2.2
instance (b1 b2 b3 : P2) (p : T3) : Decidable (inB b1 b2 b3 p) := by unfold inB inI; infer_instance
theorem bx_ne {s : SkyD} (ok : SkyOk s) {x : Int} (h0 : -(s.reach + s.blur) ≤ x) (h1 : x ≤ s.reach + s.blur) : -s.reach ≤ (bx s x).1 ∧ (bx s x).1 ≤ (bx s x).2 ∧ (bx s x).2 ≤ s.reach := by
  have := ok.cam.r0
  have := ok.cam.b0
  unfold bx maxI minI
  dsimp only
  split <;> split <;> omega
theorem bz_ne {s : SkyD} (ok : SkyOk s) {z : Int} (h0 : s.limit - s.glare ≤ z) (h1 : z ≤ 9) : s.limit ≤ (bz s z).1 ∧ (bz s z).1 ≤ (bz s z).2 ∧ (bz s z).2 ≤ 9 + s.glare := by
  have := ok.cam.g0
  unfold bz maxI
  dsimp only
  split <;> omega
theorem bx_inj {s : SkyD} (ok : SkyOk s) {x y : Int} (x0 : -(s.reach + s.blur) ≤ x) (x1 : x ≤ s.reach + s.blur) (y0 : -(s.reach + s.blur) ≤ y) (y1 : y ≤ s.reach + s.blur) (e : bx s x = bx s y) : x = y := by
  have := ok.cam.r0
  have := ok.cam.b0
  have := ok.cam.br
  have e1 := congrArg (·.1) e
  have e2 := congrArg (·.2) e
  unfold bx maxI minI at e1 e2
  dsimp only at e1 e2
  split at e1 <;> split at e1 <;> split at e2 <;> split at e2 <;> omega
theorem bz_inj {s : SkyD} {x y : Int} (e : bz s x = bz s y) : x = y := by
  have e2 := congrArg (·.2) e
  unfold bz at e2
  dsimp only at e2
  omega
theorem bounds_inj {s : SkyD} (ok : SkyOk s) {u v : T3} (hu : SnOk s u) (hv : SnOk s v) (e : boundsM s u = boundsM s v) : u = v := by
  rw [bounds_eq, bounds_eq] at e
  have e1 := (List.cons.inj e).1
  have e2 := (List.cons.inj (List.cons.inj e).2).1
  have e3 := (List.cons.inj (List.cons.inj (List.cons.inj e).2).2).1
  exact Prod.ext (bx_inj ok hu.x0 hu.x1 hv.x0 hv.x1 e1) (Prod.ext (bx_inj ok hu.y0 hu.y1 hv.y0 hv.y1 e2) (bz_inj e3))
/-- a spot that fits lies within the bounds, and the other way -/
theorem close_in {s : SkyD} {v p : T3} (hp : SpotOk s p) : closeB s v p = true ↔ inB (bx s v.1) (bx s v.2.1) (bz s v.2.2) p := by
  have := hp.x0
  have := hp.x1
  have := hp.y0
  have := hp.y1
  have := hp.b0
  have := hp.b1
  unfold closeB
  rw [Bool.and_eq_true, decide_eq_true_eq, decide_eq_true_eq, maxI_le, absI_le, absI_le, absI_le]
  unfold inB inI bx bz maxI minI
  dsimp only
  constructor
  · intro h
    refine ⟨⟨?_, ?_⟩, ⟨?_, ?_⟩, ⟨?_, ?_⟩⟩ <;> first | (split <;> omega) | omega
  · intro ⟨⟨h1, h2⟩, ⟨h3, h4⟩, ⟨h5, h6⟩⟩
    split at h1 <;> split at h2 <;> split at h3 <;> split at h4 <;> split at h5 <;> omega
theorem lies3 (b1 b2 b3 o1 o2 o3 : P2) : liesM [b1, b2, b3] [o1, o2, o3] = true ↔ (o1.1 ≤ b1.1 ∧ b1.2 ≤ o1.2) ∧ (o2.1 ≤ b2.1 ∧ b2.2 ≤ o2.2) ∧ (o3.1 ≤ b3.1 ∧ b3.2 ≤ o3.2) := by
  unfold liesM
  simp [List.zip, List.all]
def pickI (b o : P2) : Int := if b.1 < o.1 then b.1 else b.2
theorem out3 (b1 b2 b3 o1 o2 o3 : P2) : outT [b1, b2, b3] [o1, o2, o3] = (pickI b1 o1, pickI b2 o2, pickI b3 o3) := rfl
theorem pick_in {b o : P2} (h : b.1 ≤ b.2) : inI b (pickI b o) := by
  unfold inI pickI
  split <;> omega
theorem pick_out {b o : P2} (h : b.1 ≤ b.2) (hi : inI o (pickI b o)) : o.1 ≤ b.1 ∧ b.2 ≤ o.2 := by
  unfold inI pickI at hi
  split at hi <;> omega
section
variable {s : SkyD} (ok : SkyOk s) {o1 o2 o3 : P2}
include ok
theorem spot_of {v : T3} (hv : SnOk s v) : SpotOk s (outT (boundsM s v) [o1, o2, o3]) ∧ closeB s v (outT (boundsM s v) [o1, o2, o3]) = true ∧ (liesM (boundsM s v) [o1, o2, o3] = false → ¬ inB o1 o2 o3 (outT (boundsM s v) [o1, o2, o3])) := by
  have a1 := bx_ne ok hv.x0 hv.x1
  have a2 := bx_ne ok hv.y0 hv.y1
  have a3 := bz_ne ok hv.z0 hv.z1
  rw [bounds_eq, out3]
  have p1 := pick_in (o := o1) a1.2.1
  have p2 := pick_in (o := o2) a2.2.1
  have p3 := pick_in (o := o3) a3.2.1
  have sp : SpotOk s (pickI (bx s v.1) o1, pickI (bx s v.2.1) o2, pickI (bz s v.2.2) o3) := by
    unfold inI at p1 p2 p3
    exact ⟨by dsimp only; omega, by dsimp only; omega, by dsimp only; omega, by dsimp only; omega, by dsimp only; omega, by dsimp only; omega⟩
  refine ⟨sp, (close_in sp).mpr ⟨p1, p2, p3⟩, fun h hi => ?_⟩
  have : liesM [bx s v.1, bx s v.2.1, bz s v.2.2] [o1, o2, o3] = true := (lies3 _ _ _ _ _ _).mpr ⟨pick_out a1.2.1 hi.1, pick_out a2.2.1 hi.2.1, pick_out a3.2.1 hi.2.2⟩
  rw [this] at h
  cases h
omit ok in
theorem lies_in {v p : T3} (h : liesM (boundsM s v) [o1, o2, o3] = true) (hp : inB (bx s v.1) (bx s v.2.1) (bz s v.2.2) p) : inB o1 o2 o3 p := by
  rw [bounds_eq, lies3] at h
  unfold inB inI at hp ⊢
  omega
end
/-! ### counting -/
theorem cnt_zero {v : T3} {L : List T3} (h : v ∉ L) : cnt v L = 0 := @List.count_eq_zero_of_not_mem T3 instBEqOfDecidableEq inferInstance v L h
theorem perm_cnt {V W : List T3} (h : ∀ v, cnt v V = cnt v W) : V.Perm W := (@List.perm_iff_count T3 instBEqOfDecidableEq inferInstance V W).mpr h
theorem cnt_filter {p : T3 → Bool} {v : T3} (L : List T3) (h : p v = true) : cnt v (L.filter p) = cnt v L := @List.count_filter T3 instBEqOfDecidableEq inferInstance p v L h
theorem cnt_len (v : T3) (L : List T3) : cnt v L = (L.filter fun x => decide (x = v)).length := by
  unfold cnt
  rw [@List.count_eq_length_filter T3 instBEqOfDecidableEq v L]
  congr 1
theorem split_len (p : T3 → Bool) (L : List T3) : L.length = (L.filter p).length + (L.filter fun x => !p x).length := by
  have := (List.filter_append_perm p L).length_eq
  rw [List.length_append] at this
  omega
theorem ex_min {α : Type} (f : α → Int) : ∀ {L : List α}, L ≠ [] → ∃ b ∈ L, ∀ o ∈ L, f b ≤ f o
  | [], h => absurd rfl h
  | [a], _ => ⟨a, List.mem_cons_self, fun o ho => by rw [List.mem_singleton.mp ho]; exact Int.le_refl _⟩
  | a :: c :: L, _ => by
    obtain ⟨b, hb, hm⟩ := ex_min f (L := c :: L) (fun h => nomatch h)
    by_cases h : f a ≤ f b
    · refine ⟨a, List.mem_cons_self, fun o ho => ?_⟩
      rcases List.mem_cons.mp ho with rfl | ho
      · exact Int.le_refl _
      · have := hm o ho
        omega
    · refine ⟨b, List.mem_cons_of_mem _ hb, fun o ho => ?_⟩
      rcases List.mem_cons.mp ho with rfl | ho
      · omega
      · exact hm o ho
def wid (b : List P2) : Int := ((b.getD 0 (0, 0)).2 - (b.getD 0 (0, 0)).1) + ((b.getD 1 (0, 0)).2 - (b.getD 1 (0, 0)).1) + ((b.getD 2 (0, 0)).2 - (b.getD 2 (0, 0)).1)
theorem unlike_mem {s : SkyD} {V W : List T3} {b : List P2} : b ∈ unlikeM s V W ↔ ∃ v ∈ V ++ W, cnt v V ≠ cnt v W ∧ boundsM s v = b := by
  unfold unlikeM
  rw [List.mem_map]
  constructor
  · intro ⟨v, h, e⟩
    obtain ⟨h1, h2⟩ := List.mem_filter.mp h
    refine ⟨v, h1, fun z => ?_, e⟩
    rw [decide_eq_true z] at h2
    cases h2
  · intro ⟨v, h1, h2, e⟩
    exact ⟨v, List.mem_filter.mpr ⟨h1, by rw [decide_eq_false h2]; rfl⟩, e⟩
theorem least_some {s : SkyD} {V W : List T3} (h : ¬ V.Perm W) : ∃ b, leastM s V W = some b := by
  have : ∃ v, cnt v V ≠ cnt v W := Classical.byContradiction fun n => h (perm_cnt fun v => Classical.byContradiction fun z => n ⟨v, z⟩)
  obtain ⟨v, hv⟩ := this
  have hm : v ∈ V ++ W := Classical.byContradiction fun n => by
    rw [List.mem_append, not_or] at n
    exact hv (by rw [cnt_zero n.1, cnt_zero n.2])
  have hne : unlikeM s V W ≠ [] := fun e => by
    have := (unlike_mem (s := s)).mpr ⟨v, hm, hv, rfl⟩
    rw [e] at this
    cases this
  obtain ⟨b, hb, hmin⟩ := ex_min wid hne
  cases e : leastM s V W with
  | some b => exact ⟨b, rfl⟩
  | none =>
    unfold leastM at e
    have := List.find?_eq_none.mp e b hb
    rw [Bool.not_eq_true, Bool.not_eq_false'] at this
    obtain ⟨o, ho, h2⟩ := List.any_eq_true.mp this
    rw [Bool.and_eq_true] at h2
    have hw := hmin o ho
    obtain ⟨u, _, _, rfl⟩ := unlike_mem.mp ho
    obtain ⟨u2, _, _, rfl⟩ := unlike_mem.mp hb
    rw [bounds_eq, bounds_eq] at hw h2
    have h3 := (lies3 _ _ _ _ _ _).mp h2.2
    have hne : ¬ ([bx s u.1, bx s u.2.1, bz s u.2.2] = [bx s u2.1, bx s u2.2.1, bz s u2.2.2]) := fun z => by
      rw [decide_eq_true z] at h2
      cases h2.1
    refine absurd ?_ hne
    have hw' : ((bx s u2.1).2 - (bx s u2.1).1) + ((bx s u2.2.1).2 - (bx s u2.2.1).1) + ((bz s u2.2.2).2 - (bz s u2.2.2).1) ≤ ((bx s u.1).2 - (bx s u.1).1) + ((bx s u.2.1).2 - (bx s u.2.1).1) + ((bz s u.2.2).2 - (bz s u.2.2).1) := hw
    have q1 : bx s u.1 = bx s u2.1 := Prod.ext (by omega) (by omega)
    have q2 : bx s u.2.1 = bx s u2.2.1 := Prod.ext (by omega) (by omega)
    have q3 : bz s u.2.2 = bz s u2.2.2 := Prod.ext (by omega) (by omega)
    rw [q1, q2, q3]
theorem least_spec {s : SkyD} {V W : List T3} {b : List P2} (h : leastM s V W = some b) : (∃ v ∈ V ++ W, cnt v V ≠ cnt v W ∧ boundsM s v = b) ∧ ∀ v ∈ V ++ W, cnt v V ≠ cnt v W → boundsM s v ≠ b → liesM (boundsM s v) b = false := by
  unfold leastM at h
  have h1 := List.mem_of_find?_eq_some h
  have h2 := List.find?_some h
  refine ⟨unlike_mem.mp h1, fun v hv hc hne => ?_⟩
  have h3 : ((unlikeM s V W).any fun o => !decide (o = b) && liesM o b) = false := by
    cases c : ((unlikeM s V W).any fun o => !decide (o = b) && liesM o b) with
    | false => rfl
    | true =>
      rw [c] at h2
      cases h2
  have h4 := (List.any_eq_false.mp h3) _ (unlike_mem.mpr ⟨v, hv, hc, rfl⟩)
  rw [decide_eq_false hne, Bool.not_false, Bool.true_and, Bool.not_eq_true] at h4
  exact h4
/-- the numbers outside differ -/
theorem cnt_differ {s : SkyD} (ok : SkyOk s) {V W : List T3} (hV : ∀ v ∈ V, SnOk s v) (hW : ∀ v ∈ W, SnOk s v) {b : List P2} (h : leastM s V W = some b) (hl : V.length = W.length) : cntM s V b ≠ cntM s W b := by
  obtain ⟨⟨v0, hv0, hc0, rfl⟩, hm⟩ := least_spec h
  have hA : ∀ v ∈ V ++ W, SnOk s v := fun v hv => (List.mem_append.mp hv).elim (hV v) (hW v)
  have l0 : liesM (boundsM s v0) (boundsM s v0) = true := by
    rw [bounds_eq, lies3]
    omega
  let p : T3 → Bool := fun x => liesM (boundsM s x) (boundsM s v0)
  have e1 : ((V.filter p).filter fun x => !decide (x = v0)).Perm ((W.filter p).filter fun x => !decide (x = v0)) := perm_cnt fun x => by
    by_cases hx : x = v0
    · rw [cnt_zero, cnt_zero]
      · intro z
        have := (List.mem_filter.mp z).2
        rw [decide_eq_true hx] at this
        cases this
      · intro z
        have := (List.mem_filter.mp z).2
        rw [decide_eq_true hx] at this
        cases this
    · have q : (!decide (x = v0)) = true := by rw [decide_eq_false hx]; rfl
      rw [cnt_filter (p := fun x => !decide (x = v0)) _ q, cnt_filter (p := fun x => !decide (x = v0)) _ q]
      cases hp : p x with
      | true =>
        rw [cnt_filter _ hp, cnt_filter _ hp]
        refine Classical.byContradiction fun hc => ?_
        have hx2 : x ∈ V ++ W := Classical.byContradiction fun n => by
          rw [List.mem_append, not_or] at n
          exact hc (by rw [cnt_zero n.1, cnt_zero n.2])
        have := hm x hx2 hc fun z => hx (bounds_inj ok (hA x hx2) (hA v0 hv0) z)
        have hp' : liesM (boundsM s x) (boundsM s v0) = true := hp
        rw [hp'] at this
        cases this
      | false =>
        rw [cnt_zero, cnt_zero]
        · intro z
          have := (List.mem_filter.mp z).2
          rw [hp] at this
          cases this
        · intro z
          have := (List.mem_filter.mp z).2
          rw [hp] at this
          cases this
  have e2 : ∀ U : List T3, (U.filter p).length = cnt v0 U + ((U.filter p).filter fun x => !decide (x = v0)).length := fun U => by
    rw [split_len (fun x => decide (x = v0)) (U.filter p), ← cnt_len, cnt_filter _ l0]
  have e3 := e1.length_eq
  have v1 := e2 V
  have w1 := e2 W
  have v2 := split_len p V
  have w2 := split_len p W
  have v3 : cntM s V (boundsM s v0) = (V.filter fun x => !p x).length := rfl
  have w3 : cntM s W (boundsM s v0) = (W.filter fun x => !p x).length := rfl
  rw [v3, w3]
  omega
/-! ### the showing -/
section
variable {s : SkyD} (ok : SkyOk s) {A B : List T3} (hA : ∀ v ∈ A, SnOk s v) (hB : ∀ v ∈ B, SnOk s v) {o1 o2 o3 : P2}
include ok hA
theorem show_spots : ∀ p ∈ showM s A [o1, o2, o3], SpotOk s p := fun p hp => by
  unfold showM at hp
  obtain ⟨v, hv, rfl⟩ := List.mem_map.mp ((sort3_perm _).mem_iff.mp hp)
  exact (spot_of ok (hA v hv)).1
theorem show_need : needT s A (showM s A [o1, o2, o3]) = (0, 0) := by
  have pm := sort3_perm (A.map fun x => outT (boundsM s x) [o1, o2, o3])
  have m1 : mxN (closeB s) (A.filter (sureB s)) (showM s A [o1, o2, o3]) = (A.filter (sureB s)).length :=
    mxN_fn (fun x => outT (boundsM s x) [o1, o2, o3]) (fun a ha => (spot_of ok (hA a (List.mem_filter.mp ha).1)).2.1) ((((Sub.refl _).of_filter).map _).perm pm.symm)
  have m2 : mxN (closeB s) (showM s A [o1, o2, o3]) A = A.length := by
    rw [mxN_swap]
    exact mxN_fn (fun x => outT (boundsM s x) [o1, o2, o3]) (fun a ha => by rw [close_comm]; exact (spot_of ok (hA a ha)).2.1) ((Sub.refl _).perm pm.symm)
  have l : (showM s A [o1, o2, o3]).length = A.length := by rw [showM, pm.length_eq, List.length_map]
  unfold needT
  rw [m1, m2, l, Int.sub_self, Int.sub_self]
include hB
theorem show_not (h : B.length < A.length ∨ cntM s B [o1, o2, o3] < cntM s A [o1, o2, o3]) : needT s B (showM s A [o1, o2, o3]) ≠ (0, 0) := by
  intro e
  have pm := sort3_perm (A.map fun x => outT (boundsM s x) [o1, o2, o3])
  have l : (showM s A [o1, o2, o3]).length = A.length := by rw [showM, pm.length_eq, List.length_map]
  have e2 : ((showM s A [o1, o2, o3]).length : Int) - mxN (closeB s) (showM s A [o1, o2, o3]) B = 0 := congrArg (·.2) e
  obtain ⟨L, m, q⟩ := mxN_all.mp (show mxN (closeB s) (showM s A [o1, o2, o3]) B = (showM s A [o1, o2, o3]).length by omega)
  have ll := q.length_eq
  rw [List.length_map] at ll
  rcases h with h | h
  · have := m.2.1.len
    rw [List.length_map] at this
    omega
  · let out : T3 → Bool := fun p => !decide (inB o1 o2 o3 p)
    have c1 : cntM s A [o1, o2, o3] ≤ ((L.map (·.1)).filter out).length := by
      rw [((q.trans pm).filter out).length_eq, List.filter_map, List.length_map]
      unfold cntM
      refine List.Sublist.length_le ?_
      have : A.filter (fun x => !liesM (boundsM s x) [o1, o2, o3]) = (A.filter (out ∘ fun x => outT (boundsM s x) [o1, o2, o3])).filter (fun x => !liesM (boundsM s x) [o1, o2, o3]) := by
        rw [List.filter_filter]
        refine List.filter_congr fun x hx => ?_
        cases c : liesM (boundsM s x) [o1, o2, o3] with
        | true => rfl
        | false =>
          have := (spot_of ok (hA x hx)).2.2 c
          show true = (true && !decide (inB o1 o2 o3 _))
          rw [decide_eq_false this]
          rfl
      rw [this]
      exact List.filter_sublist
    have c2 : Sub ((L.filter fun p => out p.1).map (·.2)) (B.filter fun x => !liesM (boundsM s x) [o1, o2, o3]) := by
      refine Sub.filter _ ?_ fun x hx => ?_
      · have : Sub (L.filter fun p => out p.1) L := (Sub.refl _).of_filter
        obtain ⟨r, pr⟩ := this.map (·.2)
        obtain ⟨r2, pr2⟩ := m.2.1
        exact ⟨r ++ r2, by rw [← List.append_assoc]; exact (List.Perm.append_right r2 pr).trans pr2⟩
      · obtain ⟨p, hp, rfl⟩ := List.mem_map.mp hx
        obtain ⟨hp1, hp2⟩ := List.mem_filter.mp hp
        have hm := m.2.2 p hp1
        rw [close_comm] at hm
        have sp : SpotOk s p.1 := show_spots ok hA _ (m.mem hp1).1
        have hi := (close_in sp).mp hm
        cases c : liesM (boundsM s p.2) [o1, o2, o3] with
        | false => rfl
        | true =>
          have := lies_in c hi
          have hp2' : (!decide (inB o1 o2 o3 p.1)) = true := hp2
          rw [decide_eq_true this] at hp2'
          cases hp2'
    have c3 := c2.len
    rw [List.length_map] at c3
    rw [List.filter_map, List.length_map] at c1
    have c4 : cntM s B [o1, o2, o3] = (B.filter fun x => !liesM (boundsM s x) [o1, o2, o3]).length := rfl
    have c5 : (L.filter (out ∘ fun x => x.1)).length = (L.filter fun p => out p.1).length := rfl
    omega
end
theorem telling {s : SkyD} (ok : SkyOk s) {a b : T3} (h : seesM s a ≠ seesM s b) : ∃ bd, leastM s (seesM s a) (seesM s b) = some bd ∧ bd.length = 3 ∧
    (whichM s (seesM s a) (seesM s b) bd = 0 ∨ whichM s (seesM s a) (seesM s b) bd = 1) ∧
    (showM s (if whichM s (seesM s a) (seesM s b) bd = 0 then seesM s a else seesM s b) bd).length ≤ 20 ∧
    (∀ t ∈ showM s (if whichM s (seesM s a) (seesM s b) bd = 0 then seesM s a else seesM s b) bd, SpotOk s t) ∧
    SrT (showM s (if whichM s (seesM s a) (seesM s b) bd = 0 then seesM s a else seesM s b) bd) ∧
    needT s (seesM s (if whichM s (seesM s a) (seesM s b) bd = 0 then a else b)) (showM s (if whichM s (seesM s a) (seesM s b) bd = 0 then seesM s a else seesM s b) bd) = (0, 0) ∧
    needT s (seesM s (if whichM s (seesM s a) (seesM s b) bd = 0 then b else a)) (showM s (if whichM s (seesM s a) (seesM s b) bd = 0 then seesM s a else seesM s b) bd) ≠ (0, 0) := by
  obtain ⟨bd, hb⟩ := least_some (s := s) (V := seesM s a) (W := seesM s b) fun p => h (srt_uniq (sees_srt s a) (sees_srt s b) p)
  have hA : ∀ v ∈ seesM s a, SnOk s v := fun v hv => sees_ok ok hv
  have hB : ∀ v ∈ seesM s b, SnOk s v := fun v hv => sees_ok ok hv
  have hd := cnt_differ ok hA hB hb
  have ln : ∀ c, (seesM s c).length ≤ 20 := fun c => by
    rw [(sees_perm s c).length_eq, seeT_map, List.length_map]
    exact Nat.le_trans (List.length_filter_le _ _) ok.few
  have sl : ∀ (U : List T3) (o : List P2), (showM s U o).length = U.length := fun U o => by rw [showM, (sort3_perm _).length_eq, List.length_map]
  obtain ⟨⟨v0, _, _, rfl⟩, _⟩ := least_spec hb
  refine ⟨_, hb, rfl, ?_⟩
  have w : (whichM s (seesM s a) (seesM s b) (boundsM s v0) = 0 ∧ ((seesM s b).length < (seesM s a).length ∨ cntM s (seesM s b) (boundsM s v0) < cntM s (seesM s a) (boundsM s v0))) ∨ (whichM s (seesM s a) (seesM s b) (boundsM s v0) = 1 ∧ ((seesM s a).length < (seesM s b).length ∨ cntM s (seesM s a) (boundsM s v0) < cntM s (seesM s b) (boundsM s v0))) := by
    unfold whichM
    by_cases e : (seesM s a).length = (seesM s b).length
    · rw [if_pos e]
      have := hd e
      by_cases c : cntM s (seesM s b) (boundsM s v0) < cntM s (seesM s a) (boundsM s v0)
      · rw [if_pos c]
        exact .inl ⟨rfl, .inr c⟩
      · rw [if_neg c]
        exact .inr ⟨rfl, .inr (by omega)⟩
    · rw [if_neg e]
      by_cases c : (seesM s b).length < (seesM s a).length
      · rw [if_pos c]
        exact .inl ⟨rfl, .inl c⟩
      · rw [if_neg c]
        exact .inr ⟨rfl, .inl (by omega)⟩
  rcases w with ⟨e, hw⟩ | ⟨e, hw⟩
  · rw [e, if_pos rfl, if_pos rfl, if_pos rfl]
    exact ⟨.inl rfl, by rw [sl]; exact ln a, show_spots ok hA, sort3_srt _, show_need ok hA, show_not ok hA hB hw⟩
  · rw [e, if_neg (by decide), if_neg (by decide), if_neg (by decide)]
    exact ⟨.inr rfl, by rw [sl]; exact ln b, show_spots ok hB, sort3_srt _, show_need ok hB, show_not ok hB hA hw⟩
end Sw
/-! Plain: the law's sky and sightings; what the law asks. -/
namespace Sw
/-! ### the law's sky -/
def camsM : List T3 := [(4, 1, 0), (4, 1, 0), (4, 0, 0), (5, 1, 1)]
def gl5 : List Int := [0, 0, 0, 1, 2]
def li6 : List Int := [1, 1, 2, 4, 6, 9]
def rp3 : List Int := [1, 1, 4]
def br6 (d : Int) : List Int := [5, 5, 3, 9, 7, 1 + d / 100 % 9]
def atI (l : List Int) (i : Int) : Int := l.getD i.toNat 0
def lawCam (N : List Int) : T3 := camsM.getD (numM N 0 % 4).toNat (0, 0, 0)
def lawGl (N : List Int) : Int := atI gl5 (numM N 1 % 5)
def lawLi (N : List Int) : Int := atI li6 (numM N 1 / 5 % 6)
def lawRp (N : List Int) : Int := atI rp3 (numM N 1 / 30 % 3)
def lawMo (n : Int) (N : List Int) (i : Int) : T3 := (numM N i % n, numM N (i + 1) % n, numM N (i + 2) % 4)
def drawS (n d : Int) : T3 := (d % n, d / 11 % n, atI (br6 d) (d / 31 % 6))
def starS (n : Int) (mo : T3) (st : List T3 × T3) : List T3 × T3 := (if st.2 ∉ st.1 ∧ st.1.length < 6 then st.1 ++ [st.2] else st.1, movSt n st.2 mo)
def inS (n : Int) (mo : T3) (st : List T3 × T3) (pre : List Int) : List T3 × T3 := pre.foldl (fun st _ => starS n mo st) st
def outS (n : Int) (mo : T3) (N : List Int) (pre : List Int) : List T3 := pre.foldl (fun stars k => (inS n mo (stars, drawS n (numM N (6 + k))) (upto (lawRp N).toNat)).1) []
def lawStars (N : List Int) : List T3 := outS (lawCam N).1 (lawMo (lawCam N).1 N 2) N (upto (numM N 5 % 7).toNat)
/-- the law's parts -/
def lawP (N : List Int) : SkyD := ⟨(lawCam N).1, lawStars N, (lawCam N).2.1, (lawCam N).2.2, lawGl N, lawLi N⟩
def skyOf (p : SkyD) : SkyD := ⟨p.side, sort3 p.stars, p.reach, p.blur, p.glare, p.limit⟩
structure StsOk (n : Int) (l : List T3) : Prop where
  few : l.length ≤ 6
  ok : ∀ t ∈ l, StarOk n t
  nd : l.Nodup
theorem StsOk.nil {n : Int} : StsOk n [] := ⟨Nat.zero_le _, (fun _ h => nomatch h), List.nodup_nil⟩
theorem starS_ok {n : Int} (hn : 0 < n) {mo : T3} {st : List T3 × T3} (h : StsOk n st.1) (ht : StarOk n st.2) : StsOk n (starS n mo st).1 ∧ StarOk n (starS n mo st).2 := by
  refine ⟨?_, movSt_ok hn ht mo⟩
  unfold starS
  dsimp only
  split
  · rename_i c
    refine ⟨by rw [List.length_append]; simp; omega, fun t h' => ?_, List.nodup_append.mpr ⟨h.nd, by simp, fun a ha b hb e => ?_⟩⟩
    · rcases List.mem_append.mp h' with h' | h'
      · exact h.ok t h'
      · rw [List.mem_singleton.mp h']; exact ht
    · rw [List.mem_singleton.mp hb] at e
      exact c.1 (e ▸ ha)
  · exact h
theorem inS_snoc (n : Int) (mo : T3) (st : List T3 × T3) (pre : List Int) (k : Int) : inS n mo st (pre ++ [k]) = starS n mo (inS n mo st pre) := by
  unfold inS
  rw [List.foldl_append]
  rfl
theorem inS_ok {n : Int} (hn : 0 < n) {mo : T3} : ∀ (pre : List Int) {st : List T3 × T3}, StsOk n st.1 → StarOk n st.2 → StsOk n (inS n mo st pre).1 ∧ StarOk n (inS n mo st pre).2
  | [], _, h, ht => ⟨h, ht⟩
  | k :: pre, st, h, ht => by
    have := starS_ok hn (mo := mo) h ht
    exact inS_ok hn pre this.1 this.2
theorem outS_snoc (n : Int) (mo : T3) (N pre : List Int) (k : Int) : outS n mo N (pre ++ [k]) = (inS n mo (outS n mo N pre, drawS n (numM N (6 + k))) (upto (lawRp N).toNat)).1 := by
  unfold outS
  rw [List.foldl_append]
  rfl
theorem drawS_ok {n d : Int} (hn : 0 < n) (hd : 0 ≤ d) : StarOk n (drawS n d) := by
  refine ⟨Int.emod_nonneg _ (by omega), Int.emod_lt_of_pos _ hn, Int.emod_nonneg _ (by omega), Int.emod_lt_of_pos _ hn, ?_⟩
  show 1 ≤ atI (br6 d) (d / 31 % 6) ∧ atI (br6 d) (d / 31 % 6) ≤ 9
  have h0 : 0 ≤ d / 31 % 6 := by omega
  have h1 : d / 31 % 6 < 6 := by omega
  generalize d / 31 % 6 = i at h0 h1
  have hi : i = 0 ∨ i = 1 ∨ i = 2 ∨ i = 3 ∨ i = 4 ∨ i = 5 := by omega
  rcases hi with rfl | rfl | rfl | rfl | rfl | rfl <;> simp [atI, br6] <;> omega
theorem NumOk.nn {N : List Int} (h : NumOk N) (i : Int) : 0 ≤ numM N i := by
  by_cases c : i < 90
  · exact (h.at_ c).2.1
  · unfold numM
    rw [List.getD_eq_getElem?_getD, List.getElem?_eq_none (by rw [h.len]; omega)]
    exact Int.le_refl 0
theorem outS_ok {n : Int} (hn : 0 < n) {mo : T3} {N : List Int} (h : NumOk N) (pre : List Int) : StsOk n (outS n mo N pre) := by
  have key : ∀ (l : List Int) (stars : List T3), StsOk n stars → StsOk n (l.foldl (fun stars k => (inS n mo (stars, drawS n (numM N (6 + k))) (upto (lawRp N).toNat)).1) stars) := by
    intro l
    induction l with
    | nil => intro _ h; exact h
    | cons k l ih => intro stars hs; exact ih _ (inS_ok hn _ hs (drawS_ok hn (h.nn _))).1
  exact key pre [] StsOk.nil
theorem lawCam_is {N : List Int} (h : NumOk N) : lawCam N = (4, 1, 0) ∨ lawCam N = (4, 0, 0) ∨ lawCam N = (5, 1, 1) := by
  have h0 : 0 ≤ numM N 0 % 4 := by omega
  have h1 : numM N 0 % 4 < 4 := by omega
  unfold lawCam
  generalize numM N 0 % 4 = i at h0 h1
  have hi : i = 0 ∨ i = 1 ∨ i = 2 ∨ i = 3 := by omega
  rcases hi with rfl | rfl | rfl | rfl
  · exact .inl rfl
  · exact .inl rfl
  · exact .inr (.inl rfl)
  · exact .inr (.inr rfl)
theorem lawGl_ok (N : List Int) : 0 ≤ lawGl N ∧ lawGl N ≤ 2 := by
  have h0 : 0 ≤ numM N 1 % 5 := by omega
  have h1 : numM N 1 % 5 < 5 := by omega
  unfold lawGl
  generalize numM N 1 % 5 = i at h0 h1
  have hi : i = 0 ∨ i = 1 ∨ i = 2 ∨ i = 3 ∨ i = 4 := by omega
  rcases hi with rfl | rfl | rfl | rfl | rfl <;> decide
theorem lawLi_ok (N : List Int) : 1 ≤ lawLi N ∧ lawLi N ≤ 9 := by
  have h0 : 0 ≤ numM N 1 / 5 % 6 := by omega
  have h1 : numM N 1 / 5 % 6 < 6 := by omega
  unfold lawLi
  generalize numM N 1 / 5 % 6 = i at h0 h1
  have hi : i = 0 ∨ i = 1 ∨ i = 2 ∨ i = 3 ∨ i = 4 ∨ i = 5 := by omega
  rcases hi with rfl | rfl | rfl | rfl | rfl | rfl <;> decide
theorem lawRp_ok (N : List Int) : 0 ≤ lawRp N ∧ lawRp N ≤ 4 := by
  have h0 : 0 ≤ numM N 1 / 30 % 3 := by omega
  have h1 : numM N 1 / 30 % 3 < 3 := by omega
  unfold lawRp
  generalize numM N 1 / 30 % 3 = i at h0 h1
  have hi : i = 0 ∨ i = 1 ∨ i = 2 := by omega
  rcases hi with rfl | rfl | rfl <;> decide
theorem side_45 {N : List Int} (h : NumOk N) : (lawCam N).1 = 4 ∨ (lawCam N).1 = 5 := by
  rcases lawCam_is h with e | e | e <;> rw [e] <;> decide
theorem lawP_cam {N : List Int} (h : NumOk N) : CamOk (lawP N).side (lawP N).reach (lawP N).blur (lawP N).glare (lawP N).limit := by
  have g := lawGl_ok N
  have l := lawLi_ok N
  show CamOk (lawCam N).1 (lawCam N).2.1 (lawCam N).2.2 (lawGl N) (lawLi N)
  rcases lawCam_is h with e | e | e <;> rw [e] <;> exact ⟨by decide, by decide, by decide, by decide, g.1, g.2, l.1, l.2, by decide, by decide⟩
theorem lawP_sts {N : List Int} (h : NumOk N) : StsOk (lawP N).side (lawP N).stars := outS_ok (by have := side_45 h; show 0 < (lawCam N).1; omega) h _
theorem lawP_n {N : List Int} (h : NumOk N) : 4 ≤ (lawP N).side ∧ (lawP N).side ≤ 9 := by
  have := side_45 h
  show 4 ≤ (lawCam N).1 ∧ (lawCam N).1 ≤ 9
  omega
theorem lawP_sky {N : List Int} (h : NumOk N) : SkyOk (skyOf (lawP N)) where
  n4 := (lawP_n h).1
  n9 := (lawP_n h).2
  cam := lawP_cam h
  few := by
    show (sort3 (lawP N).stars).length ≤ 20
    rw [(sort3_perm _).length_eq]
    exact Nat.le_trans (lawP_sts h).few (by decide)
  stars := fun t ht => (lawP_sts h).ok t ((sort3_perm _).mem_iff.mp ht)
  nd := (sort3_perm _).nodup_iff.mpr (lawP_sts h).nd
/-- the side is 4, and there is neither blur nor glare -/
theorem lawP_sharp {N : List Int} (h : NumOk N) : (lawP N).side = 4 → (lawP N).blur = 0 := by
  show (lawCam N).1 = 4 → (lawCam N).2.2 = 0
  rcases lawCam_is h with e | e | e <;> rw [e] <;> decide
/-! ### the law's sightings -/
def lawSpot (p : SkyD) (N : List Int) (i : Int) : T3 := (numM N i % (2 * p.reach + 1) - p.reach, numM N i / 9 % (2 * p.reach + 1) - p.reach, p.limit + numM N (i + 1) % (10 + p.glare - p.limit))
def at4 (l : List T4) (k : Int) : T4 := l.getD k.toNat (0, 0, 0, false)
def sgOne (p : SkyD) (v : T4) (d : Int) : T3 := (v.1 + d % (2 * p.blur + 1) - p.blur, v.2.1 + d / 5 % (2 * p.blur + 1) - p.blur, v.2.2.1 + d / 25 % (2 * p.glare + 1) - p.glare)
def sgOk (p : SkyD) (d : Int) (t : T3) : Bool := decide (maxI (absI t.1) (absI t.2.1) ≤ p.reach) && (decide (p.limit ≤ t.2.2) && decide (0 < d / 125 % 5))
def sgA (p : SkyD) (a : T3) (N : List Int) (i : Int) (pre : List Int) : List T3 := (pre.filter fun k => sgOk p (numM N (i + k)) (sgOne p (at4 (lawSeen p a) k) (numM N (i + k)))).map fun k => sgOne p (at4 (lawSeen p a) k) (numM N (i + k))
theorem sgA_pos {p : SkyD} {a : T3} {N : List Int} {i k : Int} {pre : List Int} (h : sgOk p (numM N (i + k)) (sgOne p (at4 (lawSeen p a) k) (numM N (i + k))) = true) : sgA p a N i (pre ++ [k]) = sgA p a N i pre ++ [sgOne p (at4 (lawSeen p a) k) (numM N (i + k))] := by
  unfold sgA
  rw [List.filter_append, List.map_append]
  congr 1
  simp [h]
theorem sgA_neg {p : SkyD} {a : T3} {N : List Int} {i k : Int} {pre : List Int} (h : sgOk p (numM N (i + k)) (sgOne p (at4 (lawSeen p a) k) (numM N (i + k))) = false) : sgA p a N i (pre ++ [k]) = sgA p a N i pre := by
  unfold sgA
  rw [List.filter_append, List.map_append]
  simp [h]
def f4 : List Int := [0, 0, 1, 2]
def lawFa (N : List Int) (i : Int) : Int := atI f4 (numM N (i + 10) % 4)
def sgB (p : SkyD) (N : List Int) (i : Int) (pre : List Int) : List T3 := pre.map fun k => lawSpot p N (i + 11 + 2 * k)
theorem sgB_snoc (p : SkyD) (N : List Int) (i k : Int) (pre : List Int) : sgB p N i (pre ++ [k]) = sgB p N i pre ++ [lawSpot p N (i + 11 + 2 * k)] := by
  unfold sgB
  rw [List.map_append]
  rfl
def lawSg (p : SkyD) (a : T3) (N : List Int) (i : Int) : List T3 := sort3 (sgA p a N i (upto (lawSeen p a).length) ++ sgB p N i (upto (lawFa N i).toNat))
theorem lawFa_ok (N : List Int) (i : Int) : 0 ≤ lawFa N i ∧ lawFa N i ≤ 2 := by
  have h0 : 0 ≤ numM N (i + 10) % 4 := by omega
  have h1 : numM N (i + 10) % 4 < 4 := by omega
  unfold lawFa
  generalize numM N (i + 10) % 4 = i at h0 h1
  have hi : i = 0 ∨ i = 1 ∨ i = 2 ∨ i = 3 := by omega
  rcases hi with rfl | rfl | rfl | rfl <;> decide
theorem lawSeen_len (p : SkyD) (a : T3) : (lawSeen p a).length ≤ p.stars.length := by
  unfold lawSeen
  rw [List.length_map]
  exact List.length_filter_le _ _
theorem lawSpot_ok {N : List Int} (h : NumOk N) (i : Int) : SpotOk (skyOf (lawP N)) (lawSpot (lawP N) N i) := by
  have c := lawP_cam h
  have r0 := c.r0
  have l1 := c.l9
  have g0 := c.g0
  have a0 := Int.emod_nonneg (numM N i) (show 2 * (lawP N).reach + 1 ≠ 0 by omega)
  have a1 := Int.emod_lt_of_pos (numM N i) (show 0 < 2 * (lawP N).reach + 1 by omega)
  have b0 := Int.emod_nonneg (numM N i / 9) (show 2 * (lawP N).reach + 1 ≠ 0 by omega)
  have b1 := Int.emod_lt_of_pos (numM N i / 9) (show 0 < 2 * (lawP N).reach + 1 by omega)
  have d0 := Int.emod_nonneg (numM N (i + 1)) (show 10 + (lawP N).glare - (lawP N).limit ≠ 0 by omega)
  have d1 := Int.emod_lt_of_pos (numM N (i + 1)) (show 0 < 10 + (lawP N).glare - (lawP N).limit by omega)
  exact ⟨by show -(lawP N).reach ≤ numM N i % (2 * (lawP N).reach + 1) - (lawP N).reach; omega, by show numM N i % (2 * (lawP N).reach + 1) - (lawP N).reach ≤ (lawP N).reach; omega, by show -(lawP N).reach ≤ numM N i / 9 % (2 * (lawP N).reach + 1) - (lawP N).reach; omega, by show numM N i / 9 % (2 * (lawP N).reach + 1) - (lawP N).reach ≤ (lawP N).reach; omega, by show (lawP N).limit ≤ (lawP N).limit + numM N (i + 1) % (10 + (lawP N).glare - (lawP N).limit); omega, by show (lawP N).limit + numM N (i + 1) % (10 + (lawP N).glare - (lawP N).limit) ≤ 9 + (lawP N).glare; omega⟩
theorem seen_bright {p : SkyD} {a : T3} (h : ∀ t ∈ p.stars, t.2.2 ≤ 9) : ∀ v ∈ lawSeen p a, v.2.2.1 ≤ 9 := fun v hv => by
  obtain ⟨t, ht, rfl⟩ := List.mem_map.mp hv
  exact h t (List.mem_filter.mp ht).1
theorem sgA_ok {N : List Int} (h : NumOk N) (a : T3) (i : Int) : ∀ t ∈ sgA (lawP N) a N i (upto (lawSeen (lawP N) a).length), SpotOk (skyOf (lawP N)) t := fun t ht => by
  obtain ⟨k, hk, rfl⟩ := List.mem_map.mp ht
  obtain ⟨hk1, hk2⟩ := List.mem_filter.mp hk
  have hk1 := mem_upto.mp hk1
  have hv : (at4 (lawSeen (lawP N) a) k).2.2.1 ≤ 9 := by
    unfold at4
    rw [List.getD_eq_getElem?_getD, List.getElem?_eq_getElem (by omega)]
    exact seen_bright (fun t ht => ((lawP_sts h).ok t ht).2.2.2.2.2) _ (List.getElem_mem _)
  have g0 := (lawP_cam h).g0
  have d1 := Int.emod_lt_of_pos (numM N (i + k) / 25) (show 0 < 2 * (lawP N).glare + 1 by omega)
  unfold sgOk at hk2
  rw [Bool.and_eq_true, Bool.and_eq_true, decide_eq_true_eq, decide_eq_true_eq, maxI_le, absI_le, absI_le] at hk2
  refine ⟨hk2.1.1.1, hk2.1.1.2, hk2.1.2.1, hk2.1.2.2, hk2.2.1, ?_⟩
  show (at4 (lawSeen (lawP N) a) k).2.2.1 + numM N (i + k) / 25 % (2 * (lawP N).glare + 1) - (lawP N).glare ≤ 9 + (lawP N).glare
  omega
theorem lawSg_ok {N : List Int} (h : NumOk N) (a : T3) (i : Int) : (∀ t ∈ lawSg (lawP N) a N i, SpotOk (skyOf (lawP N)) t) ∧ (lawSg (lawP N) a N i).length ≤ 60 ∧ SrT (lawSg (lawP N) a N i) := by
  refine ⟨fun t ht => ?_, ?_, sort3_srt _⟩
  · rcases List.mem_append.mp ((sort3_perm _).mem_iff.mp ht) with h1 | h1
    · exact sgA_ok h a i t h1
    · obtain ⟨k, _, rfl⟩ := List.mem_map.mp h1
      exact lawSpot_ok h _
  · unfold lawSg
    rw [(sort3_perm _).length_eq, List.length_append]
    have a1 : (sgA (lawP N) a N i (upto (lawSeen (lawP N) a).length)).length ≤ (lawSeen (lawP N) a).length := by
      unfold sgA
      rw [List.length_map]
      refine Nat.le_trans (List.length_filter_le _ _) ?_
      simp [upto]
    have a2 := lawSeen_len (lawP N) a
    have a3 := (lawP_sts h).few
    have a4 : (sgB (lawP N) N i (upto (lawFa N i).toNat)).length = (lawFa N i).toNat := by simp [sgB, upto]
    have a5 := lawFa_ok N i
    omega
/-! ### what the law asks -/
theorem lawNeed_sky {p : SkyD} (ok : SkyOk (skyOf p)) (a : T3) {sg : List T3} (hs : ∀ t ∈ sg, p.limit ≤ t.2.2) : lawNeed p a sg = needM (skyOf p) a sg := by
  rw [needM_T ok.cam.b0 ok.cam.g0 a hs, needT_perm (sees_perm (skyOf p) a), lawNeed_T]
  have e : (seeT p a).Perm (seeT (skyOf p) a) := by
    rw [seeT_map, seeT_map]
    exact ((sort3_perm p.stars).symm.filter _).map _
  exact needT_perm (s := skyOf p) e sg
theorem need_alike {s : SkyD} (ok : SkyOk s) {a b : T3} (h : seesM s a = seesM s b) {sg : List T3} (hs : ∀ t ∈ sg, s.limit ≤ t.2.2) : needM s a sg = needM s b sg := by
  rw [needM_T ok.cam.b0 ok.cam.g0 a hs, needM_T ok.cam.b0 ok.cam.g0 b hs, h]
/-- still motions keep to a lot -/
theorem still_lot {s : SkyD} (ok : SkyOk s) {l : List T3} (h : l ∈ lotsM s) {x m : T3} (hx : x ∈ l) (hm : m ∈ stillM s) : moveM s.side x m ∈ l := by
  have n0 : 0 < s.side := by have := ok.n4; omega
  obtain ⟨o, sm⟩ := still_mem.mp hm
  exact lots_in h hx (moveM_ok n0 x m) (still_sees ok (mot_q o) sm x)
/-- no place tells a still motion -/
theorem still_unl {s : SkyD} (ok : SkyOk s) {m : T3} (hm : m ∈ stillM s) (a : T3) : unlM s a (moveM s.side a m) = 0 :=
  unl_alike ok.cam.b0 ok.cam.g0 (still_sees ok (mot_q (still_mem.mp hm).1) (still_mem.mp hm).2 a).symm
/-- the place of the moved one tells the motion back -/
theorem tell_back {s : SkyD} (ok : SkyOk s) (hb : s.blur = 0) (hg : s.glare = 0) {a m : T3} (ha : MotOk s.side a) (hm : MotOk s.side m) (hq : a.2.2 = 0) : (unlM s ((moveM s.side a m).1, (moveM s.side a m).2.1, 0) (moveM s.side ((moveM s.side a m).1, (moveM s.side a m).2.1, 0) (revM s.side m)) ≤ 0) ↔ (unlM s a (moveM s.side a m) ≤ 0) := by
  have n0 : 0 < s.side := by have := ok.n4; omega
  have q := mot_q hm
  unfold Q3 at q
  rw [unl_iff hb hg, unl_iff hb hg, sees_iff, sees_iff]
  have e1 : moveM s.side ((moveM s.side a m).1, (moveM s.side a m).2.1, 0) (revM s.side m) = (a.1, a.2.1, -m.2.2 % 4) := by
    refine t3_ext ?_ ?_
    · exact pl_back n0 (mot_in ha) hm
    · show (0 + -m.2.2 % 4) % 4 = -m.2.2 % 4
      omega
  have e2 : moveM s.side a m = ((moveM s.side a m).1, (moveM s.side a m).2.1, m.2.2) := t3_ext rfl (by show (a.2.2 + m.2.2) % 4 = m.2.2; omega)
  have e3 : a = (a.1, a.2.1, 0) := t3_ext rfl hq
  rw [e1]
  have b1 : seeT s (moveM s.side a m) = (seeT s ((moveM s.side a m).1, (moveM s.side a m).2.1, 0)).map (rtT (-m.2.2)) := by
    have := seeT_turn s (moveM s.side a m) m.2.2
    rwa [← e2] at this
  have b2 : seeT s (a.1, a.2.1, -m.2.2 % 4) = (seeT s a).map (rtT (-(-m.2.2 % 4))) := by
    have := seeT_turn s a (-m.2.2 % 4)
    rwa [← e3] at this
  rw [b1, b2]
  constructor
  · intro h
    have := h.map (rtT (-m.2.2))
    rw [List.map_map] at this
    have e : (seeT s a).map (rtT (-m.2.2) ∘ rtT (-(-m.2.2 % 4))) = seeT s a := by
      refine (List.map_congr_left fun v _ => ?_).trans (List.map_id _)
      show rtT (-m.2.2) (rtT (-(-m.2.2 % 4)) v) = v
      rw [rt_rt, rt_zero (by omega)]
    rw [e] at this
    exact this.symm
  · intro h
    have := h.map (rtT (-(-m.2.2 % 4)))
    rw [List.map_map] at this
    have e : (seeT s ((moveM s.side a m).1, (moveM s.side a m).2.1, 0)).map (rtT (-(-m.2.2 % 4)) ∘ rtT (-m.2.2)) = seeT s ((moveM s.side a m).1, (moveM s.side a m).2.1, 0) := by
      refine (List.map_congr_left fun v _ => ?_).trans (List.map_id _)
      show rtT (-(-m.2.2 % 4)) (rtT (-m.2.2) v) = v
      rw [rt_rt, rt_zero (by omega)]
    rw [e] at this
    exact this.symm
/-- hidden motions, sharp: those that all places leave alike -/
theorem sharp_still {s : SkyD} (ok : SkyOk s) (hb : s.blur = 0) (hg : s.glare = 0) {m : T3} (hm : MotOk s.side m) : (∀ a, MotOk s.side a → a.2.2 = 0 → unlM s a (moveM s.side a m) ≤ 0) ↔ stillB s m = true := by
  constructor
  · intro h
    exact still_of ok hm fun a ha hq => ((unl_iff hb hg).mp (h a ha hq)).symm
  · intro h a ha hq
    rw [still_unl ok (still_mem.mpr ⟨hm, h⟩) a]
    exact Int.le_refl 0
end Sw
/-! Walks: the law's sighting, its Sky. -/
namespace Sw
open PySem PySem.Spec L2
section
variable {P : Program} {w : World} {K : PySem.W.Frag} {mg : Str → Option Value} {base : Heap} {C : Addr}
theorem ed_G {X : Cx} {ds : Dsl} {O : Led} {e : Expr} {x : Dat} (h : EDG X C ds O e fun d N => d = x ∧ N = []) : ED X C ds O e x O :=
  ⟨rfl, fun σ H F ok env Q q => h.run σ H F ok env Q fun v H' F' d N g ok' hn hd ⟨e1, e2⟩ => by
    subst e1 e2
    exact q v H' F' g ok' hd⟩
theorem atI_get {l : List Int} {i : Int} (h0 : 0 ≤ i) (h1 : i < l.length) : (l.map Dat.int)[i.toNat]? = some (.int (atI l i)) := by
  rw [List.getElem?_map, List.getElem?_eq_getElem (by omega)]
  unfold atI
  rw [List.getD_eq_getElem?_getD, List.getElem?_eq_getElem (by omega)]
  rfl
structure PaOk (p : SkyD) : Prop where
  n4 : 4 ≤ p.side
  n9 : p.side ≤ 9
  cam : CamOk p.side p.reach p.blur p.glare p.limit
  sts : StsOk p.side p.stars
theorem lawP_ok {N : List Int} (h : NumOk N) : PaOk (lawP N) := ⟨(lawP_n h).1, (lawP_n h).2, lawP_cam h, lawP_sts h⟩
theorem sc_l_made : FnScope ["_law_parts"] ["_law_parts"] (defScope s__law_made) := ⟨rfl, rfl, rfl, by decide +kernel, rfl, by decide +kernel, by decide +kernel⟩
def r_l_made (ds : List Dat) (d : Dat) : Prop := ∃ p : SkyD, ds = [partsD p] ∧ PaOk p ∧ d = .sky (skyOf p)
theorem cal_l_made (D : Dfn K mg "_law_made" s__law_made) (T : Tx mg) (M : CmkS P w K mg base C) : Cal P w K mg base 4 "_law_made" ["_law_parts"] (spP K C r_l_made) := by
  refine cal_pure D sc_l_made (fun ds d ⟨_, h, _⟩ => by rw [h]; rfl) (fun _ _ _ _ _ _ us hl => match us, hl with | [_], _ => rfl) fun f cdv A outer s0 H E0 hr F ds d h => ?_
  obtain ⟨p, rfl, ok, rfl⟩ := h
  exact sds_ret (ed_G (edg_Sky M (hr.mono (by decide)) (ad_cons (ed_ixT (ed_var 0) (by exact ed_int) rfl) (ad_cons (ed_listOf T.list (ad_cons (ed_ixT (ed_var 0) (by exact ed_int) rfl) ad_nil) (.inl (LstD.lst _))) (ad_cons (ed_ixT (ed_var 0) (by exact ed_int) rfl) ad_nil))) ok.n4 ok.n9 ok.cam (Nat.le_trans ok.sts.few (by decide)) ok.sts.ok ok.sts.nd)) rfl
theorem sc_l_spot : FnScope ["_law_parts", "_law_numbers_here", "_law_at", "_law_wide", "_law_bright", "_law_reach", "_law_blur", "_law_glare", "_law_limit"] ["_law_parts", "_law_numbers_here", "_law_at"] (defScope s__law_spot) := ⟨rfl, rfl, rfl, by decide +kernel, rfl, by decide +kernel, by decide +kernel⟩
def r_l_spot (ds : List Dat) (d : Dat) : Prop := ∃ (p : SkyD) (N : List Int) (i : Int), ds = [partsD p, encL .int N, .int i] ∧ NumOk N ∧ 0 ≤ i ∧ i + 1 < 90 ∧ 0 ≤ p.reach ∧ 0 < 10 + p.glare - p.limit ∧ d = t3 (lawSpot p N i)
theorem cal_l_spot (D : Dfn K mg "_law_spot" s__law_spot) (T : Tx mg) : Cal P w K mg base 1 "_law_spot" ["_law_parts", "_law_numbers_here", "_law_at"] (spP K C r_l_spot) := by
  refine cal_pure D sc_l_spot (fun ds d ⟨_, _, _, h, _⟩ => by rw [h]; rfl) (fun _ _ _ _ _ _ us hl => match us, hl with | [_, _, _], _ => rfl) fun f cdv A outer s0 H E0 hr F ds d h => ?_
  have nd := sc_l_spot.nd
  obtain ⟨p, N, i, rfl, hN, i0, i1, r0, b0, rfl⟩ := h
  refine sds_asg (ed_ixT (ed_var 0) (by exact ed_int) rfl) (gd_tup (gds_cons (gd_name 5 nd) (gds_cons (gd_name 6 nd) (gds_cons (gd_name 7 nd) (gds_cons (gd_name 8 nd) gds_nil))))) ?_
  refine sds_set (i := 3) nd (ed_add (ed_mul ed_int (ed_var 5) (.inl (by decide))) ed_int) ?_
  refine sds_set (i := 4) nd (ed_sub (ed_add ed_int (ed_var 7)) (ed_var 8)) ?_
  refine sds_ret (ed_tup (ad_cons (ed_sub (ed_mod (ed_toint T.int (ad_cons (ed_ixLi (ed_var 1) (ed_var 2) (LstD.lst _) (by omega) (num_get hN (by omega))) ad_nil)) (ed_var 3) (by omega)) (ed_var 5)) (ad_cons (ed_sub (ed_mod (ed_toint T.int (ad_cons (ed_fdiv (ed_ixLi (ed_var 1) (ed_var 2) (LstD.lst _) (by omega) (num_get hN (by omega))) ed_int ⟨by decide, by decide⟩) ad_nil)) (ed_var 3) (by omega)) (ed_var 5)) (ad_cons (ed_add (ed_var 8) (ed_mod (ed_toint T.int (ad_cons (ed_ixLi (ed_var 1) (ed_add (ed_var 2) ed_int) (LstD.lst _) (by omega) (num_get hN (by omega))) ad_nil)) (ed_var 4) (by omega))) ad_nil)))) ?_
  rfl
theorem sc_l_sighting : FnScope ["_law_parts", "_law_attitude_here", "_law_numbers_here", "_law_at", "_law_seen_here", "_law_spots", "_law_k", "_law_reach", "_law_blur", "_law_glare", "_law_limit", "_law_draw", "_law_wide", "_law_bright", "_law_dx", "_law_dy"] ["_law_parts", "_law_attitude_here", "_law_numbers_here", "_law_at"] (defScope s__law_sighting) := ⟨rfl, rfl, rfl, by decide +kernel, rfl, by decide +kernel, by decide +kernel⟩
def r_l_sighting (ds : List Dat) (d : Dat) : Prop := ∃ (p : SkyD) (a : T3) (N : List Int) (i : Int), ds = [partsD p, t3 a, encL .int N, .int i] ∧ PaOk p ∧ NumOk N ∧ 0 ≤ i ∧ i + 16 < 90 ∧ d = encT t3 (lawSg p a N i)
theorem cal_l_sighting (D : Dfn K mg "_law_sighting" s__law_sighting) (T : Tx mg) (h_l_seen : Cal P w K mg base 3 "_law_seen" ["_law_parts", "_law_attitude_here"] (spP K C r_l_seen)) (h_l_spot : Cal P w K mg base 1 "_law_spot" ["_law_parts", "_law_numbers_here", "_law_at"] (spP K C r_l_spot)) : Cal P w K mg base 4 "_law_sighting" ["_law_parts", "_law_attitude_here", "_law_numbers_here", "_law_at"] (spP K C r_l_sighting) := by
  refine cal_pure D sc_l_sighting (fun ds d ⟨_, _, _, _, h, _⟩ => by rw [h]; rfl) (fun _ _ _ _ _ _ us hl => match us, hl with | [_, _, _, _], _ => rfl) fun f cdv A outer s0 H E0 hr F ds d h => ?_
  have nd := sc_l_sighting.nd
  obtain ⟨p, a, N, i, rfl, ok, hN, i0, i1, rfl⟩ := h
  have n4 := ok.n4
  have n9 := ok.n9
  have few := ok.sts.few
  have r0 := ok.cam.r0
  have b0 := ok.cam.b0
  have g0 := ok.cam.g0
  have l9 := ok.cam.l9
  have ls := lawSeen_len p a
  have fa := lawFa_ok N i
  refine sds_asg (ed_ixT (ed_var 0) (by exact ed_int) rfl) (gd_tup (gds_cons (gd_name 7 nd) (gds_cons (gd_name 8 nd) (gds_cons (gd_name 9 nd) (gds_cons (gd_name 10 nd) gds_nil))))) ?_
  refine sds_set (i := 4) nd (ed_call h_l_seen (hr.mono (by decide)) (ad_cons (ed_var 0) (ad_cons (ed_var 1) ad_nil)) ⟨_, _, rfl, by omega, n9, by omega, rfl⟩) ?_
  refine sds_newL (i := 5) nd fun q5 => ?_
  have sl : ((lawSeen p a).map t4).length = (lawSeen p a).length := List.length_map _
  refine sds_for (upto (lawSeen p a).length) .int (sh1 6) (fun pre => True) (fun pre => [some (partsD p), some (t3 a), some (encL .int N), some (.int i), some (encL t4 (lawSeen p a)), some (.loc q5), none, some (.int p.reach), some (.int p.blur), some (.int p.glare), some (.int p.limit), none, none, none, none, none]) (fun pre => [(q5, .lst ((sgA p a N i pre).map t3))]) (it_rangeI T.range (ed_conv (ed_len T.len (ad_cons (ed_var 4) ad_nil) (LenD.lst _)) (by rw [sl])) (by omega) (by omega)) (gt_name 6 nd) trivial (by repeat (first | exact trivial | refine And.intro rfl ?_)) rfl (fun pre k post hL hI E1 => ⟨_, rfl, ?_⟩) (fun hI => ?_) (by rw [Int.toNat_natCast])
  · have p1 := pre_len hL
    rw [upto_len] at p1
    have hk := mem_upto.mp (show k ∈ upto (lawSeen p a).length by rw [hL]; simp)
    have fl : (sgA p a N i pre).length ≤ pre.length := by
      unfold sgA
      rw [List.length_map]
      exact List.length_filter_le _ _
    have sk : ((lawSeen p a).map t4)[k.toNat]? = some (t4 (at4 (lawSeen p a) k)) := by
      rw [List.getElem?_map, List.getElem?_eq_getElem (by omega)]
      unfold at4
      rw [List.getD_eq_getElem?_getD, List.getElem?_eq_getElem (by omega)]
      rfl
    refine sds_set (i := 11) nd (ed_toint T.int (ad_cons (ed_ixLi (ed_var 2) (ed_add (ed_var 3) (ed_var 6)) (LstD.lst _) (by omega) (num_get hN (by omega))) ad_nil)) ?_
    refine sds_set (i := 12) nd (ed_add (ed_mul ed_int (ed_var 8) (.inl (by decide))) ed_int) ?_
    refine sds_par 14 15 nd (ad_cons (ed_sub (ed_add (ed_ixT (ed_ixLi (ed_var 4) (ed_var 6) (LstD.lst _) hk.1 sk) (by exact ed_int) rfl) (ed_mod (ed_toint T.int (ad_cons (ed_var 11) ad_nil)) (ed_var 12) (by omega))) (ed_var 8)) (ad_cons (ed_sub (ed_add (ed_ixT (ed_ixLi (ed_var 4) (ed_var 6) (LstD.lst _) hk.1 sk) (by exact ed_int) rfl) (ed_mod (ed_toint T.int (ad_cons (ed_fdiv (ed_var 11) ed_int ⟨by decide, by decide⟩) ad_nil)) (ed_var 12) (by omega))) (ed_var 8)) ad_nil)) ?_
    refine sds_set (i := 13) nd (ed_sub (ed_add (ed_ixT (ed_ixLi (ed_var 4) (ed_var 6) (LstD.lst _) hk.1 sk) (by exact ed_int) rfl) (ed_mod (ed_toint T.int (ad_cons (ed_fdiv (ed_var 11) ed_int ⟨by decide, by decide⟩) ad_nil)) (ed_add (ed_mul ed_int (ed_var 9) (.inl (by decide))) ed_int) (by omega))) (ed_var 9)) ?_
    refine sds_ifJ [some (partsD p), some (t3 a), some (encL .int N), some (.int i), some (encL t4 (lawSeen p a)), some (.loc q5), none, some (.int p.reach), some (.int p.blur), some (.int p.glare), some (.int p.limit), none, none, none, none, none] [(q5, .lst ((sgA p a N i (pre ++ [k])).map t3))] (k := sgOk p (numM N (i + k)) (sgOne p (at4 (lawSeen p a) k) (numM N (i + k)))) (BW.bd (bw_and (bd_cmp (ed_max2 T.max (ad_cons (ed_abs T.abs (ad_cons (ed_var 14) ad_nil)) (ad_cons (ed_abs T.abs (ad_cons (ed_var 15) ad_nil)) ad_nil))) (ed_var 7) c_le) (fun _ => bw_and (bd_cmp (ed_var 13) (ed_var 10) c_ge) (fun _ => bw_and1 (bd_cmp (ed_mod (ed_toint T.int (ad_cons (ed_fdiv (ed_var 11) ed_int ⟨by decide, by decide⟩) ad_nil)) ed_int (by omega)) ed_int c_gt))))) (fun h => ?_) (fun h => ?_) ?_
    · refine sds_expr (ed_append [] _ (ed_var 5) (ad_cons (ed_tup (ad_cons (ed_var 14) (ad_cons (ed_var 15) (ad_cons (ed_var 13) ad_nil)))) ad_nil) (by rw [List.length_map]; omega)) ?_
      exact sds_end (fun _ _ h => h) (by repeat (first | exact trivial | refine And.intro rfl ?_)) (by rw [sgA_pos h, List.map_append]; rfl)
    · exact sds_end (fun _ _ h => h) (by repeat (first | exact trivial | refine And.intro rfl ?_)) (by rw [sgA_neg h])
    exact sds_end (fun _ _ h => ⟨trivial, h⟩) (by repeat (first | exact trivial | refine And.intro rfl ?_))
  refine sds_for (upto (lawFa N i).toNat) .int (sh1 6) (fun pre => True) (fun pre => [some (partsD p), some (t3 a), some (encL .int N), some (.int i), some (encL t4 (lawSeen p a)), some (.loc q5), none, some (.int p.reach), some (.int p.blur), some (.int p.glare), some (.int p.limit), none, none, none, none, none]) (fun pre => [(q5, .lst ((sgA p a N i (upto (lawSeen p a).length) ++ sgB p N i pre).map t3))]) (it_rangeI T.range (ed_ixLi (ed_lst (ad_cons ed_int (ad_cons ed_int (ad_cons ed_int (ad_cons ed_int ad_nil))))) (ed_mod (ed_toint T.int (ad_cons (ed_ixLi (ed_var 2) (ed_add (ed_var 3) ed_int) (LstD.lst _) (by omega) (num_get hN (by omega))) ad_nil)) ed_int (by omega)) (LstD.lst _) (by omega) (atI_get (l := f4) (by omega) (by show _ < (4 : Int); omega))) fa.1 (show lawFa N i ≤ 100000 by omega)) (gt_name 6 nd) trivial (by repeat (first | exact trivial | refine And.intro rfl ?_)) (by simp [sgB]) (fun pre k post hL hI E1 => ⟨_, rfl, ?_⟩) (fun hI => ?_)
  · have hk := mem_upto.mp (show k ∈ upto (lawFa N i).toNat by rw [hL]; simp)
    have p1 := pre_len hL
    rw [upto_len] at p1
    have fl : (sgA p a N i (upto (lawSeen p a).length)).length ≤ (lawSeen p a).length := by
      unfold sgA
      rw [List.length_map]
      refine Nat.le_trans (List.length_filter_le _ _) ?_
      rw [upto_len]
      exact Nat.le_refl _
    have fb : (sgB p N i pre).length = pre.length := List.length_map _
    refine sds_expr (ed_append [] _ (ed_var 5) (ad_cons (ed_call h_l_spot (hr.mono (by decide)) (ad_cons (ed_var 0) (ad_cons (ed_var 2) (ad_cons (ed_add (ed_add (ed_var 3) ed_int) (ed_mul ed_int (ed_var 6) (.inl (by decide)))) ad_nil))) ⟨p, N, i + 11 + 2 * k, rfl, hN, by omega, by omega, r0, by omega, rfl⟩) ad_nil) (by rw [List.length_map, List.length_append]; omega)) ?_
    exact sds_end (fun _ _ h => ⟨trivial, h⟩) (by repeat (first | exact trivial | refine And.intro rfl ?_)) (by rw [sgB_snoc, ← List.append_assoc, List.map_append (f := t3) (l₁ := _ ++ _)]; rfl)
  refine sds_freeze (i := 5) List.not_mem_nil ?_
  refine sds_ret (ed_tupleOf T.tuple (ad_cons (ed_sorted3 T.sorted (ad_cons (ed_var 5) ad_nil) (.lst (LstD.lst _))) ad_nil) (LstD.lst _)) ?_
  rfl
end
end Sw
/-! Walks: the law's parts. -/
namespace Sw
open PySem PySem.Spec L2
section
variable {P : Program} {w : World} {K : PySem.W.Frag} {mg : Str → Option Value} {base : Heap} {C : Addr}
theorem ndec {p : Prop} (i j : Decidable p) : (!@decide p i) = (!@decide p j) := by rw [Subsingleton.elim i j]
theorem pdec {p : Prop} (i j : Decidable p) : @decide p i = @decide p j := by rw [Subsingleton.elim i j]
theorem sc_l_sky : FnScope ["_law_numbers_here", "_law_at", "_law_cameras", "_law_most_here", "_law_camera", "_law_motion_here", "_law_stars", "_law_k", "_law_side", "_law_reach", "_law_blur", "_law_draw", "_law_star_here", "_law_turn"] ["_law_numbers_here", "_law_at", "_law_cameras", "_law_most_here"] (defScope s__law_sky) := ⟨rfl, rfl, rfl, by decide +kernel, rfl, by decide +kernel, by decide +kernel⟩
def r_l_sky (ds : List Dat) (d : Dat) : Prop := ∃ (N : List Int), ds = [encL .int N, .int 0, encL t3 camsM, .int 6] ∧ NumOk N ∧ d = partsD (lawP N)
theorem cal_l_sky (D : Dfn K mg "_law_sky" s__law_sky) (T : Tx mg) (h_l_motion : Cal P w K mg base 1 "_law_motion" ["_law_parts", "_law_numbers_here", "_law_at"] (spP K C r_l_motion)) (h_l_star : Cal P w K mg base 2 "_law_star" ["_law_parts", "_law_star_here", "_law_motion_here"] (spP K C r_l_star)) : Cal P w K mg base 3 "_law_sky" ["_law_numbers_here", "_law_at", "_law_cameras", "_law_most_here"] (spP K C r_l_sky) := by
  refine cal_pure D sc_l_sky (fun ds d ⟨_, h, _⟩ => by rw [h]; rfl) (fun _ _ _ _ _ _ us hl => match us, hl with | [_, _, _, _], _ => rfl) fun f cdv A outer s0 H E0 hr F ds d h => ?_
  have nd := sc_l_sky.nd
  obtain ⟨N, rfl, hN, rfl⟩ := h
  have s45 := side_45 hN
  have nn := hN.nn
  refine sds_asg (ed_ixLi (z := t3 (lawCam N)) (ed_var 2) (ed_mod (ed_toint T.int (ad_cons (ed_ixLi (ed_var 0) (ed_var 1) (LstD.lst _) (by omega) (num_get hN (by omega))) ad_nil)) (ed_len T.len (ad_cons (ed_var 2) ad_nil) (LenD.lst _)) (by decide)) (LstD.lst _) (Int.emod_nonneg _ (by decide)) (by
    have h0 : 0 ≤ numM N 0 % 4 := by omega
    have h1 : numM N 0 % 4 < 4 := by omega
    show (camsM.map t3)[(numM N 0 % 4).toNat]? = some (t3 (camsM.getD (numM N 0 % 4).toNat (0, 0, 0)))
    rw [List.getElem?_map, List.getD_eq_getElem?_getD, List.getElem?_eq_getElem (by show _ < 4; omega)]
    rfl)) (gd_tup (gds_cons (gd_name 8 nd) (gds_cons (gd_name 9 nd) (gds_cons (gd_name 10 nd) gds_nil)))) ?_
  refine sds_set (i := 4) nd (ed_tup (ad_cons (ed_var 9) (ad_cons (ed_var 10) (ad_cons (ed_ixLi (ed_lst (ad_cons ed_int (ad_cons ed_int (ad_cons ed_int (ad_cons ed_int (ad_cons ed_int ad_nil)))))) (ed_mod (ed_toint T.int (ad_cons (ed_ixLi (ed_var 0) (ed_add (ed_var 1) ed_int) (LstD.lst _) (by omega) (num_get hN (by omega))) ad_nil)) ed_int (by omega)) (LstD.lst _) (by omega) (atI_get (l := gl5) (by omega) (by show _ < (5 : Int); omega))) (ad_cons (ed_ixLi (ed_lst (ad_cons ed_int (ad_cons ed_int (ad_cons ed_int (ad_cons ed_int (ad_cons ed_int (ad_cons ed_int ad_nil))))))) (ed_mod (ed_toint T.int (ad_cons (ed_fdiv (ed_ixLi (ed_var 0) (ed_add (ed_var 1) ed_int) (LstD.lst _) (by omega) (num_get hN (by omega))) ed_int ⟨by decide, by decide⟩) ad_nil)) ed_int (by omega)) (LstD.lst _) (by omega) (atI_get (l := li6) (by omega) (by show _ < (6 : Int); omega))) ad_nil))))) ?_
  refine sds_set (i := 5) (d := t3 (lawMo (lawCam N).1 N 2)) nd (ed_call h_l_motion (hr.mono (by decide)) (ad_cons (ed_tup (ad_cons (ed_var 8) (ad_cons (ed_lst ad_nil) (ad_cons (ed_var 4) ad_nil)))) (ad_cons (ed_var 0) (ad_cons (ed_add (ed_var 1) ed_int) ad_nil))) ⟨⟨(lawCam N).1, [], (lawCam N).2.1, (lawCam N).2.2, lawGl N, lawLi N⟩, N, 2, rfl, by show 0 < (lawCam N).1; omega, hN, by decide, by decide, rfl⟩) ?_
  refine sds_newL (i := 6) nd fun q6 => ?_
  have rp := lawRp_ok N
  have n0 : 0 < (lawCam N).1 := by omega
  refine sds_for (upto (numM N 5 % 7).toNat) .int (sh1 7) (fun pre => True) (fun pre => [some (encL .int N), some (.int 0), some (encL t3 camsM), some (.int 6), some (camD (lawCam N).2.1 (lawCam N).2.2 (lawGl N) (lawLi N)), some (t3 (lawMo (lawCam N).1 N 2)), some (.loc q6), none, some (.int (lawCam N).1), some (.int (lawCam N).2.1), some (.int (lawCam N).2.2), none, none, none]) (fun pre => [(q6, .lst ((outS (lawCam N).1 (lawMo (lawCam N).1 N 2) N pre).map t3))]) (it_rangeI T.range (ed_mod (ed_toint T.int (ad_cons (ed_ixLi (ed_var 0) (ed_add (ed_var 1) ed_int) (LstD.lst _) (by omega) (num_get hN (by omega))) ad_nil)) (ed_add (ed_var 3) ed_int) (by decide)) (Int.emod_nonneg _ (by decide)) (by show numM N 5 % 7 ≤ 100000; omega)) (gt_name 7 nd) trivial (by repeat (first | exact trivial | refine And.intro rfl ?_)) rfl (fun pre k post hL hI E1 => ⟨_, rfl, ?_⟩) (fun hI => ?_)
  · have hk := mem_upto.mp (show k ∈ upto (numM N 5 % 7).toNat by rw [hL]; simp)
    have hk6 : 0 ≤ k ∧ k < 7 := by omega
    have so := outS_ok n0 (mo := (lawMo (lawCam N).1 N 2)) hN pre
    refine sds_set (i := 11) (d := .int (numM N (6 + k))) nd (ed_conv (ed_toint T.int (ad_cons (ed_ixLi (ed_var 0) (ed_add (ed_add (ed_var 1) ed_int) (ed_var 7)) (LstD.lst _) (by omega) (num_get hN (by omega))) ad_nil)) (by rw [show (0 : Int) + 6 + k = 6 + k by omega])) ?_
    refine sds_set (i := 12) (d := t3 (inS (lawCam N).1 (lawMo (lawCam N).1 N 2) (outS (lawCam N).1 (lawMo (lawCam N).1 N 2) N pre, drawS (lawCam N).1 (numM N (6 + k))) []).2) nd (ed_conv (ed_tup (ad_cons (ed_mod (ed_toint T.int (ad_cons (ed_var 11) ad_nil)) (ed_var 8) (by omega)) (ad_cons (ed_mod (ed_toint T.int (ad_cons (ed_fdiv (ed_var 11) ed_int ⟨by decide, by decide⟩) ad_nil)) (ed_var 8) (by omega)) (ad_cons (ed_ixLi (ed_lst (ad_cons ed_int (ad_cons ed_int (ad_cons ed_int (ad_cons ed_int (ad_cons ed_int (ad_cons (ed_add ed_int (ed_mod (ed_toint T.int (ad_cons (ed_fdiv (ed_var 11) ed_int ⟨by decide, by decide⟩) ad_nil)) ed_int (by omega))) ad_nil))))))) (ed_mod (ed_toint T.int (ad_cons (ed_fdiv (ed_var 11) ed_int ⟨by decide, by decide⟩) ad_nil)) ed_int (by omega)) (LstD.lst _) (by omega) (atI_get (l := br6 (numM N (6 + k))) (by omega) (by show _ < (6 : Int); omega))) ad_nil)))) rfl) ?_
    refine sds_for (upto (lawRp N).toNat) .int (sh1 13) (fun pre2 => True) (fun pre2 => [some (encL .int N), some (.int 0), some (encL t3 camsM), some (.int 6), some (camD (lawCam N).2.1 (lawCam N).2.2 (lawGl N) (lawLi N)), some (t3 (lawMo (lawCam N).1 N 2)), some (.loc q6), some (.int k), some (.int (lawCam N).1), some (.int (lawCam N).2.1), some (.int (lawCam N).2.2), some (.int (numM N (6 + k))), some (t3 (inS (lawCam N).1 (lawMo (lawCam N).1 N 2) (outS (lawCam N).1 (lawMo (lawCam N).1 N 2) N pre, drawS (lawCam N).1 (numM N (6 + k))) pre2).2), none]) (fun pre2 => [(q6, .lst ((inS (lawCam N).1 (lawMo (lawCam N).1 N 2) (outS (lawCam N).1 (lawMo (lawCam N).1 N 2) N pre, drawS (lawCam N).1 (numM N (6 + k))) pre2).1.map t3))]) (it_rangeI (i := lawRp N) T.range (ed_conv (ed_ixLi (ed_lst (ad_cons ed_int (ad_cons ed_int (ad_cons ed_int ad_nil)))) (ed_mod (ed_toint T.int (ad_cons (ed_fdiv (ed_ixLi (ed_var 0) (ed_add (ed_var 1) ed_int) (LstD.lst _) (by omega) (num_get hN (by omega))) ed_int ⟨by decide, by decide⟩) ad_nil)) ed_int (by omega)) (LstD.lst _) (by omega) (atI_get (l := rp3) (by omega) (by show _ < (3 : Int); omega))) (by rfl)) rp.1 (show lawRp N ≤ 100000 by omega)) (gt_name 13 nd) trivial (by repeat (first | exact trivial | refine And.intro rfl ?_)) rfl (fun pre2 c post2 hL2 hI2 E2 => ⟨_, rfl, ?_⟩) (fun hI2 => ?_)
    · have si := inS_ok n0 (mo := (lawMo (lawCam N).1 N 2)) pre2 (st := (outS (lawCam N).1 (lawMo (lawCam N).1 N 2) N pre, drawS (lawCam N).1 (numM N (6 + k)))) so (drawS_ok n0 (nn _))
      have sl : ((inS (lawCam N).1 (lawMo (lawCam N).1 N 2) (outS (lawCam N).1 (lawMo (lawCam N).1 N 2) N pre, drawS (lawCam N).1 (numM N (6 + k))) pre2).1.map t3).length = (inS (lawCam N).1 (lawMo (lawCam N).1 N 2) (outS (lawCam N).1 (lawMo (lawCam N).1 N 2) N pre, drawS (lawCam N).1 (numM N (6 + k))) pre2).1.length := List.length_map _
      have sn := inS_snoc (lawCam N).1 (lawMo (lawCam N).1 N 2) (outS (lawCam N).1 (lawMo (lawCam N).1 N 2) N pre, drawS (lawCam N).1 (numM N (6 + k))) pre2 c
      refine sds_ifJ [some (encL .int N), some (.int 0), some (encL t3 camsM), some (.int 6), some (camD (lawCam N).2.1 (lawCam N).2.2 (lawGl N) (lawLi N)), some (t3 (lawMo (lawCam N).1 N 2)), some (.loc q6), some (.int k), some (.int (lawCam N).1), some (.int (lawCam N).2.1), some (.int (lawCam N).2.2), some (.int (numM N (6 + k))), some (t3 (inS (lawCam N).1 (lawMo (lawCam N).1 N 2) (outS (lawCam N).1 (lawMo (lawCam N).1 N 2) N pre, drawS (lawCam N).1 (numM N (6 + k))) pre2).2), some (.int c)] [(q6, .lst ((inS (lawCam N).1 (lawMo (lawCam N).1 N 2) (outS (lawCam N).1 (lawMo (lawCam N).1 N 2) N pre, drawS (lawCam N).1 (numM N (6 + k))) (pre2 ++ [c])).1.map t3))] (k := !decide ((inS (lawCam N).1 (lawMo (lawCam N).1 N 2) (outS (lawCam N).1 (lawMo (lawCam N).1 N 2) N pre, drawS (lawCam N).1 (numM N (6 + k))) pre2).2 ∈ (inS (lawCam N).1 (lawMo (lawCam N).1 N 2) (outS (lawCam N).1 (lawMo (lawCam N).1 N 2) N pre, drawS (lawCam N).1 (numM N (6 + k))) pre2).1) && decide ((((inS (lawCam N).1 (lawMo (lawCam N).1 N 2) (outS (lawCam N).1 (lawMo (lawCam N).1 N 2) N pre, drawS (lawCam N).1 (numM N (6 + k))) pre2).1.map t3).length : Int) < 6)) (BW.bd (bw_and (bd_conv (bd_cmp (ed_var 12) (ed_var 6) (c_ninD eqc_t3 (LstD.loc List.mem_cons_self) (hu65 hr))) (ndec _ _)) (fun _ => bw_and1 (bd_cmp (ed_len T.len (ad_cons (ed_var 6) ad_nil) (LenD.loc List.mem_cons_self)) (ed_var 3) c_lt)))) (fun h => ?_) (fun h => ?_) ?_
      · rw [Bool.and_eq_true, decide_eq_true_eq, Bool.not_eq_true', decide_eq_false_iff_not, sl] at h
        refine sds_expr (ed_append [] _ (ed_var 6) (ad_cons (ed_var 12) ad_nil) (by rw [sl]; have := si.1.few; omega)) ?_
        exact sds_end (fun _ _ h => h) (by repeat (first | exact trivial | refine And.intro rfl ?_)) (by rw [sn]; unfold starS; rw [if_pos ⟨h.1, by omega⟩, List.map_append]; rfl)
      · refine sds_end (fun _ _ h => h) (by repeat (first | exact trivial | refine And.intro rfl ?_)) ?_
        rw [sn]
        unfold starS
        rw [if_neg]
        intro z
        rw [decide_eq_false z.1, sl, decide_eq_true (show ((inS (lawCam N).1 (lawMo (lawCam N).1 N 2) (outS (lawCam N).1 (lawMo (lawCam N).1 N 2) N pre, drawS (lawCam N).1 (numM N (6 + k))) pre2).1.length : Int) < 6 by omega)] at h
        cases h
      refine sds_set (i := 12) (d := t3 (inS (lawCam N).1 (lawMo (lawCam N).1 N 2) (outS (lawCam N).1 (lawMo (lawCam N).1 N 2) N pre, drawS (lawCam N).1 (numM N (6 + k))) (pre2 ++ [c])).2) nd (ed_conv (ed_call h_l_star (hr.mono (by decide)) (ad_cons (ed_tup (ad_cons (ed_var 8) (ad_cons (ed_lst ad_nil) (ad_cons (ed_var 4) ad_nil)))) (ad_cons (ed_var 12) (ad_cons (ed_var 5) ad_nil))) ⟨⟨(lawCam N).1, [], (lawCam N).2.1, (lawCam N).2.2, lawGl N, lawLi N⟩, _, (lawMo (lawCam N).1 N 2), rfl, n0, by show 0 ≤ numM N (2 + 2) % 4; omega, by show numM N (2 + 2) % 4 ≤ 3; omega, rfl⟩) (by rw [sn]; rfl)) ?_
      exact sds_end (fun _ _ h => ⟨trivial, h⟩) (by repeat (first | exact trivial | refine And.intro rfl ?_))
    · exact sds_end (fun _ _ h => ⟨trivial, h⟩) (by repeat (first | exact trivial | refine And.intro rfl ?_)) (by rw [outS_snoc])
  refine sds_freeze (i := 6) List.not_mem_nil ?_
  refine sds_ret (ed_tup (ad_cons (ed_var 8) (ad_cons (ed_var 6) (ad_cons (ed_var 4) ad_nil)))) ?_
  rfl
end
end Sw
/-! What the walk of the law asks of the plain law. -/
namespace Sw
open PySem PySem.Spec L2
structure LawF (N : List Int) (p : SkyD) : Prop where
  pa : PaOk p
  sky : SkyOk (skyOf p)
  sharp : p.side = 4 → p.blur = 0
  sg : ∀ a i, (∀ t ∈ lawSg p a N i, SpotOk (skyOf p) t) ∧ (lawSg p a N i).length ≤ 60 ∧ SrT (lawSg p a N i)
theorem lawF {N : List Int} (h : NumOk N) : LawF N (lawP N) := ⟨lawP_ok h, lawP_sky h, lawP_sharp h, fun a i => lawSg_ok h a i⟩
theorem pick {α : Type} (enc : α → Dat) {L : List α} (h : 0 < L.length) (x : Int) {n : Int} (hn : n = L.length) : ∃ a, a ∈ L ∧ (L.map enc)[(x % n).toNat]? = some (enc a) := by
  have h0 := Int.emod_nonneg x (show n ≠ 0 by omega)
  have h1 := Int.emod_lt_of_pos x (show 0 < n by omega)
  have hl : (x % n).toNat < L.length := by omega
  refine ⟨L[(x % n).toNat], List.getElem_mem hl, ?_⟩
  rw [List.getElem?_map, List.getElem?_eq_getElem hl]
  rfl
theorem lots_len {s : SkyD} (n9 : s.side ≤ 9) {pre post : List (List T3)} {a : List T3} (h : lotsM s = pre ++ a :: post) : pre.flatten.length + a.length ≤ 324 := by
  have h1 := (ali_all s (tripsM s.side.toNat)).pm.length_eq
  have h2 : ((alF s (tripsM s.side.toNat)).map (·.2)) = pre ++ a :: post := h
  rw [h2, List.flatten_append, List.flatten_cons, List.length_append, List.length_append] at h1
  have := trips_le (n := s.side.toNat) (by omega)
  omega
theorem lots_many {s : SkyD} (n9 : s.side ≤ 9) : (lotsM s).length ≤ 324 := by
  unfold lotsM
  rw [List.length_map]
  exact Nat.le_trans (alF_len s _) (trips_le (by omega))
theorem lot_len {s : SkyD} (n9 : s.side ≤ 9) {l : List T3} (h : l ∈ lotsM s) : l.length ≤ 324 := by
  obtain ⟨pre, post, e⟩ := List.append_of_mem h
  have := lots_len n9 e
  omega
theorem still_len {s : SkyD} (n9 : s.side ≤ 9) : (stillM s).length ≤ 324 := Nat.le_trans (List.length_filter_le _ _) (trips_le (by omega))
theorem tell_ex {s : SkyD} {p : SkyD} (e : skyOf p = s) (ok : SkyOk s) {a b : T3} (h : seesM s a ≠ seesM s b) : ∃ (bd : List P2) (w : Int) (L : List T3), leastM s (seesM s a) (seesM s b) = some bd ∧ bd.length = 3 ∧ whichM s (seesM s a) (seesM s b) bd = w ∧
    showM s (if whichM s (seesM s a) (seesM s b) bd = 0 then seesM s a else seesM s b) bd = L ∧ (w = 0 ∨ w = 1) ∧ L.length ≤ 60 ∧ (∀ t ∈ L, SpotOk s t) ∧ SrT L ∧ needM s (if w = 0 then a else b) L = (0, 0) ∧ needM s (if w = 0 then b else a) L ≠ (0, 0) ∧ lawNeed p (if w = 0 then a else b) L = (0, 0) ∧ lawNeed p (if w = 0 then b else a) L ≠ (0, 0) := by
  obtain ⟨bd, h1, h2, h3, h4, h5, h6, h7, h8⟩ := telling ok h
  have hs : ∀ t ∈ showM s (if whichM s (seesM s a) (seesM s b) bd = 0 then seesM s a else seesM s b) bd, s.limit ≤ t.2.2 := fun t ht => (h5 t ht).b0
  have n0 := (needM_T ok.cam.b0 ok.cam.g0 (if whichM s (seesM s a) (seesM s b) bd = 0 then a else b) hs).trans h7
  have n1 : needM s (if whichM s (seesM s a) (seesM s b) bd = 0 then b else a) (showM s (if whichM s (seesM s a) (seesM s b) bd = 0 then seesM s a else seesM s b) bd) ≠ (0, 0) := by
    rw [needM_T ok.cam.b0 ok.cam.g0 (if whichM s (seesM s a) (seesM s b) bd = 0 then b else a) hs]
    exact h8
  have e2 : ∀ x, lawNeed p x (showM s (if whichM s (seesM s a) (seesM s b) bd = 0 then seesM s a else seesM s b) bd) = needM s x (showM s (if whichM s (seesM s a) (seesM s b) bd = 0 then seesM s a else seesM s b) bd) := fun x => by
    have e3 : p.limit = s.limit := by rw [← e]; rfl
    have := lawNeed_sky (p := p) (by rw [e]; exact ok) x (sg := showM s (if whichM s (seesM s a) (seesM s b) bd = 0 then seesM s a else seesM s b) bd) (fun t ht => by rw [e3]; exact hs t ht)
    rw [e] at this
    exact this
  exact ⟨bd, _, _, h1, h2, rfl, rfl, h3, Nat.le_trans h4 (by decide), h5, h6, n0, n1, (e2 _).trans n0, by rw [e2]; exact n1⟩
theorem tell_still {s : SkyD} (ok : SkyOk s) {m : T3} (hm : m ∈ stillM s) {b0 b1 : Int} (h0 : 0 ≤ b0) (h1 : 0 ≤ b1) : TellOk s b0 b1 (fun _ => false) m := fun a ha => by
  refine ⟨?_, rfl⟩
  rw [still_unl ok hm, decide_eq_true (show 0 ≤ b0 + b1 by omega)]
  rfl
noncomputable def sharpV (s : SkyD) : T3 × T3 → Bool := fun k => !(decide (unlM s k.1 (moveM s.side k.1 k.2) ≤ 0))
theorem tell_sharp {s : SkyD} (ok : SkyOk s) (hb : s.blur = 0) (hg : s.glare = 0) {m : T3} (hm : MotOk s.side m) : TellOk s 0 0 (sharpV s) m := fun a ha => by
  refine ⟨rfl, ?_⟩
  unfold sharpV
  dsimp only
  congr 1
  exact decide_eq_decide.mpr (tell_back ok hb hg (here_ok ha) hm rfl)
theorem here_self {a : T3} (h : a.2.2 = 0) : hereM a = a := t3_ext rfl h.symm
theorem hid_still {s : SkyD} (ok : SkyOk s) (hb : s.blur = 0) (hg : s.glare = 0) : ((tripsM s.side.toNat).filter fun mo => (placesM s.side.toNat).all fun a => !sharpV s (hereM a, mo)) = stillM s := by
  refine List.filter_congr fun mo hmo => ?_
  have key := sharp_still ok hb hg (trips_mem hmo)
  rw [Bool.eq_iff_iff, List.all_eq_true, ← key]
  constructor
  · intro h a ha hq
    have := h a (List.mem_filter.mpr ⟨mem_trips ha, decide_eq_true hq⟩)
    rw [here_self hq] at this
    unfold sharpV at this
    rw [Bool.not_not] at this
    exact of_decide_eq_true this
  · intro h a ha
    obtain ⟨h1, h2⟩ := List.mem_filter.mp ha
    have hq : a.2.2 = 0 := of_decide_eq_true h2
    rw [here_self hq]
    unfold sharpV
    rw [Bool.not_not]
    exact decide_eq_true (h a (trips_mem h1) hq)
def cmds3 : List T3 := [(1, 0, 0), (0, 1, 0), (0, 0, 1)]
theorem cmds3_ok {n : Int} (h : 4 ≤ n) : CmdsOk n cmds3 := fun c hc => by
  unfold cmds3 at hc
  have hc' : c = (1, 0, 0) ∨ c = (0, 1, 0) ∨ c = (0, 0, 1) := by simpa using hc
  rcases hc' with rfl | rfl | rfl
  · exact ⟨by decide, by decide, by show (1 : Int) < n; omega⟩
  · exact ⟨by decide, by decide, by show (1 : Int) < n; omega⟩
  · exact ⟨by decide, by decide, by show (0 : Int) < n; omega⟩
theorem row_lot {s : SkyD} (ok : SkyOk s) (hb : s.blur = 0) (hg : s.glare = 0) {a c : T3} {l : List T3} {d : Dat} (ha : MotOk s.side a) (hc : MotOk s.side c) (hl : l ∈ stillLotsM s) (hal : a ∈ l) (h : RowPost s a (betwM s.side a c) cmds3 (sharpV s) d) : isNon d = decide (c ∈ l) := by
  have n0 : 0 < s.side := by have := ok.n4; omega
  have mo := betw_ok n0 a c
  have key := sharp_still ok hb hg mo
  have li := still_lots_iff ok hl hal ha hc
  obtain ⟨fw, wo, h1, h2⟩ := h
  by_cases hs : stillB s (betwM s.side a c) = true
  · rw [decide_eq_true (li.mpr hs)]
    have : d = .non := h1 fun t ht => by
      have tok : MotOk s.side t := by
        obtain ⟨p, hp, rfl⟩ := List.mem_map.mp ht
        exact wo.1.ok p hp
      unfold sharpV
      rw [decide_eq_true (key.mpr hs (hereM t) (here_ok tok) rfl)]
      rfl
    rw [this]
    rfl
  · rw [decide_eq_false fun z => hs (li.mp z)]
    have : ∃ t ∈ fw.map (·.1), sharpV s (hereM t, betwM s.side a c) = true := by
      refine Classical.byContradiction fun no => hs (key.mp fun t ht hq => ?_)
      have hm : t ∈ fw.map (·.1) := ways_all n0 (K := fw.map (·.1)) (fun t ht => by
        obtain ⟨p, hp, rfl⟩ := List.mem_map.mp ht
        exact wo.1.ok p hp) (fun t ht => wo.2 t ht _ (by simp [cmds3])) (fun t ht => wo.2 t ht _ (by simp [cmds3])) (fun t ht => wo.2 t ht _ (by simp [cmds3])) wo.1.st ht
      refine Classical.byContradiction fun g => no ⟨t, hm, ?_⟩
      rw [here_self hq]
      unfold sharpV
      rw [decide_eq_false g]
      rfl
    obtain ⟨xs, rfl⟩ := h2 this
    rfl
theorem still_first {s : SkyD} (ok : SkyOk s) {a : T3} (ha : MotOk s.side a) : ∃ l, l ∈ stillLotsM s ∧ a ∈ l ∧ (((stillLotsM s).filter fun l => decide (a ∈ l)).map (encL t3))[0]? = some (encL t3 l) := by
  obtain ⟨l, hl, hal⟩ := still_lots_has ok ha
  have hm : l ∈ (stillLotsM s).filter fun l => decide (a ∈ l) := List.mem_filter.mpr ⟨hl, decide_eq_true hal⟩
  match e : (stillLotsM s).filter fun l => decide (a ∈ l) with
  | [] => rw [e] at hm; cases hm
  | l0 :: rest =>
    have h0 : l0 ∈ (stillLotsM s).filter fun l => decide (a ∈ l) := by rw [e]; exact List.mem_cons_self
    exact ⟨l0, (List.mem_filter.mp h0).1, of_decide_eq_true (List.mem_filter.mp h0).2, rfl⟩
theorem stillLots_len {s : SkyD} (h0 : 0 < s.side) (n9 : s.side ≤ 9) : (stillLotsM s).length ≤ 324 := Nat.le_trans (slF_ok h0 _).2 (trips_le (by omega))
theorem lawAtt_ok {p : SkyD} (h0 : 0 < p.side) (N : List Int) (i : Int) : MotOk p.side (lawAtt p N i) :=
  ⟨Int.emod_nonneg _ (by omega), Int.emod_lt_of_pos _ h0, Int.emod_nonneg _ (by omega), Int.emod_lt_of_pos _ h0, Int.emod_nonneg _ (by decide), by show numM N i / 81 % 4 ≤ 3; omega⟩
end Sw
/-! Walks: the law. -/
namespace Sw
open PySem PySem.Spec L2
section
variable {P : Program} {w : World} {K : PySem.W.Frag} {mg : Str → Option Value} {base : Heap} {C : Addr}
theorem nin_no {q : Prop} {i : Decidable q} (h : q) : (!@decide q i) = false := by
  rw [decide_eq_true h]
  rfl
theorem any_no {α : Type} (L : List α) : (L.map fun _ => false).any id = false := by
  induction L with
  | nil => rfl
  | cons a L ih => simpa using ih
theorem sc_law : FnScope ["_law_script", "_law_numbers_here", "_law_parts", "_law_sky_here", "_law_every", "_law_lot", "_law_k", "_law_bounds", "_law_motion_here", "_law_lots", "_law_still", "_law_sighting_here", "_law_first", "_law_second", "_law_told", "_law_needs", "_law_row_here", "_law_one", "_law_other", "_law_some"] ["_law_script"] (defScope s_law) := ⟨rfl, rfl, rfl, by decide +kernel, rfl, by decide +kernel, by decide +kernel⟩
def r_law (ds : List Dat) (d : Dat) : Prop := ∃ (ns : List Int), ds = [.fzl (ns.map .int)] ∧ d = .bl true
theorem fn_law {f0 : Addr} {fd0 : FuncData} (Fn : FunD K "law" "law" (defArgs s_law) (defBody s_law) (defScope s_law) [] [] f0 fd0) (T : Tx mg) (h_l_numbers : Cal P w K mg base 2 "_law_numbers" ["_law_script", "_law_many"] (spP K C r_l_numbers)) (h_l_sky : Cal P w K mg base 3 "_law_sky" ["_law_numbers_here", "_law_at", "_law_cameras", "_law_most_here"] (spP K C r_l_sky)) (h_l_made : Cal P w K mg base 4 "_law_made" ["_law_parts"] (spP K C r_l_made)) (h_alike_lots : Cal P w K mg base 7 "alike_lots" ["sky"] (spP K C r_alike_lots)) (h_still_motions : Cal P w K mg base 4 "still_motions" ["sky"] (spP K C r_still_motions)) (h_l_all : Cal P w K mg base 1 "_law_all" ["_law_parts"] (spP K C r_l_all)) (h_l_sighting : Cal P w K mg base 4 "_law_sighting" ["_law_parts", "_law_attitude_here", "_law_numbers_here", "_law_at"] (spP K C r_l_sighting)) (h_telling_sighting : Cal P w K mg base 7 "telling_sighting" ["sky", "one", "other"] (spP K C r_telling_sighting)) (h_telling_places : Cal P w K mg base 12 "telling_places" ["sky", "motion", "missing", "false"] (spP K C r_telling_places)) (h_telling_row : Cal P w K mg base 13 "telling_row" ["sky", "one", "other", "commands", "missing", "false"] (spL K C r_telling_row)) (h_l_attitude : Cal P w K mg base 1 "_law_attitude" ["_law_parts", "_law_numbers_here", "_law_at"] (spP K C r_l_attitude)) (h_need : Cal P w K mg base 9 "need" ["sky", "attitude", "sighting"] (spP K C r_need)) (h_l_need : Cal P w K mg base 63 "_law_need" ["_law_parts", "_law_attitude_here", "_law_sighting_here"] (spP K C r_l_need)) (h_hidden_motions : Cal P w K mg base 13 "hidden_motions" ["sky", "missing", "false"] (spP K C r_hidden_motions)) (h_l_moved : Cal P w K mg base 2 "_law_moved" ["_law_parts", "_law_attitude_here", "_law_motion_here"] (spP K C r_l_moved)) (h_check_telling : Cal P w K mg base 10 "check_telling" ["sky", "one", "other", "told"] (spP K C r_check_telling)) (h_still_lots : Cal P w K mg base 5 "still_lots" ["sky"] (spP K C r_still_lots)) : FnOk P w K mg base CX0 64 f0 fd0 ["_law_script"] (spP K C r_law) := by
  refine fn_pure Fn sc_law (fun ds d ⟨_, h, _⟩ => by rw [h]; rfl) fun cdv A outer s0 H E0 hr F ds d h => ?_
  have nd := sc_law.nd
  obtain ⟨ns, rfl, rfl⟩ := h
  have hN := numsM_ok ns
  refine sds_set (i := 1) nd (ed_call h_l_numbers (hr.mono (by decide)) (ad_cons (ed_var 0) (ad_cons ed_int ad_nil)) ⟨ns, rfl, rfl⟩) ?_
  generalize numsM ns = N at *
  obtain ⟨p, hpe, LF⟩ : ∃ p, lawP N = p ∧ LawF N p := ⟨_, rfl, lawF hN⟩
  have pa := LF.pa
  have sk := LF.sky
  have n4 : 4 ≤ p.side := pa.n4
  have n9 : p.side ≤ 9 := pa.n9
  have n0 : 0 < p.side := by omega
  have few : (skyOf p).stars.length ≤ 1000 := Nat.le_trans sk.few (by decide)
  have pfew : p.stars.length ≤ 60 := Nat.le_trans pa.sts.few (by decide)
  have lm := lots_many (s := (skyOf p)) n9
  refine sds_set (i := 2) (d := partsD p) nd (ed_conv (ed_call h_l_sky (hr.mono (by decide)) (ad_cons (ed_var 1) (ad_cons ed_int (ad_cons (ed_lst (ad_cons (ed_tup (ad_cons ed_int (ad_cons ed_int (ad_cons ed_int ad_nil)))) (ad_cons (ed_tup (ad_cons ed_int (ad_cons ed_int (ad_cons ed_int ad_nil)))) (ad_cons (ed_tup (ad_cons ed_int (ad_cons ed_int (ad_cons ed_int ad_nil)))) (ad_cons (ed_tup (ad_cons ed_int (ad_cons ed_int (ad_cons ed_int ad_nil)))) ad_nil))))) (ad_cons ed_int ad_nil)))) ⟨N, rfl, hN, rfl⟩) (by rw [hpe])) ?_
  refine sds_set (i := 3) nd (ed_call h_l_made (hr.mono (by decide)) (ad_cons (ed_var 2) ad_nil) ⟨p, rfl, pa, rfl⟩) ?_
  refine sds_par 9 10 nd (ad_cons (ed_call h_alike_lots (hr.mono (by decide)) (ad_cons (ed_var 3) ad_nil) ⟨skyOf p, rfl, n0, n9, few, rfl⟩) (ad_cons (ed_call h_still_motions (hr.mono (by decide)) (ad_cons (ed_var 3) ad_nil) ⟨skyOf p, rfl, n0, n9, few, rfl⟩) ad_nil)) ?_
  refine sds_set (i := 4) (d := encL t3 []) nd (ed_lst ad_nil) ?_
  refine sds_for (lotsM (skyOf p)) (encL t3) (sh1 5) (fun pre => True) (fun pre => [none, some (encL .int N), some (partsD p), some (.sky (skyOf p)), some (encL t3 pre.flatten), none, none, none, none, some (encL (encL t3) (lotsM (skyOf p))), some (encL t3 (stillM (skyOf p))), none, none, none, none, none, none, none, none, none]) (fun pre => []) (it_list (ed_var 9)) (gt_name 5 nd) trivial (by repeat (first | exact trivial | refine And.intro rfl ?_)) rfl (fun pre a post hL hI E1 => ⟨_, rfl, ?_⟩) (fun hI => ?_)
  · have ll := lots_len (s := (skyOf p)) n9 hL
    refine sds_set (i := 4) (d := encL t3 (pre ++ [a]).flatten) nd (ed_conv (ed_catL (ed_var 4) (ed_var 5) (LstD.lst _) (LstD.lst _) (by rw [List.length_map, List.length_map]; omega)) (by rw [List.flatten_append, ← List.map_append]; simp [encL])) ?_
    exact sds_end (fun _ _ h => ⟨trivial, h⟩) (by repeat (first | exact trivial | refine And.intro rfl ?_))
  refine sds_ifN (bd_conv (bd_cmp (ed_sorted3 T.sorted (ad_cons (ed_var 4) ad_nil) (.lst (LstD.lst _))) (ed_call h_l_all (hr.mono (by decide)) (ad_cons (ed_var 2) ad_nil) ⟨p, rfl, by omega, n9, rfl⟩) (c_neD (enc := encL t3) eqc_t3.lst hr.units)) (nin_no (show sort3 (lotsM (skyOf p)).flatten = tripsM p.side.toNat from lots_flat (skyOf p)))) ?_
  refine sds_for (upto 2) .int (sh1 6) (fun pre => True) (fun pre => [none, some (encL .int N), some (partsD p), some (.sky (skyOf p)), none, none, none, none, none, some (encL (encL t3) (lotsM (skyOf p))), some (encL t3 (stillM (skyOf p))), none, none, none, none, none, none, none, none, none]) (fun pre => []) (it_rangeI T.range (ed_int (i := 2)) (by decide) (by decide)) (gt_name 6 nd) trivial (by repeat (first | exact trivial | refine And.intro rfl ?_)) rfl (fun pre k post hL hI E1 => ⟨_, rfl, ?_⟩) (fun hI => ?_)
  · have hk := mem_upto.mp (show k ∈ upto 2 by rw [hL]; simp)
    refine sds_set (i := 11) nd (ed_call h_l_sighting (hr.mono (by decide)) (ad_cons (ed_var 2) (ad_cons (ed_call h_l_attitude (hr.mono (by decide)) (ad_cons (ed_var 2) (ad_cons (ed_var 1) (ad_cons (ed_add ed_int (ed_var 6)) ad_nil))) ⟨p, N, 15 + k, rfl, n0, hN, by omega, by omega, rfl⟩) (ad_cons (ed_var 1) (ad_cons (ed_add ed_int (ed_mul ed_int (ed_var 6) (.inl (by decide)))) ad_nil)))) ⟨p, _, N, 20 + 20 * k, rfl, pa, hN, by omega, by omega, rfl⟩) ?_
    obtain ⟨sg1, sg2, sg3⟩ := LF.sg (lawAtt p N (15 + k)) (20 + 20 * k)
    generalize lawSg p (lawAtt p N (15 + k)) N (20 + 20 * k) = sg at *
    have sg4 : ∀ t ∈ sg, (skyOf p).limit ≤ t.2.2 := fun t ht => (sg1 t ht).b0
    refine sds_for (lotsM (skyOf p)) (encL t3) (sh1 5) (fun pre => True) (fun pre => [none, some (encL .int N), some (partsD p), some (.sky (skyOf p)), none, none, some (.int k), none, none, some (encL (encL t3) (lotsM (skyOf p))), some (encL t3 (stillM (skyOf p))), some (encT t3 sg), none, none, none, none, none, none, none, none]) (fun pre => []) (it_list (ed_var 9)) (gt_name 5 nd) trivial (by repeat (first | exact trivial | refine And.intro rfl ?_)) rfl (fun pre2 a post2 hL2 hI2 E2 => ⟨_, rfl, ?_⟩) (fun hI2 => ?_)
    · have ha : a ∈ (lotsM (skyOf p)) := by rw [hL2]; simp
      obtain ⟨x, tl, rfl⟩ := List.exists_cons_of_ne_nil (lots_ne ha)
      have mx : MotOk p.side x := lots_ok ha List.mem_cons_self
      have ln := lot_len (s := (skyOf p)) n9 ha
      refine sds_set (i := 14) nd (ed_call h_need (hr.mono (by decide)) (ad_cons (ed_var 3) (ad_cons (ed_ixL (ed_var 5) (by exact ed_int) (LstD.lst _) rfl) (ad_cons (ed_var 11) ad_nil))) ⟨skyOf p, x, sg, rfl, mx, sg2, sg1, sg3, few, rfl⟩) ?_
      refine sds_ifN (bd_conv (BW.bd (bw_or (bd_cmp (ed_var 14) (ed_call h_l_need (hr.mono (by decide)) (ad_cons (ed_var 2) (ad_cons (ed_ixL (ed_var 5) (by exact ed_int) (LstD.lst _) rfl) (ad_cons (ed_var 11) ad_nil))) ⟨p, x, sg, rfl, n0, n9, pfew, sg2, rfl⟩) (c_neD (enc := t2) eqc_t2 hr.units)) (fun _ => bw_or1 (bd_val (ed_any T.any (ad_cons (ed_lcB (tl.take 5) t3 (sh1 17) (fun y => [none, some (encL .int N), some (partsD p), some (.sky (skyOf p)), none, some (encL t3 (x :: tl)), some (.int k), none, none, some (encL (encL t3) (lotsM (skyOf p))), some (encL t3 (stillM (skyOf p))), some (encT t3 sg), none, none, some (t2 (needM (skyOf p) x sg)), none, none, some (t3 y), none, none]) (fun y => false) [("_law_one", 17)] (it_list (ed_slL (ed_var 5) (pd_some (ed_int (i := 1))) (pd_some (ed_int (i := 6))) (LstS.ls (LstD.lst _)))) nd (blkOk_by (N := ["_law_script", "_law_numbers_here", "_law_parts", "_law_sky_here", "_law_every", "_law_lot", "_law_k", "_law_bounds", "_law_motion_here", "_law_lots", "_law_still", "_law_sighting_here", "_law_first", "_law_second", "_law_told", "_law_needs", "_law_row_here", "_law_one", "_law_other", "_law_some"]) (sc := defScope s_law) (by decide +kernel)) (gb_name 17 nd) (fun a ha => rfl) (fun y hy s H C1 cl fp => ed_conv (ed_cmp (ed_call h_need (hr.mono (by decide)) (ad_cons (ed_var 3) (ad_cons (ed_var 17) (ad_cons (ed_var 11) ad_nil))) ⟨skyOf p, y, sg, rfl, lots_ok ha (List.mem_cons_of_mem _ (List.mem_of_mem_take hy)), sg2, sg1, sg3, few, rfl⟩) (ed_var 14) (c_neD (enc := t2) eqc_t2 hr.units)) (by rw [decide_eq_true (need_alike sk (lots_sees ha (List.mem_cons_of_mem _ (List.mem_of_mem_take hy)) List.mem_cons_self) sg4)]; rfl)) (by rw [List.length_take]; omega) (by rw [show (1 : Int) = ((1 : Nat) : Int) from rfl, show (6 : Int) = ((6 : Nat) : Int) from rfl, cut_mid, ← List.map_drop, ← List.map_take]; rfl)) ad_nil)))))) (by rw [lawNeed_sky sk x sg4, decide_eq_true rfl, any_no]; rfl)) ?_
      exact sds_end (fun _ _ h => ⟨trivial, h⟩) (by repeat (first | exact trivial | refine And.intro rfl ?_))
    · exact sds_end (fun _ _ h => ⟨trivial, h⟩) (by repeat (first | exact trivial | refine And.intro rfl ?_))
  have lml : ((lotsM (skyOf p)).map (encL t3)).length = (lotsM (skyOf p)).length := List.length_map _
  refine sds_ifJ [none, some (encL .int N), some (partsD p), some (.sky (skyOf p)), none, none, none, none, none, some (encL (encL t3) (lotsM (skyOf p))), some (encL t3 (stillM (skyOf p))), none, none, none, none, none, none, none, none, none] [] (bd_cmp (ed_len T.len (ad_cons (ed_var 9) ad_nil) (LenD.lst _)) ed_int c_gt) (fun h => ?_) (fun h => ?_) ?_
  · have h1l : 1 < (lotsM (skyOf p)).length := by
      have := of_decide_eq_true h
      rw [lml] at this
      omega
    obtain ⟨l1, hl1, hx1⟩ := pick (encL t3) (L := (lotsM (skyOf p))) (by omega) (numM N 60) (n := (((lotsM (skyOf p)).map (encL t3)).length : Int)) (by rw [lml])
    obtain ⟨x1, tl1, rfl⟩ := List.exists_cons_of_ne_nil (lots_ne hl1)
    have mx1 : MotOk p.side x1 := lots_ok hl1 List.mem_cons_self
    have oth := lots_others hl1 (x := x1) List.mem_cons_self
    obtain ⟨l2, hl2, hx2⟩ := pick (encL t3) (L := (lotsM (skyOf p)).filter fun m => !decide (x1 ∈ m)) (by rw [oth]; omega) (numM N 61) (n := (((lotsM (skyOf p)).map (encL t3)).length : Int) - 1) (by rw [lml, oth]; omega)
    obtain ⟨hl2a, hl2b⟩ := List.mem_filter.mp hl2
    obtain ⟨x2, tl2, rfl⟩ := List.exists_cons_of_ne_nil (lots_ne hl2a)
    have mx2 : MotOk p.side x2 := lots_ok hl2a List.mem_cons_self
    have hne : seesM (skyOf p) x1 ≠ seesM (skyOf p) x2 := fun e => by
      rw [decide_eq_true (lots_in hl2a List.mem_cons_self mx1 e)] at hl2b
      cases hl2b
    obtain ⟨bd, w, L, t1, t2', t3', t4', hw, t5, t6, t7, t8, t9, t10, t11⟩ := tell_ex rfl sk hne
    refine sds_set (i := 12) (d := t3 x1) nd (ed_ixL (ed_ixLi (z := encL t3 (x1 :: tl1)) (ed_var 9) (ed_mod (ed_toint T.int (ad_cons (ed_ixLi (ed_var 1) (ed_int (i := 60)) (LstD.lst _) (by decide) (num_get (i := 60) hN (by decide))) ad_nil)) (ed_len T.len (ad_cons (ed_var 9) ad_nil) (LenD.lst _)) (by rw [lml]; omega)) (LstD.lst _) (Int.emod_nonneg _ (by rw [lml]; omega)) hx1) (by exact ed_int) (LstD.lst _) rfl) ?_
    refine sds_set (i := 13) (d := t3 x2) nd (ed_ixL (ed_ixLi (z := encL t3 (x2 :: tl2)) (ed_lcF (lotsM (skyOf p)) (encL t3) (sh1 5) (fun m => [none, some (encL .int N), some (partsD p), some (.sky (skyOf p)), none, some (encL t3 m), none, none, none, some (encL (encL t3) (lotsM (skyOf p))), some (encL t3 (stillM (skyOf p))), none, some (t3 x1), none, none, none, none, none, none, none]) (fun m => !decide (x1 ∈ m)) [("_law_lot", 5)] (it_list (ed_var 9)) nd (blkOk_by (N := ["_law_script", "_law_numbers_here", "_law_parts", "_law_sky_here", "_law_every", "_law_lot", "_law_k", "_law_bounds", "_law_motion_here", "_law_lots", "_law_still", "_law_sighting_here", "_law_first", "_law_second", "_law_told", "_law_needs", "_law_row_here", "_law_one", "_law_other", "_law_some"]) (sc := defScope s_law) (by decide +kernel)) (gb_name 5 nd) (fun a ha => rfl) (cd_one (cs (lotsM (skyOf p)) fun a ha s H C1 cl fp => bd_conv (bd_cmp (ed_var 12) (ed_var 5) (c_ninD eqc_t3 (LstD.lst _) (hu65 hr))) (ndec _ _))) (fun a ha s H C1 cl fp => ed_var 5) (by omega)) (ed_mod (ed_toint T.int (ad_cons (ed_ixLi (ed_var 1) (ed_int (i := 61)) (LstD.lst _) (by decide) (num_get (i := 61) hN (by decide))) ad_nil)) (ed_sub (ed_len T.len (ad_cons (ed_var 9) ad_nil) (LenD.lst _)) ed_int) (by rw [lml]; omega)) (LstD.lst _) (Int.emod_nonneg _ (by rw [lml]; omega)) hx2) (by exact ed_int) (LstD.lst _) rfl) ?_
    refine sds_set (i := 14) (d := .tup [.int w, .tup (L.map t3)]) nd (ed_conv (ed_call h_telling_sighting (hr.mono (by decide)) (ad_cons (ed_var 3) (ad_cons (ed_var 12) (ad_cons (ed_var 13) ad_nil))) ⟨skyOf p, x1, x2, bd, rfl, mx1, mx2, few, hne, t1, t2', rfl⟩) (by rw [t4', t3'])) ?_
    refine sds_ifN (bd_conv (BW.bd (bw_or (bd_cmp (ed_var 14) ed_non c_isN) (fun _ => bw_or1 (bd_cmp (ed_call h_check_telling (hr.mono (by decide)) (ad_cons (ed_var 3) (ad_cons (ed_var 12) (ad_cons (ed_var 13) (ad_cons (ed_var 14) ad_nil)))) ⟨skyOf p, x1, x2, w, L, rfl, mx1, mx2, few, hw, t5, t6, t7, t8, t9, rfl⟩) ed_bl c_isntB)))) rfl) ?_
    refine sds_setLc (i := 15) [x1, x2] t3 (sh1 17) (fun y => [none, some (encL .int N), some (partsD p), some (.sky (skyOf p)), none, none, none, none, none, some (encL (encL t3) (lotsM (skyOf p))), some (encL t3 (stillM (skyOf p))), none, some (t3 x1), some (t3 x2), some (.tup [.int w, .tup (L.map t3)]), none, none, some (t3 y), none, none]) (fun y => true) (fun y => t2 (lawNeed p y L)) [("_law_one", 17)] (it_list (ed_lst (ad_cons (ed_var 12) (ad_cons (ed_var 13) ad_nil)))) nd (blkOk_by (N := ["_law_script", "_law_numbers_here", "_law_parts", "_law_sky_here", "_law_every", "_law_lot", "_law_k", "_law_bounds", "_law_motion_here", "_law_lots", "_law_still", "_law_sighting_here", "_law_first", "_law_second", "_law_told", "_law_needs", "_law_row_here", "_law_one", "_law_other", "_law_some"]) (sc := defScope s_law) (by decide +kernel)) (gb_name 17 nd) (fun a ha => rfl) (cd_nil cdn) (fun y hy ht s H C1 cl fp => (ed_call h_l_need (hr.mono (by decide)) (ad_cons (ed_var 2) (ad_cons (ed_var 17) (ad_cons (ed_ixT (ed_var 14) (by exact ed_int) rfl) ad_nil))) ⟨p, y, L, rfl, n0, n9, pfew, t5, rfl⟩)) (by simp) ?_
    refine sds_ifN (bd_conv (BW.bd (bw_or (bd_cmp (ed_ixLi (z := t2 (lawNeed p (if w = 0 then x1 else x2) L)) (ed_var 15) (ed_ixT (ed_var 14) (by exact ed_int) rfl) (LstD.lst _) (by omega) (by rcases hw with rfl | rfl <;> rfl)) (ed_tup (ad_cons ed_int (ad_cons ed_int ad_nil))) (c_neD (enc := t2) (b := (0, 0)) eqc_t2 hr.units)) (fun _ => bw_or1 (bd_cmp (ed_ixLi (z := t2 (lawNeed p (if w = 0 then x2 else x1) L)) (ed_var 15) (ed_sub ed_int (ed_ixT (ed_var 14) (by exact ed_int) rfl)) (LstD.lst _) (by omega) (by rcases hw with rfl | rfl <;> rfl)) (ed_tup (ad_cons ed_int (ad_cons ed_int ad_nil))) (c_eqD (enc := t2) (b := (0, 0)) eqc_t2 hr.units))))) (by rw [decide_eq_true t10, decide_eq_false t11]; rfl)) ?_
    exact sds_end (fun _ _ h => h) (by repeat (first | exact trivial | refine And.intro rfl ?_))
  · exact sds_end (fun _ _ h => h) (by repeat (first | exact trivial | refine And.intro rfl ?_))
  have s1 : 0 < (stillM (skyOf p)).length := List.length_pos_of_mem (zero_still sk)
  have stl : ((stillM (skyOf p)).map t3).length = (stillM (skyOf p)).length := List.length_map _
  obtain ⟨m, hm, hxm⟩ := pick t3 (L := stillM (skyOf p)) s1 (numM N 64) (n := (((stillM (skyOf p)).map t3).length : Int)) (by rw [stl])
  have mom := (still_mem.mp hm).1
  have q3 := mot_q mom
  unfold Q3 at q3
  refine sds_set (i := 7) (d := t2 (numM N 62 % 3, numM N 63 % 2)) nd (ed_tup (ad_cons (ed_mod (ed_toint T.int (ad_cons (ed_ixLi (ed_var 1) (ed_int (i := 62)) (LstD.lst _) (by decide) (num_get (i := 62) hN (by decide))) ad_nil)) ed_int (by omega)) (ad_cons (ed_mod (ed_toint T.int (ad_cons (ed_ixLi (ed_var 1) (ed_int (i := 63)) (LstD.lst _) (by decide) (num_get (i := 63) hN (by decide))) ad_nil)) ed_int (by omega)) ad_nil))) ?_
  refine sds_set (i := 8) (d := t3 m) nd (ed_ixLi (ed_var 10) (ed_mod (ed_toint T.int (ad_cons (ed_ixLi (ed_var 1) (ed_int (i := 64)) (LstD.lst _) (by decide) (num_get (i := 64) hN (by decide))) ad_nil)) (ed_len T.len (ad_cons (ed_var 10) ad_nil) (LenD.lst _)) (by rw [stl]; omega)) (LstD.lst _) (Int.emod_nonneg _ (by rw [stl]; omega)) hxm) ?_
  refine sds_for (lotsM (skyOf p)) (encL t3) (sh1 5) (fun pre => True) (fun pre => [none, some (encL .int N), some (partsD p), some (.sky (skyOf p)), none, none, none, some (t2 (numM N 62 % 3, numM N 63 % 2)), some (t3 m), some (encL (encL t3) (lotsM (skyOf p))), some (encL t3 (stillM (skyOf p))), none, none, none, none, none, none, none, none, none]) (fun pre => []) (it_list (ed_var 9)) (gt_name 5 nd) trivial (by repeat (first | exact trivial | refine And.intro rfl ?_)) rfl (fun pre a post hL hI E1 => ⟨_, rfl, ?_⟩) (fun hI => ?_)
  · have ha : a ∈ (lotsM (skyOf p)) := by rw [hL]; simp
    have ln := lot_len (s := (skyOf p)) n9 ha
    refine sds_ifN (bd_conv (bd_val (ed_any T.any (ad_cons (ed_lcB a t3 (sh1 17) (fun y => [none, some (encL .int N), some (partsD p), some (.sky (skyOf p)), none, some (encL t3 a), none, some (t2 (numM N 62 % 3, numM N 63 % 2)), some (t3 m), some (encL (encL t3) (lotsM (skyOf p))), some (encL t3 (stillM (skyOf p))), none, none, none, none, none, none, some (t3 y), none, none]) (fun y => false) [("_law_one", 17)] (it_list (ed_var 5)) nd (blkOk_by (N := ["_law_script", "_law_numbers_here", "_law_parts", "_law_sky_here", "_law_every", "_law_lot", "_law_k", "_law_bounds", "_law_motion_here", "_law_lots", "_law_still", "_law_sighting_here", "_law_first", "_law_second", "_law_told", "_law_needs", "_law_row_here", "_law_one", "_law_other", "_law_some"]) (sc := defScope s_law) (by decide +kernel)) (gb_name 17 nd) (fun a ha => rfl) (fun y hy s H C1 cl fp => ed_conv (ed_cmp (ed_call h_l_moved (hr.mono (by decide)) (ad_cons (ed_var 2) (ad_cons (ed_var 17) (ad_cons (ed_var 8) ad_nil))) ⟨p, y, m, rfl, n0, q3.1, q3.2, rfl⟩) (ed_var 5) (c_ninD eqc_t3 (LstD.lst _) (hu65 hr))) (congrArg Dat.bl (nin_no (show moveM p.side y m ∈ a from still_lot sk ha hy hm)))) (by omega)) ad_nil))) (any_no a)) ?_
    exact sds_end (fun _ _ h => ⟨trivial, h⟩) (by repeat (first | exact trivial | refine And.intro rfl ?_))
  refine sds_ifN (bd_conv (bd_cmp (ed_conv (z := encL t2 []) (ed_call h_telling_places (hr.mono (by decide)) (ad_cons (ed_var 3) (ad_cons (ed_var 8) (ad_cons (ed_ixT (ed_var 7) (by exact ed_int) rfl) (ad_cons (ed_ixT (ed_var 7) (by exact ed_int) rfl) ad_nil)))) ⟨skyOf p, m, _, _, (fun _ => false), rfl, sk, mom, tell_still sk hm (by omega) (by omega), rfl⟩) (by rw [List.filter_eq_nil_iff.mpr (fun _ _ h => by cases h)]; rfl)) (ed_lst ad_nil) (c_neD (enc := encL t2) (b := []) eqc_t2.lst hr.units)) (by rw [decide_eq_true rfl]; rfl)) ?_
  refine sds_ifR (BW.bd (bw_and (bd_cmp (ed_ixT (ed_var 2) (by exact ed_int) rfl) ed_int c_eq) (fun _ => bw_and1 (bd_cmp (ed_slT (zs := [.int p.blur, .int p.glare]) (ed_ixT (ed_var 2) (by exact ed_int) rfl) (pd_some (ed_int (i := 1))) (pd_some (ed_int (i := 3)))) (ed_tup (ad_cons ed_int (ad_cons ed_int ad_nil))) (c_eqD (enc := t2) (a := (p.blur, p.glare)) (b := (0, 0)) eqc_t2 hr.units))))) (fun h => ?_) (fun h => ?_)
  · rw [Bool.and_eq_true, decide_eq_true_eq, decide_eq_true_eq] at h
    have hb : (skyOf p).blur = 0 := congrArg (·.1) h.2
    have hg : (skyOf p).glare = 0 := congrArg (·.2) h.2
    refine sds_ifN (bd_conv (bd_cmp (ed_call h_hidden_motions (hr.mono (by decide)) (ad_cons (ed_var 3) (ad_cons ed_int (ad_cons ed_int ad_nil))) ⟨skyOf p, 0, 0, sharpV (skyOf p), rfl, sk, (fun mo h => tell_sharp sk hb hg h), rfl⟩) (ed_var 10) (c_neD (enc := encL t3) eqc_t3.lst hr.units)) (by rw [decide_eq_true (hid_still sk hb hg)]; rfl)) ?_
    refine sds_asg (ed_tup (ad_cons (ed_call h_l_attitude (hr.mono (by decide)) (ad_cons (ed_var 2) (ad_cons (ed_var 1) (ad_cons ed_int ad_nil))) ⟨p, N, 65, rfl, n0, hN, by decide, by decide, rfl⟩) (ad_cons (ed_call h_l_attitude (hr.mono (by decide)) (ad_cons (ed_var 2) (ad_cons (ed_var 1) (ad_cons ed_int ad_nil))) ⟨p, N, 66, rfl, n0, hN, by decide, by decide, rfl⟩) ad_nil))) (gd_tup (gds_cons (gd_name 17 nd) (gds_cons (gd_name 18 nd) gds_nil))) ?_
    have ma := lawAtt_ok n0 N 65
    have mb := lawAtt_ok n0 N 66
    generalize lawAtt p N 65 = a at *
    generalize lawAtt p N 66 = b at *
    obtain ⟨m2, hm2, hxm2⟩ := pick t3 (L := stillM (skyOf p)) s1 (numM N 68) (n := (((stillM (skyOf p)).map t3).length : Int)) (by rw [stl])
    have q4 := mot_q (still_mem.mp hm2).1
    unfold Q3 at q4
    obtain ⟨c, hc, mc⟩ : ∃ c, c = (if numM N 67 % 2 = 0 then moveM p.side a m2 else b) ∧ MotOk p.side c := ⟨_, rfl, by split; exact moveM_ok n0 a m2; exact mb⟩
    refine sds_ifJ [none, some (encL .int N), some (partsD p), some (.sky (skyOf p)), none, none, none, none, none, some (encL (encL t3) (lotsM (skyOf p))), some (encL t3 (stillM (skyOf p))), none, none, none, none, none, none, some (t3 a), some (t3 c), none] [] (bd_cmp (ed_mod (ed_toint T.int (ad_cons (ed_ixLi (ed_var 1) (ed_int (i := 67)) (LstD.lst _) (by decide) (num_get (i := 67) hN (by decide))) ad_nil)) ed_int (by omega)) ed_int c_eq) (fun h => ?_) (fun h => ?_) ?_
    · refine sds_set (i := 18) (d := t3 c) nd (ed_conv (ed_call h_l_moved (hr.mono (by decide)) (ad_cons (ed_var 2) (ad_cons (ed_var 17) (ad_cons (ed_ixLi (ed_var 10) (ed_mod (ed_toint T.int (ad_cons (ed_ixLi (ed_var 1) (ed_int (i := 68)) (LstD.lst _) (by decide) (num_get (i := 68) hN (by decide))) ad_nil)) (ed_len T.len (ad_cons (ed_var 10) ad_nil) (LenD.lst _)) (by rw [stl]; omega)) (LstD.lst _) (Int.emod_nonneg _ (by rw [stl]; omega)) hxm2) ad_nil))) ⟨p, a, m2, rfl, n0, q4.1, q4.2, rfl⟩) (by rw [hc, if_pos (of_decide_eq_true h)])) ?_
      exact sds_end (fun _ _ h => h) (by repeat (first | exact trivial | refine And.intro rfl ?_))
    · rw [if_neg (of_decide_eq_false h)] at hc
      subst hc
      exact sds_end (fun _ _ h => h) (by repeat (first | exact trivial | refine And.intro rfl ?_))
    refine sds_setL 16 nd (edl_call h_telling_row (hr.mono (by decide)) (ad_cons (ed_var 3) (ad_cons (ed_var 17) (ad_cons (ed_var 18) (ad_cons (ed_lst (ad_cons (ed_tup (ad_cons ed_int (ad_cons ed_int (ad_cons ed_int ad_nil)))) (ad_cons (ed_tup (ad_cons ed_int (ad_cons ed_int (ad_cons ed_int ad_nil)))) (ad_cons (ed_tup (ad_cons ed_int (ad_cons ed_int (ad_cons ed_int ad_nil)))) ad_nil)))) (ad_cons ed_int (ad_cons ed_int ad_nil)))))) ⟨skyOf p, 0, 0, sharpV (skyOf p), a, c, cmds3, rfl, rfl, sk, ma, mc, cmds3_ok n4, tell_sharp sk hb hg (betw_ok n0 a c), rfl⟩ (fun d O' h => by rw [h.1])) fun d O' h => ?_
    obtain ⟨rfl, hrow⟩ := h
    obtain ⟨l0, hl0, hal, hx0⟩ := still_first sk (a := a) ma
    have sll := stillLots_len (s := (skyOf p)) n0 n9
    refine sds_set (i := 5) (d := encL t3 l0) nd (ed_ixLi (ed_lcF (stillLotsM (skyOf p)) (encL t3) (sh1 19) (fun l => [none, some (encL .int N), some (partsD p), some (.sky (skyOf p)), none, none, none, none, none, some (encL (encL t3) (lotsM (skyOf p))), some (encL t3 (stillM (skyOf p))), none, none, none, none, none, some (d), some (t3 a), some (t3 c), some (encL t3 l)]) (fun l => decide (a ∈ l)) [("_law_some", 19)] (it_list (ed_call h_still_lots (hr.mono (by decide)) (ad_cons (ed_var 3) ad_nil) ⟨skyOf p, rfl, n0, n9, few, rfl⟩)) nd (blkOk_by (N := ["_law_script", "_law_numbers_here", "_law_parts", "_law_sky_here", "_law_every", "_law_lot", "_law_k", "_law_bounds", "_law_motion_here", "_law_lots", "_law_still", "_law_sighting_here", "_law_first", "_law_second", "_law_told", "_law_needs", "_law_row_here", "_law_one", "_law_other", "_law_some"]) (sc := defScope s_law) (by decide +kernel)) (gb_name 19 nd) (fun a ha => rfl) (cd_one (cs (stillLotsM (skyOf p)) fun l hl s H C1 cl fp => bd_conv (bd_cmp (ed_var 17) (ed_var 19) (c_inD eqc_t3 (LstD.lst _) (hu65 hr))) (pdec _ _))) (fun l hl s H C1 cl fp => ed_var 19) (by omega)) (ed_int (i := 0)) (LstD.lst _) (by decide) hx0) ?_
    have rl := row_lot sk hb hg ma mc hl0 hal hrow
    refine sds_ret (ed_conv (ed_cmp (ed_cmp (ed_var 16) ed_non c_isN) (ed_cmp (ed_var 18) (ed_var 5) (c_inD (a := c) (xs := l0) eqc_t3 (LstD.lst _) (hu65 hr))) c_eqB) (z := .bl true) ?_) rfl
    rw [rl]
    congr 1
    exact decide_eq_true (pdec _ _)
  · exact sds_ret ed_bl rfl
end
end Sw
set_option maxHeartbeats 0
/-! The head: facts by names, one run of the top (printed by genhead.py). -/
namespace Sw
open PySem PySem.Spec PyProof.Rows L2
/-! a property's getter -/
structure PropD where
  cls : Str
  name : Str
  qual : Str
  params : Arguments
  body : List Stmt
  scope : Scope
def pAd (K : PySem.W.Frag) (c f : Str) : Addr := match PySem.W.findIn K (.ref (He.ga K c)) f with
  | some (some (.ref p)) => p
  | _ => 0
def gAd (K : PySem.W.Frag) (c f : Str) : Addr := match PySem.W.recIn K (pAd K c f) "property" with
  | some (.ref g :: _) => g
  | _ => 0
def fnA (K : PySem.W.Frag) (a : Addr) : He.FnW := match K.lookup a with
  | some ⟨_, _, .func fd, _⟩ => some (fd.name, fd.qualname, fd.params, fd.body, fd.scope, fd.globals, fd.closure, fd.builtins)
  | _ => none
def PropD.val (d : PropD) : He.FnW := some (d.name, d.qual, d.params, .stmts d.body, d.scope, mainGlobals, [], builtinsNs)
def PropD.ok (K : PySem.W.Frag) (d : PropD) : Bool :=
  He.eqO (PySem.W.findIn K (.ref (He.ga K d.cls)) d.name) (some (some (.ref (pAd K d.cls d.name)))) &&
  (decide (PySem.W.specialIn K (.ref (pAd K d.cls d.name)) "__get__" = some (some (.builtin "property.__get__"))) &&
  (decide (PySem.W.takesIn K (.ref (pAd K d.cls d.name)) = some true) &&
  ((match PySem.W.recIn K (pAd K d.cls d.name) "property" with
    | some (.ref g :: _) => decide (g = gAd K d.cls d.name)
    | _ => false) &&
  (PySem.W.keepIn K (.ref (gAd K d.cls d.name)) &&
  (match K.lookup (gAd K d.cls d.name) with
    | some ⟨_, _, .func fd, _⟩ => PySem.W.codeIn K fd.code d.qual && (He.dflB K fd.defaults [] && He.kwdB K fd.kwdefaults [])
    | _ => false)))))
theorem PropD.prop {K : PySem.W.Frag} {d : PropD} (c : d.ok K = true) : PropOf K (He.ga K d.cls) d.name (pAd K d.cls d.name) (gAd K d.cls d.name) := by
  obtain ⟨c1, c⟩ := He.ba c
  obtain ⟨c2, c⟩ := He.ba c
  obtain ⟨c3, c⟩ := He.ba c
  obtain ⟨c4, c⟩ := He.ba c
  refine ⟨He.eqO_ok c1, of_decide_eq_true c2, of_decide_eq_true c3, ?_⟩
  split at c4
  · rename_i g rest e
    exact ⟨rest, by rw [e, of_decide_eq_true c4]⟩
  · cases c4
theorem PropD.fun_ {K : PySem.W.Frag} {d : PropD} (e : fnA K (gAd K d.cls d.name) = d.val) (c : d.ok K = true) : ∃ fd, FunD K d.name d.qual d.params d.body d.scope [] [] (gAd K d.cls d.name) fd := by
  obtain ⟨c1, c⟩ := He.ba c
  obtain ⟨c2, c⟩ := He.ba c
  obtain ⟨c3, c⟩ := He.ba c
  obtain ⟨c4, c⟩ := He.ba c
  obtain ⟨kp, c⟩ := He.ba c
  unfold fnA at e
  split at c
  · rename_i oc od fd sl q
    rw [q] at e
    obtain ⟨n1, n2, n3, n4, n5, n6, n7, n8, n9, n10, n11, n12, n13, n14, n15⟩ := fd
    have e2 : (some (n1, n2, n3, n4, n5, n6, n7, n15) : He.FnW) = some (d.name, d.qual, d.params, .stmts d.body, d.scope, mainGlobals, [], builtinsNs) := e
    simp only [Option.some.injEq, Prod.mk.injEq] at e2
    obtain ⟨h1, h2, h3, h4, h5, h6, h7, h8⟩ := e2
    subst h1 h2 h3 h4 h5 h6 h7 h8
    obtain ⟨k1, k2⟩ := He.ba c
    obtain ⟨k3, k4⟩ := He.ba k2
    exact ⟨_, ⟨oc, od, n8, n9, n10, n11, n12, n13, n14, sl, rfl, q, k1, He.dflB_ok k3, He.kwdB_ok k4⟩, kp⟩
  · cases c
/-! the hook -/
abbrev AlS : Type := He.AlD × (Bool × List He.FnW)
def refs1 (g : Addr → Option Obj) (as : List Addr) : List Addr := as.flatMap fun a => match g a with
  | some o => He.refsD o
  | none => []
def lev (g : Addr → Option Obj) : Nat → List Addr → List Addr
  | 0, as => as
  | n + 1, as => as ++ lev g n (refs1 g as)
def obsS (n : Nat) (fa : List He.Fa) (fn : List He.DefD) (ps : List PropD) (g : Addr → Option Obj) : AlS :=
  let K := He.frG g (lev g n [mainGlobals])
  (He.obsD fa fn K, ps.all fun d => d.ok K, ps.map fun d => fnA K (gAd K d.cls d.name))
def valS (fn : List He.DefD) (ps : List PropD) : AlS := (He.valD fn, true, ps.map PropD.val)
structure SaysS (fa : List He.Fa) (fn : List He.DefD) (ps : List PropD) (K : PySem.W.Frag) : Prop where
  d : He.SaysD fa fn K
  ok : (ps.all fun d => d.ok K) = true
  fns : (ps.map fun d => fnA K (gAd K d.cls d.name)) = ps.map PropD.val
def hookS (n : Nat) (fa : List He.Fa) (fn : List He.DefD) (ps : List PropD) : PySem.W.Hook where
  α := AlS
  obs := fun s => obsS n fa fn ps s.heap.get?
  val := fun _ => valS fn ps
  says := fun _ h => ∃ K : PySem.W.Frag, K.In h ∧ SaysS fa fn ps K
  of := fun _ _ e => ⟨_, He.frG_in, ⟨congrArg (fun z : AlS => z.1) e, congrArg (fun z : AlS => z.2.1) e, congrArg (fun z : AlS => z.2.2) e⟩⟩
  keeps := fun _ _ _ ⟨K, hK, c⟩ k => ⟨K, PySem.W.Frag.In.keeps hK k, c⟩
theorem obsS_eq {n : Nat} {fa : List He.Fa} {fn : List He.DefD} {ps : List PropD} {g : Addr → Option Obj} {s : Shared} (h : ∀ a, g a = s.heap.get? a) : obsS n fa fn ps g = (hookS n fa fn ps).obs s := by
  have e : g = s.heap.get? := funext h
  rw [e] <;> rfl
theorem SaysS.prop {fa : List He.Fa} {fn : List He.DefD} {ps : List PropD} {K : PySem.W.Frag} (c : SaysS fa fn ps K) (i : Nat) {d : PropD} (h : ps[i]? = some d := by rfl) :
    PropOf K (He.ga K d.cls) d.name (pAd K d.cls d.name) (gAd K d.cls d.name) ∧ ∃ fd, FunD K d.name d.qual d.params d.body d.scope [] [] (gAd K d.cls d.name) fd := by
  have k := List.all_eq_true.mp c.ok d (List.mem_of_getElem? h)
  have e : (ps.map fun d => fnA K (gAd K d.cls d.name))[i]? = (ps.map PropD.val)[i]? := by rw [c.fns]
  rw [List.getElem?_map, List.getElem?_map, h] at e
  exact ⟨PropD.prop k, PropD.fun_ (Option.some.inj e) k⟩
def hfn0 : List He.DefD := [⟨("is_camera", none), "is_camera", "is_camera", defArgs s_is_camera, defBody s_is_camera, defScope s_is_camera, [], []⟩,
  ⟨("is_star", none), "is_star", "is_star", defArgs s_is_star, defBody s_is_star, defScope s_is_star, [], []⟩,
  ⟨("moved_place", none), "moved_place", "moved_place", defArgs s_moved_place, defBody s_moved_place, defScope s_moved_place, [], []⟩,
  ⟨("is_motion", none), "is_motion", "is_motion", defArgs s_is_motion, defBody s_is_motion, defScope s_is_motion, [], []⟩,
  ⟨("is_spot", none), "is_spot", "is_spot", defArgs s_is_spot, defBody s_is_spot, defScope s_is_spot, [], []⟩,
  ⟨("check_sighting", none), "check_sighting", "check_sighting", defArgs s_check_sighting, defBody s_check_sighting, defScope s_check_sighting, [], []⟩,
  ⟨("attitudes", none), "attitudes", "attitudes", defArgs s_attitudes, defBody s_attitudes, defScope s_attitudes, [], []⟩,
  ⟨("motions", none), "motions", "motions", defArgs s_motions, defBody s_motions, defScope s_motions, [], []⟩,
  ⟨("all_triples", none), "all_triples", "all_triples", defArgs s_all_triples, defBody s_all_triples, defScope s_all_triples, [], []⟩,
  ⟨("check_attitude", none), "check_attitude", "check_attitude", defArgs s_check_attitude, defBody s_check_attitude, defScope s_check_attitude, [], []⟩,
  ⟨("check_command", none), "check_command", "check_command", defArgs s_check_command, defBody s_check_command, defScope s_check_command, [], []⟩,
  ⟨("check_motion", none), "check_motion", "check_motion", defArgs s_check_motion, defBody s_check_motion, defScope s_check_motion, [], []⟩,
  ⟨("turned", none), "turned", "turned", defArgs s_turned, defBody s_turned, defScope s_turned, [], []⟩,
  ⟨("nearest", none), "nearest", "nearest", defArgs s_nearest, defBody s_nearest, defScope s_nearest, [], []⟩,
  ⟨("offset_of", none), "offset_of", "offset_of", defArgs s_offset_of, defBody s_offset_of, defScope s_offset_of, [], []⟩,
  ⟨("offset", none), "offset", "offset", defArgs s_offset, defBody s_offset, defScope s_offset, [], []⟩,
  ⟨("within", none), "within", "within", defArgs s_within, defBody s_within, defScope s_within, [], []⟩,
  ⟨("seen_stars", none), "seen_stars", "seen_stars", defArgs s_seen_stars, defBody s_seen_stars, defScope s_seen_stars, [], []⟩,
  ⟨("sure_stars", none), "sure_stars", "sure_stars", defArgs s_sure_stars, defBody s_sure_stars, defScope s_sure_stars, [], []⟩,
  ⟨("commanded", none), "commanded", "commanded", defArgs s_commanded, defBody s_commanded, defScope s_commanded, [], []⟩]
def hfn1 : List He.DefD := [⟨("moved", none), "moved", "moved", defArgs s_moved, defBody s_moved, defScope s_moved, [], []⟩,
  ⟨("motion_between", none), "motion_between", "motion_between", defArgs s_motion_between, defBody s_motion_between, defScope s_motion_between, [], []⟩,
  ⟨("reversed_motion", none), "reversed_motion", "reversed_motion", defArgs s_reversed_motion, defBody s_reversed_motion, defScope s_reversed_motion, [], []⟩,
  ⟨("give", none), "give", "give", defArgs s_give, defBody s_give, defScope s_give, [], []⟩,
  ⟨("extend", none), "extend", "extend", defArgs s_extend, defBody s_extend, defScope s_extend, [], []⟩,
  ⟨("covering", none), "covering", "covering", defArgs s_covering, defBody s_covering, defScope s_covering, [], []⟩,
  ⟨("most", none), "most", "most", defArgs s_most, defBody s_most, defScope s_most, [], []⟩,
  ⟨("fitting", none), "fitting", "fitting", defArgs s_fitting, defBody s_fitting, defScope s_fitting, [], []⟩,
  ⟨("table_in", none), "table_in", "table_in", defArgs s_table_in, defBody s_table_in, defScope s_table_in, [], []⟩,
  ⟨("need_of", none), "need_of", "need_of", defArgs s_need_of, defBody s_need_of, defScope s_need_of, [], []⟩,
  ⟨("need_in", none), "need_in", "need_in", defArgs s_need_in, defBody s_need_in, defScope s_need_in, [], []⟩,
  ⟨("check_both", none), "check_both", "check_both", defArgs s_check_both, defBody s_check_both, defScope s_check_both, [], []⟩,
  ⟨("need", none), "need", "need", defArgs s_need, defBody s_need, defScope s_need, [], []⟩,
  ⟨("sees", none), "sees", "sees", defArgs s_sees, defBody s_sees, defScope s_sees, [], []⟩,
  ⟨("alike_lots", none), "alike_lots", "alike_lots", defArgs s_alike_lots, defBody s_alike_lots, defScope s_alike_lots, [], []⟩,
  ⟨("spots_of", none), "spots_of", "spots_of", defArgs s_spots_of, defBody s_spots_of, defScope s_spots_of, [], []⟩,
  ⟨("lies_in", none), "lies_in", "lies_in", defArgs s_lies_in, defBody s_lies_in, defScope s_lies_in, [], []⟩,
  ⟨("spot_outside", none), "spot_outside", "spot_outside", defArgs s_spot_outside, defBody s_spot_outside, defScope s_spot_outside, [], []⟩,
  ⟨("least_unlike", none), "least_unlike", "least_unlike", defArgs s_least_unlike, defBody s_least_unlike, defScope s_least_unlike, [], []⟩,
  ⟨("showing_outside", none), "showing_outside", "showing_outside", defArgs s_showing_outside, defBody s_showing_outside, defScope s_showing_outside, [], []⟩]
def hfn2 : List He.DefD := [⟨("count_outside", none), "count_outside", "count_outside", defArgs s_count_outside, defBody s_count_outside, defScope s_count_outside, [], []⟩,
  ⟨("telling_sighting", none), "telling_sighting", "telling_sighting", defArgs s_telling_sighting, defBody s_telling_sighting, defScope s_telling_sighting, [], []⟩,
  ⟨("check_telling", none), "check_telling", "check_telling", defArgs s_check_telling, defBody s_check_telling, defScope s_check_telling, [], []⟩,
  ⟨("still_motions", none), "still_motions", "still_motions", defArgs s_still_motions, defBody s_still_motions, defScope s_still_motions, [], []⟩,
  ⟨("still_lots", none), "still_lots", "still_lots", defArgs s_still_lots, defBody s_still_lots, defScope s_still_lots, [], []⟩,
  ⟨("sight", none), "sight", "sight", defArgs s_sight, defBody s_sight, defScope s_sight, [], []⟩,
  ⟨("link_table", none), "link_table", "link_table", defArgs s_link_table, defBody s_link_table, defScope s_link_table, [], []⟩,
  ⟨("lack_by", none), "lack_by", "lack_by", defArgs s_lack_by, defBody s_lack_by, defScope s_lack_by, [], []⟩,
  ⟨("unlikeness_by", none), "unlikeness_by", "unlikeness_by", defArgs s_unlikeness_by, defBody s_unlikeness_by, defScope s_unlikeness_by, [], []⟩,
  ⟨("unlikeness", none), "unlikeness", "unlikeness", defArgs s_unlikeness, defBody s_unlikeness, defScope s_unlikeness, [], []⟩,
  ⟨("are_confusable", none), "are_confusable", "are_confusable", defArgs s_are_confusable, defBody s_are_confusable, defScope s_are_confusable, [], []⟩,
  ⟨("check_commands", none), "check_commands", "check_commands", defArgs s_check_commands, defBody s_check_commands, defScope s_check_commands, [], []⟩,
  ⟨("ways_from", none), "ways_from", "ways_from", defArgs s_ways_from, defBody s_ways_from, defScope s_ways_from, [], []⟩,
  ⟨("row_along", none), "row_along", "row_along", defArgs s_row_along, defBody s_row_along, defScope s_row_along, [], []⟩,
  ⟨("check_two", none), "check_two", "check_two", defArgs s_check_two, defBody s_check_two, defScope s_check_two, [], []⟩,
  ⟨("row_to_teller", none), "row_to_teller", "row_to_teller", defArgs s_row_to_teller, defBody s_row_to_teller, defScope s_row_to_teller, [], []⟩,
  ⟨("telling_row", none), "telling_row", "telling_row", defArgs s_telling_row, defBody s_telling_row, defScope s_telling_row, [], []⟩,
  ⟨("places_of", none), "places_of", "places_of", defArgs s_places_of, defBody s_places_of, defScope s_places_of, [], []⟩,
  ⟨("telling_places", none), "telling_places", "telling_places", defArgs s_telling_places, defBody s_telling_places, defScope s_telling_places, [], []⟩,
  ⟨("is_hidden", none), "is_hidden", "is_hidden", defArgs s_is_hidden, defBody s_is_hidden, defScope s_is_hidden, [], []⟩]
def hfn3 : List He.DefD := [⟨("hidden_motions", none), "hidden_motions", "hidden_motions", defArgs s_hidden_motions, defBody s_hidden_motions, defScope s_hidden_motions, [], []⟩,
  ⟨("_law_row", none), "_law_row", "_law_row", defArgs s__law_row, defBody s__law_row, defScope s__law_row, [], []⟩,
  ⟨("_law_numbers", none), "_law_numbers", "_law_numbers", defArgs s__law_numbers, defBody s__law_numbers, defScope s__law_numbers, [], []⟩,
  ⟨("_law_turned", none), "_law_turned", "_law_turned", defArgs s__law_turned, defBody s__law_turned, defScope s__law_turned, [], []⟩,
  ⟨("_law_near", none), "_law_near", "_law_near", defArgs s__law_near, defBody s__law_near, defScope s__law_near, [], []⟩,
  ⟨("_law_sky", none), "_law_sky", "_law_sky", defArgs s__law_sky, defBody s__law_sky, defScope s__law_sky, [], []⟩,
  ⟨("_law_motion", none), "_law_motion", "_law_motion", defArgs s__law_motion, defBody s__law_motion, defScope s__law_motion, [], []⟩,
  ⟨("_law_star", none), "_law_star", "_law_star", defArgs s__law_star, defBody s__law_star, defScope s__law_star, [], []⟩,
  ⟨("_law_made", none), "_law_made", "_law_made", defArgs s__law_made, defBody s__law_made, defScope s__law_made, [], []⟩,
  ⟨("_law_all", none), "_law_all", "_law_all", defArgs s__law_all, defBody s__law_all, defScope s__law_all, [], []⟩,
  ⟨("_law_attitude", none), "_law_attitude", "_law_attitude", defArgs s__law_attitude, defBody s__law_attitude, defScope s__law_attitude, [], []⟩,
  ⟨("_law_offset", none), "_law_offset", "_law_offset", defArgs s__law_offset, defBody s__law_offset, defScope s__law_offset, [], []⟩,
  ⟨("_law_seen", none), "_law_seen", "_law_seen", defArgs s__law_seen, defBody s__law_seen, defScope s__law_seen, [], []⟩,
  ⟨("_law_close", none), "_law_close", "_law_close", defArgs s__law_close, defBody s__law_close, defScope s__law_close, [], []⟩,
  ⟨("_law_give", none), "_law_give", "_law_give", defArgs s__law_give, defBody s__law_give, defScope s__law_give, [], []⟩,
  ⟨("_law_most", none), "_law_most", "_law_most", defArgs s__law_most, defBody s__law_most, defScope s__law_most, [], []⟩,
  ⟨("_law_need", none), "_law_need", "_law_need", defArgs s__law_need, defBody s__law_need, defScope s__law_need, [], []⟩,
  ⟨("_law_moved", none), "_law_moved", "_law_moved", defArgs s__law_moved, defBody s__law_moved, defScope s__law_moved, [], []⟩,
  ⟨("_law_spot", none), "_law_spot", "_law_spot", defArgs s__law_spot, defBody s__law_spot, defScope s__law_spot, [], []⟩,
  ⟨("_law_sighting", none), "_law_sighting", "_law_sighting", defArgs s__law_sighting, defBody s__law_sighting, defScope s__law_sighting, [], []⟩]
def hfn4 : List He.DefD := [⟨("law", none), "law", "law", defArgs s_law, defBody s_law, defScope s_law, [], []⟩,
  ⟨("Sky", some "__init__"), "__init__", "Sky.__init__", defArgs s_Sky_init, defBody s_Sky_init, defScope s_Sky_init, [], []⟩,
  ⟨("Sky", some "star_at"), "star_at", "Sky.star_at", defArgs s_Sky_star_at, defBody s_Sky_star_at, defScope s_Sky_star_at, [], []⟩,
  ⟨("Chart", some "__init__"), "__init__", "Chart.__init__", defArgs s_Chart_init, defBody s_Chart_init, defScope s_Chart_init, [], []⟩,
  ⟨("Chart", some "tells"), "tells", "Chart.tells", defArgs s_Chart_tells, defBody s_Chart_tells, defScope s_Chart_tells, [], []⟩]
def hfn : List He.DefD := hfn0 ++ (hfn1 ++ (hfn2 ++ (hfn3 ++ (hfn4))))
def hps : List PropD := [⟨"Sky", "side", "Sky.side", defArgs s_Sky_side, defBody s_Sky_side, defScope s_Sky_side⟩,
  ⟨"Sky", "stars", "Sky.stars", defArgs s_Sky_stars, defBody s_Sky_stars, defScope s_Sky_stars⟩,
  ⟨"Sky", "reach", "Sky.reach", defArgs s_Sky_reach, defBody s_Sky_reach, defScope s_Sky_reach⟩,
  ⟨"Sky", "blur", "Sky.blur", defArgs s_Sky_blur, defBody s_Sky_blur, defScope s_Sky_blur⟩,
  ⟨"Sky", "glare", "Sky.glare", defArgs s_Sky_glare, defBody s_Sky_glare, defScope s_Sky_glare⟩,
  ⟨"Sky", "limit", "Sky.limit", defArgs s_Sky_limit, defBody s_Sky_limit, defScope s_Sky_limit⟩]
def hfa0 : List He.Fa := [.glo "is_camera",
  .glo "is_star",
  .glo "moved_place",
  .glo "is_motion",
  .glo "is_spot",
  .glo "check_sighting",
  .glo "attitudes",
  .glo "motions",
  .glo "all_triples",
  .glo "check_attitude",
  .glo "check_command",
  .glo "check_motion",
  .glo "turned",
  .glo "nearest",
  .glo "offset_of",
  .glo "offset",
  .glo "within",
  .glo "seen_stars",
  .glo "sure_stars",
  .glo "commanded",
  .glo "moved",
  .glo "motion_between",
  .glo "reversed_motion",
  .glo "give",
  .glo "extend"]
def hfa1 : List He.Fa := [.glo "covering",
  .glo "most",
  .glo "fitting",
  .glo "table_in",
  .glo "need_of",
  .glo "need_in",
  .glo "check_both",
  .glo "need",
  .glo "sees",
  .glo "alike_lots",
  .glo "spots_of",
  .glo "lies_in",
  .glo "spot_outside",
  .glo "least_unlike",
  .glo "showing_outside",
  .glo "count_outside",
  .glo "telling_sighting",
  .glo "check_telling",
  .glo "still_motions",
  .glo "still_lots",
  .glo "sight",
  .glo "link_table",
  .glo "lack_by",
  .glo "unlikeness_by",
  .glo "unlikeness"]
def hfa2 : List He.Fa := [.glo "are_confusable",
  .glo "check_commands",
  .glo "ways_from",
  .glo "row_along",
  .glo "check_two",
  .glo "row_to_teller",
  .glo "telling_row",
  .glo "places_of",
  .glo "telling_places",
  .glo "is_hidden",
  .glo "hidden_motions",
  .glo "_law_row",
  .glo "_law_numbers",
  .glo "_law_turned",
  .glo "_law_near",
  .glo "_law_sky",
  .glo "_law_motion",
  .glo "_law_star",
  .glo "_law_made",
  .glo "_law_all",
  .glo "_law_attitude",
  .glo "_law_offset",
  .glo "_law_seen",
  .glo "_law_close",
  .glo "_law_give"]
def hfa3 : List He.Fa := [.glo "_law_most",
  .glo "_law_need",
  .glo "_law_moved",
  .glo "_law_spot",
  .glo "_law_sighting",
  .glo "law",
  .glo "Sky",
  .glo "Chart",
  .glo "InvalidSighting",
  .free "len",
  .free "range",
  .free "max",
  .free "min",
  .free "abs",
  .free "sorted",
  .free "enumerate",
  .free "zip",
  .free "all",
  .free "any",
  .free "tuple",
  .free "list",
  .free "int",
  .free "set",
  .int "MOST_STARS" 20,
  .int "MOST_SPOTS" 60]
def hfa4 : List He.Fa := [.cls "Sky",
  .cls "Chart",
  .mkr "Sky",
  .mkr "Chart",
  .meth "Sky" "star_at",
  .meth "Chart" "tells",
  .noat "Sky" "_side",
  .noat "Sky" "_stars",
  .noat "Sky" "_camera",
  .noat "Chart" "_sky",
  .noat "Chart" "_bounds",
  .noat "Chart" "_found"]
def hfa : List He.Fa := hfa0 ++ (hfa1 ++ (hfa2 ++ (hfa3 ++ (hfa4))))
def hloose0 : List Str := ["_wall", "__name__", "SkyError", "InvalidSky", "InvalidSighting", "InvalidAttitude", "InvalidCommand", "InvalidMotion", "UnknownStar", "MOST_STARS", "MOST_SPOTS", "is_camera", "is_star", "moved_place", "is_motion", "Sky", "is_spot", "check_sighting", "attitudes", "motions"]
def hloose1 : List Str := ["all_triples", "check_attitude", "check_command", "check_motion", "turned", "nearest", "offset_of", "offset", "within", "seen_stars", "sure_stars", "commanded", "moved", "motion_between", "reversed_motion", "give", "extend", "covering", "most", "fitting"]
def hloose2 : List Str := ["table_in", "need_of", "need_in", "check_both", "need", "sees", "alike_lots", "spots_of", "lies_in", "spot_outside", "least_unlike", "showing_outside", "count_outside", "telling_sighting", "check_telling", "still_motions", "still_lots", "sight", "link_table", "lack_by"]
def hloose3 : List Str := ["unlikeness_by", "unlikeness", "are_confusable", "check_commands", "ways_from", "row_along", "Chart", "check_two", "row_to_teller", "telling_row", "places_of", "telling_places", "is_hidden", "hidden_motions", "_law_row", "_law_numbers", "_law_turned", "_law_near", "_law_sky", "_law_motion"]
def hloose4 : List Str := ["_law_star", "_law_made", "_law_all", "_law_attitude", "_law_offset", "_law_seen", "_law_close", "_law_give", "_law_most", "_law_need", "_law_moved", "_law_spot", "_law_sighting"]
def hloose : List Str := hloose0 ++ (hloose1 ++ (hloose2 ++ (hloose3 ++ (hloose4))))
abbrev R : PySem.W.OpenRow := PySem.W.OpenLaw.row PySem.Challenge.rw_starward_k87_whole_alike_and_still
abbrev hk : PySem.W.Hook := hookS 5 hfa hfn hps
def ob (s : PySem.W.SharedT) : AlS := obsS 5 hfa hfn hps (HandSHeadRun.getT s)
theorem ob_eq (s : PySem.W.SharedT) : ob s = hk.obs s.abs := obsS_eq (HandSHeadRun.getT_eq s)
theorem run (w : World) : HandSHeadRun.RunEq R (PySem.W.view R.prog [102]) hk ob 7000 hloose w := by
  intro os
  kernel_rfl
end Sw
set_option maxHeartbeats 1000000
/-! The join: the head's facts, the walks (printed by S12.py). -/
namespace Sw
open PySem PySem.Spec PyProof.Rows L2
theorem dfn_of {K : PySem.W.Frag} {h : Heap} {mg : Str → Option Value} (X : K.In h) (G : h.Ns mainGlobals mg) (c : He.SaysD hfa hfn K) (i j : Nat) (n : Str) (st : Stmt) (h1 : hfn[i]? = some ⟨(n, none), n, n, defArgs st, defBody st, defScope st, [], []⟩) (h2 : hfa[j]? = some (.glo n)) : Dfn K mg n st := by
  obtain ⟨fd, F⟩ := c.def_ i h1
  exact ⟨_, fd, F, He.glo_ok X G (c.fact j h2)⟩
theorem prp_of {P : Program} {w : World} {K : PySem.W.Frag} {mg : Str → Option Value} {base : Heap} (c : SaysS hfa hfn hps K) (i : Nat) (d : PropD) (h : hps[i]? = some d) (g : SkyD → Dat) (hf : ∀ {f : Addr} {fd : FuncData}, FunD K d.name d.qual d.params d.body d.scope [] [] f fd → FnOk P w K mg base CX0 1 f fd ["self"] (spP K (He.ga K d.cls) (rG g)))
    (hb : ∀ (kV doc pm : Value) (an : Option Addr) (cdv ct : Value) (us : List Value), us.length = ["self"].length → bindArgs (PySem.W.fnOf d.name d.qual d.params d.body d.scope .none kV doc pm an cdv ct) ⟨us, []⟩ = pure ((["self"] : List Str).zip us)) : Prp P w K mg base (He.ga K d.cls) d.name g := by
  obtain ⟨p, fd, F⟩ := c.prop i h
  exact ⟨_, _, fd, p, hf F, F.bindsN hb⟩
abbrev cS (K : PySem.W.Frag) : Addr := He.ga K "Sky"
abbrev cC (K : PySem.W.Frag) : Addr := He.ga K "Chart"
theorem law_fn {P : Program} {w : World} {K : PySem.W.Frag} {h : Heap} {mg : Str → Option Value} {f0 : Addr} {fd0 : FuncData} (X : K.In h) (G : h.Ns mainGlobals mg) (c : SaysS hfa hfn hps K) (base : Heap) (F0 : FunD K "law" "law" (defArgs s_law) (defBody s_law) (defScope s_law) [] [] f0 fd0) : FnOk P w K mg base CX0 64 f0 fd0 ["_law_script"] (spP K (cS K) r_law) := by
  have T : Tx mg := ⟨He.free_ok X G (c.d.fact 88 (f := .free "abs") rfl), He.free_ok X G (c.d.fact 86 (f := .free "max") rfl), He.free_ok X G (c.d.fact 87 (f := .free "min") rfl), He.free_ok X G (c.d.fact 96 (f := .free "int") rfl), He.free_ok X G (c.d.fact 84 (f := .free "len") rfl), He.free_ok X G (c.d.fact 89 (f := .free "sorted") rfl), He.free_ok X G (c.d.fact 95 (f := .free "list") rfl), He.free_ok X G (c.d.fact 94 (f := .free "tuple") rfl), He.free_ok X G (c.d.fact 85 (f := .free "range") rfl), He.free_ok X G (c.d.fact 90 (f := .free "enumerate") rfl), He.free_ok X G (c.d.fact 91 (f := .free "zip") rfl), He.free_ok X G (c.d.fact 92 (f := .free "all") rfl), He.free_ok X G (c.d.fact 93 (f := .free "any") rfl), He.free_ok X G (c.d.fact 97 (f := .free "set") rfl), He.int_ok X G (c.d.fact 98 (f := .int "MOST_STARS" 20) rfl), He.int_ok X G (c.d.fact 99 (f := .int "MOST_SPOTS" 60) rfl)⟩
  have I : SyF K (cS K) := ⟨He.cls_ok (c.d.fact 100 (f := .cls "Sky") rfl), He.noat_ok (c.d.fact 106 (f := .noat "Sky" "_side") rfl), He.noat_ok (c.d.fact 107 (f := .noat "Sky" "_stars") rfl), He.noat_ok (c.d.fact 108 (f := .noat "Sky" "_camera") rfl)⟩
  have IC : ChF K (cC K) := ⟨He.cls_ok (c.d.fact 101 (f := .cls "Chart") rfl), He.noat_ok (c.d.fact 109 (f := .noat "Chart" "_sky") rfl), He.noat_ok (c.d.fact 110 (f := .noat "Chart" "_bounds") rfl), He.noat_ok (c.d.fact 111 (f := .noat "Chart" "_found") rfl)⟩
  have P_side : Prp P w K mg base (cS K) "side" (fun s => .int s.side) := prp_of c 0 ⟨"Sky", "side", "Sky.side", defArgs s_Sky_side, defBody s_Sky_side, defScope s_Sky_side⟩ rfl _ (fun F => fn_side F I) (fun _ _ _ _ _ _ us hl => match us, hl with | [_], _ => rfl)
  have P_stars : Prp P w K mg base (cS K) "stars" (fun s => .tup (s.stars.map t3)) := prp_of c 1 ⟨"Sky", "stars", "Sky.stars", defArgs s_Sky_stars, defBody s_Sky_stars, defScope s_Sky_stars⟩ rfl _ (fun F => fn_stars F I) (fun _ _ _ _ _ _ us hl => match us, hl with | [_], _ => rfl)
  have P_reach : Prp P w K mg base (cS K) "reach" (fun s => .int s.reach) := prp_of c 2 ⟨"Sky", "reach", "Sky.reach", defArgs s_Sky_reach, defBody s_Sky_reach, defScope s_Sky_reach⟩ rfl _ (fun F => fn_reach F I) (fun _ _ _ _ _ _ us hl => match us, hl with | [_], _ => rfl)
  have P_blur : Prp P w K mg base (cS K) "blur" (fun s => .int s.blur) := prp_of c 3 ⟨"Sky", "blur", "Sky.blur", defArgs s_Sky_blur, defBody s_Sky_blur, defScope s_Sky_blur⟩ rfl _ (fun F => fn_blur F I) (fun _ _ _ _ _ _ us hl => match us, hl with | [_], _ => rfl)
  have P_glare : Prp P w K mg base (cS K) "glare" (fun s => .int s.glare) := prp_of c 4 ⟨"Sky", "glare", "Sky.glare", defArgs s_Sky_glare, defBody s_Sky_glare, defScope s_Sky_glare⟩ rfl _ (fun F => fn_glare F I) (fun _ _ _ _ _ _ us hl => match us, hl with | [_], _ => rfl)
  have P_limit : Prp P w K mg base (cS K) "limit" (fun s => .int s.limit) := prp_of c 5 ⟨"Sky", "limit", "Sky.limit", defArgs s_Sky_limit, defBody s_Sky_limit, defScope s_Sky_limit⟩ rfl _ (fun F => fn_limit F I) (fun _ _ _ _ _ _ us hl => match us, hl with | [_], _ => rfl)
  have Y : Sy P w K mg base (cS K) := ⟨I.cl, P_side, P_stars, P_reach, P_blur, P_glare, P_limit⟩
  obtain ⟨fd_star_at, F_star_at⟩ := c.d.def_ 82 (d := ⟨("Sky", some "star_at"), "star_at", "Sky.star_at", defArgs s_Sky_star_at, defBody s_Sky_star_at, defScope s_Sky_star_at, [], []⟩) rfl
  have B_star_at : Binds K fd_star_at _ [] := F_star_at.bindsN (ps := ["self", "number"]) (fun _ _ _ _ _ _ us hl => match us, hl with | [_, _], _ => rfl)
  have h_star_at : Mtd P w K mg base (cS K) 1 "star_at" ["self", "number"] (spP K (cS K) r_star_at) := ⟨_, fd_star_at, He.meth_ok (c.d.fact 104 (f := .meth "Sky" "star_at") rfl), fn_star_at F_star_at I T, B_star_at⟩
  have D_nearest : Dfn K mg "nearest" s_nearest := dfn_of X G c.d 13 13 "nearest" s_nearest rfl rfl
  have h_nearest : Cal P w K mg base 1 "nearest" ["side", "number"] (spP K (cS K) r_nearest) := cal_nearest D_nearest
  have D_turned : Dfn K mg "turned" s_turned := dfn_of X G c.d 12 12 "turned" s_turned rfl rfl
  have h_turned : Cal P w K mg base 1 "turned" ["quarters", "pair"] (spP K (cS K) r_turned) := cal_turned D_turned T
  have D_moved_place : Dfn K mg "moved_place" s_moved_place := dfn_of X G c.d 2 2 "moved_place" s_moved_place rfl rfl
  have h_moved_place : Cal P w K mg base 1 "moved_place" ["side", "place", "motion"] (spP K (cS K) r_moved_place) := cal_moved_place D_moved_place T
  have D_is_star : Dfn K mg "is_star" s_is_star := dfn_of X G c.d 1 1 "is_star" s_is_star rfl rfl
  have h_is_star : Cal P w K mg base 1 "is_star" ["side", "star"] (spP K (cS K) r_is_star) := cal_is_star D_is_star T
  have D_is_motion : Dfn K mg "is_motion" s_is_motion := dfn_of X G c.d 3 3 "is_motion" s_is_motion rfl rfl
  have h_is_motion : Cal P w K mg base 1 "is_motion" ["side", "motion"] (spP K (cS K) r_is_motion) := cal_is_motion D_is_motion T
  have D_is_camera : Dfn K mg "is_camera" s_is_camera := dfn_of X G c.d 0 0 "is_camera" s_is_camera rfl rfl
  have h_is_camera : Cal P w K mg base 1 "is_camera" ["side", "camera"] (spP K (cS K) r_is_camera) := cal_is_camera D_is_camera T
  have D_is_spot : Dfn K mg "is_spot" s_is_spot := dfn_of X G c.d 4 4 "is_spot" s_is_spot rfl rfl
  have h_is_spot : Cal P w K mg base 3 "is_spot" ["sky", "spot"] (spP K (cS K) r_is_spot) := cal_is_spot D_is_spot T Y
  have D_check_sighting : Dfn K mg "check_sighting" s_check_sighting := dfn_of X G c.d 5 5 "check_sighting" s_check_sighting rfl rfl
  have h_check_sighting : Cal P w K mg base 4 "check_sighting" ["sky", "sighting"] (spP K (cS K) r_check_sighting) := cal_check_sighting D_check_sighting T h_is_spot
  have D_all_triples : Dfn K mg "all_triples" s_all_triples := dfn_of X G c.d 8 8 "all_triples" s_all_triples rfl rfl
  have h_all_triples : Cal P w K mg base 1 "all_triples" ["side"] (spP K (cS K) r_all_triples) := cal_all_triples D_all_triples T
  have D_attitudes : Dfn K mg "attitudes" s_attitudes := dfn_of X G c.d 6 6 "attitudes" s_attitudes rfl rfl
  have h_attitudes : Cal P w K mg base 3 "attitudes" ["sky"] (spP K (cS K) r_attitudes) := cal_attitudes D_attitudes T Y h_all_triples
  have D_motions : Dfn K mg "motions" s_motions := dfn_of X G c.d 7 7 "motions" s_motions rfl rfl
  have h_motions : Cal P w K mg base 3 "motions" ["sky"] (spP K (cS K) r_motions) := cal_motions D_motions T Y h_all_triples
  have D_check_attitude : Dfn K mg "check_attitude" s_check_attitude := dfn_of X G c.d 9 9 "check_attitude" s_check_attitude rfl rfl
  have h_check_attitude : Cal P w K mg base 3 "check_attitude" ["sky", "attitude"] (spP K (cS K) r_check_attitude) := cal_check_attitude D_check_attitude T Y h_is_motion
  have D_check_motion : Dfn K mg "check_motion" s_check_motion := dfn_of X G c.d 11 11 "check_motion" s_check_motion rfl rfl
  have h_check_motion : Cal P w K mg base 3 "check_motion" ["sky", "motion"] (spP K (cS K) r_check_motion) := cal_check_motion D_check_motion T Y h_is_motion
  have D_check_command : Dfn K mg "check_command" s_check_command := dfn_of X G c.d 10 10 "check_command" s_check_command rfl rfl
  have h_check_command : Cal P w K mg base 3 "check_command" ["sky", "command"] (spP K (cS K) r_check_command) := cal_check_command D_check_command T Y
  have D_offset_of : Dfn K mg "offset_of" s_offset_of := dfn_of X G c.d 14 14 "offset_of" s_offset_of rfl rfl
  have h_offset_of : Cal P w K mg base 3 "offset_of" ["sky", "attitude", "star"] (spP K (cS K) r_offset_of) := cal_offset_of D_offset_of T Y h_nearest h_turned
  have D_offset : Dfn K mg "offset" s_offset := dfn_of X G c.d 15 15 "offset" s_offset rfl rfl
  have h_offset : Cal P w K mg base 4 "offset" ["sky", "attitude", "number"] (spP K (cS K) r_offset) := cal_offset D_offset T Y h_check_attitude h_offset_of h_star_at
  have D_within : Dfn K mg "within" s_within := dfn_of X G c.d 16 16 "within" s_within rfl rfl
  have h_within : Cal P w K mg base 4 "within" ["sky", "attitude", "room", "least"] (spP K (cS K) r_within) := cal_within D_within T Y h_offset_of
  have D_seen_stars : Dfn K mg "seen_stars" s_seen_stars := dfn_of X G c.d 17 17 "seen_stars" s_seen_stars rfl rfl
  have h_seen_stars : Cal P w K mg base 5 "seen_stars" ["sky", "attitude"] (spP K (cS K) r_seen_stars) := cal_seen_stars D_seen_stars T Y h_check_attitude h_within
  have D_sure_stars : Dfn K mg "sure_stars" s_sure_stars := dfn_of X G c.d 18 18 "sure_stars" s_sure_stars rfl rfl
  have h_sure_stars : Cal P w K mg base 5 "sure_stars" ["sky", "attitude"] (spP K (cS K) r_sure_stars) := cal_sure_stars D_sure_stars T Y h_check_attitude h_within
  have D_commanded : Dfn K mg "commanded" s_commanded := dfn_of X G c.d 19 19 "commanded" s_commanded rfl rfl
  have h_commanded : Cal P w K mg base 4 "commanded" ["sky", "attitude", "command"] (spP K (cS K) r_commanded) := cal_commanded D_commanded T Y h_check_attitude h_check_command h_turned
  have D_moved : Dfn K mg "moved" s_moved := dfn_of X G c.d 20 20 "moved" s_moved rfl rfl
  have h_moved : Cal P w K mg base 4 "moved" ["sky", "attitude", "motion"] (spP K (cS K) r_moved) := cal_moved D_moved T Y h_check_attitude h_check_motion h_moved_place
  have D_motion_between : Dfn K mg "motion_between" s_motion_between := dfn_of X G c.d 21 21 "motion_between" s_motion_between rfl rfl
  have h_motion_between : Cal P w K mg base 4 "motion_between" ["sky", "one", "other"] (spP K (cS K) r_motion_between) := cal_motion_between D_motion_between T Y h_check_attitude h_turned
  have D_reversed_motion : Dfn K mg "reversed_motion" s_reversed_motion := dfn_of X G c.d 22 22 "reversed_motion" s_reversed_motion rfl rfl
  have h_reversed_motion : Cal P w K mg base 4 "reversed_motion" ["sky", "motion"] (spP K (cS K) r_reversed_motion) := cal_reversed_motion D_reversed_motion T Y h_check_motion h_turned
  have D_give : Dfn K mg "give" s_give := dfn_of X G c.d 23 23 "give" s_give rfl rfl
  have h_give : Cal P w K mg base 1 "give" ["own", "held", "came", "other"] (spL K (cS K) r_give) := cal_give D_give
  have D_extend : Dfn K mg "extend" s_extend := dfn_of X G c.d 24 24 "extend" s_extend rfl rfl
  have h_extend : Cal P w K mg base 2 "extend" ["links", "own", "held", "start", "kept"] (spL K (cS K) r_extend) := cal_extend D_extend h_give
  have D_covering : Dfn K mg "covering" s_covering := dfn_of X G c.d 25 25 "covering" s_covering rfl rfl
  have h_covering : Cal P w K mg base 3 "covering" ["table", "rows"] (spL K (cS K) r_covering) := cal_covering D_covering h_extend
  have D_most : Dfn K mg "most" s_most := dfn_of X G c.d 26 26 "most" s_most rfl rfl
  have h_most : Cal P w K mg base 6 "most" ["table", "rows"] (spP K (cS K) r_most) := cal_most D_most T h_covering
  have D_fitting : Dfn K mg "fitting" s_fitting := dfn_of X G c.d 27 27 "fitting" s_fitting rfl rfl
  have h_fitting : Cal P w K mg base 4 "fitting" ["sky", "attitude", "star", "sighting"] (spP K (cS K) r_fitting) := cal_fitting D_fitting T Y h_offset_of
  have D_table_in : Dfn K mg "table_in" s_table_in := dfn_of X G c.d 28 28 "table_in" s_table_in rfl rfl
  have h_table_in : Cal P w K mg base 5 "table_in" ["sky", "attitude", "sighting"] (spP K (cS K) r_table_in) := cal_table_in D_table_in T Y h_fitting
  have D_need_of : Dfn K mg "need_of" s_need_of := dfn_of X G c.d 29 29 "need_of" s_need_of rfl rfl
  have h_need_of : Cal P w K mg base 7 "need_of" ["table", "sure", "many"] (spP K (cS K) r_need_of) := cal_need_of D_need_of T h_most
  have D_need_in : Dfn K mg "need_in" s_need_in := dfn_of X G c.d 30 30 "need_in" s_need_in rfl rfl
  have h_need_in : Cal P w K mg base 8 "need_in" ["sky", "attitude", "sighting"] (spP K (cS K) r_need_in) := cal_need_in D_need_in T h_need_of h_table_in h_sure_stars
  have D_check_both : Dfn K mg "check_both" s_check_both := dfn_of X G c.d 31 31 "check_both" s_check_both rfl rfl
  have h_check_both : Cal P w K mg base 5 "check_both" ["sky", "attitude", "sighting"] (spP K (cS K) r_check_both) := cal_check_both D_check_both T h_check_attitude h_check_sighting
  have D_need : Dfn K mg "need" s_need := dfn_of X G c.d 32 32 "need" s_need rfl rfl
  have h_need : Cal P w K mg base 9 "need" ["sky", "attitude", "sighting"] (spP K (cS K) r_need) := cal_need D_need T h_check_both h_need_in
  have D_sees : Dfn K mg "sees" s_sees := dfn_of X G c.d 33 33 "sees" s_sees rfl rfl
  have h_sees : Cal P w K mg base 6 "sees" ["sky", "attitude"] (spP K (cS K) r_sees) := cal_sees D_sees T Y h_offset h_seen_stars h_star_at
  have D_spots_of : Dfn K mg "spots_of" s_spots_of := dfn_of X G c.d 35 35 "spots_of" s_spots_of rfl rfl
  have h_spots_of : Cal P w K mg base 3 "spots_of" ["sky", "seen"] (spP K (cS K) r_spots_of) := cal_spots_of D_spots_of T Y
  have D_lies_in : Dfn K mg "lies_in" s_lies_in := dfn_of X G c.d 36 36 "lies_in" s_lies_in rfl rfl
  have h_lies_in : Cal P w K mg base 1 "lies_in" ["bounds", "others"] (spP K (cS K) r_lies_in) := cal_lies_in D_lies_in T
  have D_spot_outside : Dfn K mg "spot_outside" s_spot_outside := dfn_of X G c.d 37 37 "spot_outside" s_spot_outside rfl rfl
  have h_spot_outside : Cal P w K mg base 1 "spot_outside" ["bounds", "others"] (spP K (cS K) r_spot_outside) := cal_spot_outside D_spot_outside T
  have D_least_unlike : Dfn K mg "least_unlike" s_least_unlike := dfn_of X G c.d 38 38 "least_unlike" s_least_unlike rfl rfl
  have h_least_unlike : Cal P w K mg base 4 "least_unlike" ["sky", "first", "second"] (spP K (cS K) r_least_unlike) := cal_least_unlike D_least_unlike T h_spots_of h_lies_in
  have D_showing_outside : Dfn K mg "showing_outside" s_showing_outside := dfn_of X G c.d 39 39 "showing_outside" s_showing_outside rfl rfl
  have h_showing_outside : Cal P w K mg base 4 "showing_outside" ["sky", "seen", "bounds"] (spP K (cS K) r_showing_outside) := cal_showing_outside D_showing_outside T h_spot_outside h_spots_of
  have D_count_outside : Dfn K mg "count_outside" s_count_outside := dfn_of X G c.d 40 40 "count_outside" s_count_outside rfl rfl
  have h_count_outside : Cal P w K mg base 4 "count_outside" ["sky", "seen", "bounds"] (spP K (cS K) r_count_outside) := cal_count_outside D_count_outside T h_lies_in h_spots_of
  have D_telling_sighting : Dfn K mg "telling_sighting" s_telling_sighting := dfn_of X G c.d 41 41 "telling_sighting" s_telling_sighting rfl rfl
  have h_telling_sighting : Cal P w K mg base 7 "telling_sighting" ["sky", "one", "other"] (spP K (cS K) r_telling_sighting) := cal_telling_sighting D_telling_sighting T h_least_unlike h_sees h_showing_outside h_count_outside
  have D_check_telling : Dfn K mg "check_telling" s_check_telling := dfn_of X G c.d 42 42 "check_telling" s_check_telling rfl rfl
  have h_check_telling : Cal P w K mg base 10 "check_telling" ["sky", "one", "other", "told"] (spP K (cS K) r_check_telling) := cal_check_telling D_check_telling T h_check_attitude h_check_sighting h_need
  have D_still_motions : Dfn K mg "still_motions" s_still_motions := dfn_of X G c.d 43 43 "still_motions" s_still_motions rfl rfl
  have h_still_motions : Cal P w K mg base 4 "still_motions" ["sky"] (spP K (cS K) r_still_motions) := cal_still_motions D_still_motions T Y h_motions h_moved_place
  have D_places_of : Dfn K mg "places_of" s_places_of := dfn_of X G c.d 57 57 "places_of" s_places_of rfl rfl
  have h_places_of : Cal P w K mg base 4 "places_of" ["sky"] (spP K (cS K) r_places_of) := cal_places_of D_places_of T h_attitudes
  have D_check_two : Dfn K mg "check_two" s_check_two := dfn_of X G c.d 54 54 "check_two" s_check_two rfl rfl
  have h_check_two : Cal P w K mg base 4 "check_two" ["sky", "one", "other"] (spP K (cS K) r_check_two) := cal_check_two D_check_two T h_check_attitude
  have D_check_commands : Dfn K mg "check_commands" s_check_commands := dfn_of X G c.d 51 51 "check_commands" s_check_commands rfl rfl
  have h_check_commands : Cal P w K mg base 4 "check_commands" ["sky", "commands"] (spP K (cS K) r_check_commands) := cal_check_commands D_check_commands T h_check_command
  have D_sight : Dfn K mg "sight" s_sight := dfn_of X G c.d 45 45 "sight" s_sight rfl rfl
  have h_sight : Cal P w K mg base 6 "sight" ["sky", "attitude"] (spP K (cS K) r_sight) := cal_sight D_sight T Y h_offset_of h_sure_stars h_seen_stars
  have D_link_table : Dfn K mg "link_table" s_link_table := dfn_of X G c.d 46 46 "link_table" s_link_table rfl rfl
  have h_link_table : Cal P w K mg base 3 "link_table" ["sky", "here", "there"] (spP K (cS K) r_link_table) := cal_link_table D_link_table T Y
  have D_lack_by : Dfn K mg "lack_by" s_lack_by := dfn_of X G c.d 47 47 "lack_by" s_lack_by rfl rfl
  have h_lack_by : Cal P w K mg base 7 "lack_by" ["sky", "here", "there"] (spP K (cS K) r_lack_by) := cal_lack_by D_lack_by T h_most h_link_table
  have D_unlikeness_by : Dfn K mg "unlikeness_by" s_unlikeness_by := dfn_of X G c.d 48 48 "unlikeness_by" s_unlikeness_by rfl rfl
  have h_unlikeness_by : Cal P w K mg base 8 "unlikeness_by" ["sky", "here", "there"] (spP K (cS K) r_unlikeness_by) := cal_unlikeness_by D_unlikeness_by T h_lack_by
  have D_unlikeness : Dfn K mg "unlikeness" s_unlikeness := dfn_of X G c.d 49 49 "unlikeness" s_unlikeness rfl rfl
  have h_unlikeness : Cal P w K mg base 9 "unlikeness" ["sky", "one", "other"] (spP K (cS K) r_unlikeness) := cal_unlikeness D_unlikeness T h_unlikeness_by h_sight
  have D_are_confusable : Dfn K mg "are_confusable" s_are_confusable := dfn_of X G c.d 50 50 "are_confusable" s_are_confusable rfl rfl
  have h_are_confusable : Cal P w K mg base 10 "are_confusable" ["sky", "one", "other", "missing", "false"] (spP K (cS K) r_are_confusable) := cal_are_confusable D_are_confusable T h_unlikeness
  have D_still_lots : Dfn K mg "still_lots" s_still_lots := dfn_of X G c.d 44 44 "still_lots" s_still_lots rfl rfl
  have h_still_lots : Cal P w K mg base 5 "still_lots" ["sky"] (spP K (cS K) r_still_lots) := cal_still_lots D_still_lots T h_still_motions h_attitudes h_moved
  have D_ways_from : Dfn K mg "ways_from" s_ways_from := dfn_of X G c.d 52 52 "ways_from" s_ways_from rfl rfl
  have h_ways_from : Cal P w K mg base 5 "ways_from" ["sky", "attitude", "commands"] (spL K (cS K) r_ways_from) := cal_ways_from D_ways_from T h_commanded
  have D_row_along : Dfn K mg "row_along" s_row_along := dfn_of X G c.d 53 53 "row_along" s_row_along rfl rfl
  have h_row_along : Cal P w K mg base 1 "row_along" ["ways", "goal"] (spL K (cS K) r_row_along) := cal_row_along D_row_along
  have D_alike_lots : Dfn K mg "alike_lots" s_alike_lots := dfn_of X G c.d 34 34 "alike_lots" s_alike_lots rfl rfl
  have h_alike_lots : Cal P w K mg base 7 "alike_lots" ["sky"] (spP K (cS K) r_alike_lots) := cal_alike_lots D_alike_lots T h_attitudes h_sees
  obtain ⟨fd_tells, F_tells⟩ := c.d.def_ 84 (d := ⟨("Chart", some "tells"), "tells", "Chart.tells", defArgs s_Chart_tells, defBody s_Chart_tells, defScope s_Chart_tells, [], []⟩) rfl
  have B_tells : Binds K fd_tells _ [] := F_tells.bindsN (ps := ["self", "attitude", "motion"]) (fun _ _ _ _ _ _ us hl => match us, hl with | [_, _, _], _ => rfl)
  have MT : MtT P w K mg base (cS K) (cC K) := ⟨_, fd_tells, He.meth_ok (c.d.fact 105 (f := .meth "Chart" "tells") rfl), mtd_tells F_tells IC h_moved h_reversed_motion h_are_confusable, B_tells⟩
  obtain ⟨fd_ci, F_ci⟩ := c.d.def_ 83 (d := ⟨("Chart", some "__init__"), "__init__", "Chart.__init__", defArgs s_Chart_init, defBody s_Chart_init, defScope s_Chart_init, [], []⟩) rfl
  have B_ci : Binds K fd_ci _ [] := F_ci.bindsN (ps := ["self", "sky", "missing", "false"]) (fun _ _ _ _ _ _ us hl => match us, hl with | [_, _, _, _], _ => rfl)
  have NC : CmkC P w K mg base (cS K) (cC K) := ⟨_, fd_ci, He.mkr_ok (c.d.fact 103 (f := .mkr "Chart") rfl), ini_Chart F_ci IC, He.glo_ok X G (c.d.fact 82 (f := .glo "Chart") rfl), B_ci⟩
  have D_row_to_teller : Dfn K mg "row_to_teller" s_row_to_teller := dfn_of X G c.d 55 55 "row_to_teller" s_row_to_teller rfl rfl
  have h_row_to_teller : Cal P w K mg base 12 "row_to_teller" ["sky", "chart", "attitude", "motion", "commands"] (spL K (cS K) (r_row_to_teller P w K (cS K) (cC K))) := cal_row_to_teller D_row_to_teller IC MT h_ways_from h_row_along
  have D_telling_row : Dfn K mg "telling_row" s_telling_row := dfn_of X G c.d 56 56 "telling_row" s_telling_row rfl rfl
  have h_telling_row : Cal P w K mg base 13 "telling_row" ["sky", "one", "other", "commands", "missing", "false"] (spL K (cS K) r_telling_row) := cal_telling_row D_telling_row NC h_check_two h_check_commands h_motion_between h_row_to_teller
  have D_is_hidden : Dfn K mg "is_hidden" s_is_hidden := dfn_of X G c.d 59 59 "is_hidden" s_is_hidden rfl rfl
  have h_is_hidden : Cal P w K mg base 12 "is_hidden" ["sky", "chart", "motion"] (spL K (cS K) (r_is_hidden P w K (cS K) (cC K))) := cal_is_hidden D_is_hidden IC MT h_places_of
  have D_telling_places : Dfn K mg "telling_places" s_telling_places := dfn_of X G c.d 58 58 "telling_places" s_telling_places rfl rfl
  have h_telling_places : Cal P w K mg base 12 "telling_places" ["sky", "motion", "missing", "false"] (spP K (cS K) r_telling_places) := cal_telling_places D_telling_places IC MT NC h_check_motion h_places_of
  have D_hidden_motions : Dfn K mg "hidden_motions" s_hidden_motions := dfn_of X G c.d 60 60 "hidden_motions" s_hidden_motions rfl rfl
  have h_hidden_motions : Cal P w K mg base 13 "hidden_motions" ["sky", "missing", "false"] (spP K (cS K) r_hidden_motions) := cal_hidden_motions D_hidden_motions NC h_is_hidden h_motions
  obtain ⟨fd_si, F_si⟩ := c.d.def_ 81 (d := ⟨("Sky", some "__init__"), "__init__", "Sky.__init__", defArgs s_Sky_init, defBody s_Sky_init, defScope s_Sky_init, [], []⟩) rfl
  have B_si : Binds K fd_si _ [] := F_si.bindsN (ps := ["self", "side", "stars", "camera"]) (fun _ _ _ _ _ _ us hl => match us, hl with | [_, _, _, _], _ => rfl)
  have MS : CmkS P w K mg base (cS K) := ⟨_, fd_si, He.mkr_ok (c.d.fact 102 (f := .mkr "Sky") rfl), ini_Sky F_si I T h_is_camera h_is_star, He.glo_ok X G (c.d.fact 81 (f := .glo "Sky") rfl), B_si⟩
  have D_l_row : Dfn K mg "_law_row" s__law_row := dfn_of X G c.d 61 61 "_law_row" s__law_row rfl rfl
  have h_l_row : Cal P w K mg base 1 "_law_row" ["_law_cell", "_law_many"] (spP K (cS K) r_l_row) := cal_l_row D_l_row T
  have D_l_turned : Dfn K mg "_law_turned" s__law_turned := dfn_of X G c.d 63 63 "_law_turned" s__law_turned rfl rfl
  have h_l_turned : Cal P w K mg base 1 "_law_turned" ["_law_quarters", "_law_x", "_law_y"] (spP K (cS K) r_l_turned) := cal_l_turned D_l_turned T
  have D_l_near : Dfn K mg "_law_near" s__law_near := dfn_of X G c.d 64 64 "_law_near" s__law_near rfl rfl
  have h_l_near : Cal P w K mg base 1 "_law_near" ["_law_side", "_law_number"] (spP K (cS K) r_l_near) := cal_l_near D_l_near T
  have D_l_numbers : Dfn K mg "_law_numbers" s__law_numbers := dfn_of X G c.d 62 62 "_law_numbers" s__law_numbers rfl rfl
  have h_l_numbers : Cal P w K mg base 2 "_law_numbers" ["_law_script", "_law_many"] (spP K (cS K) r_l_numbers) := cal_l_numbers D_l_numbers T h_l_row
  have D_l_motion : Dfn K mg "_law_motion" s__law_motion := dfn_of X G c.d 66 66 "_law_motion" s__law_motion rfl rfl
  have h_l_motion : Cal P w K mg base 1 "_law_motion" ["_law_parts", "_law_numbers_here", "_law_at"] (spP K (cS K) r_l_motion) := cal_l_motion D_l_motion T
  have D_l_star : Dfn K mg "_law_star" s__law_star := dfn_of X G c.d 67 67 "_law_star" s__law_star rfl rfl
  have h_l_star : Cal P w K mg base 2 "_law_star" ["_law_parts", "_law_star_here", "_law_motion_here"] (spP K (cS K) r_l_star) := cal_l_star D_l_star T h_l_turned
  have D_l_attitude : Dfn K mg "_law_attitude" s__law_attitude := dfn_of X G c.d 70 70 "_law_attitude" s__law_attitude rfl rfl
  have h_l_attitude : Cal P w K mg base 1 "_law_attitude" ["_law_parts", "_law_numbers_here", "_law_at"] (spP K (cS K) r_l_attitude) := cal_l_attitude D_l_attitude T
  have D_l_offset : Dfn K mg "_law_offset" s__law_offset := dfn_of X G c.d 71 71 "_law_offset" s__law_offset rfl rfl
  have h_l_offset : Cal P w K mg base 2 "_law_offset" ["_law_parts", "_law_attitude_here", "_law_star_here"] (spP K (cS K) r_l_offset) := cal_l_offset D_l_offset T h_l_near h_l_turned
  have D_l_give : Dfn K mg "_law_give" s__law_give := dfn_of X G c.d 74 74 "_law_give" s__law_give rfl rfl
  have h_l_give : Cal P w K mg base 61 "_law_give" ["_law_rows", "_law_row_here", "_law_mates", "_law_tried"] (spL K (cS K) (r_l_give 60)) := cal_l_give D_l_give 60
  have D_l_close : Dfn K mg "_law_close" s__law_close := dfn_of X G c.d 73 73 "_law_close" s__law_close rfl rfl
  have h_l_close : Cal P w K mg base 1 "_law_close" ["_law_parts", "_law_one", "_law_other", "_law_times"] (spP K (cS K) r_l_close) := cal_l_close D_l_close T
  have D_l_most : Dfn K mg "_law_most" s__law_most := dfn_of X G c.d 75 75 "_law_most" s__law_most rfl rfl
  have h_l_most : Cal P w K mg base 62 "_law_most" ["_law_parts", "_law_some", "_law_others", "_law_times"] (spP K (cS K) r_l_most) := cal_l_most D_l_most T h_l_close h_l_give
  have D_l_all : Dfn K mg "_law_all" s__law_all := dfn_of X G c.d 69 69 "_law_all" s__law_all rfl rfl
  have h_l_all : Cal P w K mg base 1 "_law_all" ["_law_parts"] (spP K (cS K) r_l_all) := cal_l_all D_l_all T
  have D_l_seen : Dfn K mg "_law_seen" s__law_seen := dfn_of X G c.d 72 72 "_law_seen" s__law_seen rfl rfl
  have h_l_seen : Cal P w K mg base 3 "_law_seen" ["_law_parts", "_law_attitude_here"] (spP K (cS K) r_l_seen) := cal_l_seen D_l_seen T h_l_offset
  have D_l_moved : Dfn K mg "_law_moved" s__law_moved := dfn_of X G c.d 77 77 "_law_moved" s__law_moved rfl rfl
  have h_l_moved : Cal P w K mg base 2 "_law_moved" ["_law_parts", "_law_attitude_here", "_law_motion_here"] (spP K (cS K) r_l_moved) := cal_l_moved D_l_moved T h_l_turned
  have D_l_need : Dfn K mg "_law_need" s__law_need := dfn_of X G c.d 76 76 "_law_need" s__law_need rfl rfl
  have h_l_need : Cal P w K mg base 63 "_law_need" ["_law_parts", "_law_attitude_here", "_law_sighting_here"] (spP K (cS K) r_l_need) := cal_l_need D_l_need T h_l_seen h_l_most
  have D_l_made : Dfn K mg "_law_made" s__law_made := dfn_of X G c.d 68 68 "_law_made" s__law_made rfl rfl
  have h_l_made : Cal P w K mg base 4 "_law_made" ["_law_parts"] (spP K (cS K) r_l_made) := cal_l_made D_l_made T MS
  have D_l_spot : Dfn K mg "_law_spot" s__law_spot := dfn_of X G c.d 78 78 "_law_spot" s__law_spot rfl rfl
  have h_l_spot : Cal P w K mg base 1 "_law_spot" ["_law_parts", "_law_numbers_here", "_law_at"] (spP K (cS K) r_l_spot) := cal_l_spot D_l_spot T
  have D_l_sighting : Dfn K mg "_law_sighting" s__law_sighting := dfn_of X G c.d 79 79 "_law_sighting" s__law_sighting rfl rfl
  have h_l_sighting : Cal P w K mg base 4 "_law_sighting" ["_law_parts", "_law_attitude_here", "_law_numbers_here", "_law_at"] (spP K (cS K) r_l_sighting) := cal_l_sighting D_l_sighting T h_l_seen h_l_spot
  have D_l_sky : Dfn K mg "_law_sky" s__law_sky := dfn_of X G c.d 65 65 "_law_sky" s__law_sky rfl rfl
  have h_l_sky : Cal P w K mg base 3 "_law_sky" ["_law_numbers_here", "_law_at", "_law_cameras", "_law_most_here"] (spP K (cS K) r_l_sky) := cal_l_sky D_l_sky T h_l_motion h_l_star
  exact fn_law F0 T h_l_numbers h_l_sky h_l_made h_alike_lots h_still_motions h_l_all h_l_sighting h_telling_sighting h_telling_places h_telling_row h_l_attitude h_need h_l_need h_hidden_motions h_l_moved h_check_telling h_still_lots
end Sw
open PySem PySem.W PySem.Calls PyProof.Rows
theorem PySem.Challenge.cw_starward_k87_whole_alike_and_still_holds : PySem.Challenge.rw_starward_k87_whole_alike_and_still.Holds := by
  w_on; o_law
  refine HandSHeadRun.head_any (r := OpenLaw.row PySem.Challenge.rw_starward_k87_whole_alike_and_still) (q := view (OpenLaw.row PySem.Challenge.rw_starward_k87_whole_alike_and_still).prog [102]) (H := Sw.hk) (ob := Sw.ob) (M := 7000) (loose := Sw.hloose) (d := HandSHeadRun.topDef (OpenLaw.row PySem.Challenge.rw_starward_k87_whole_alike_and_still).prog 102) (kwd := []) Sw.ob_eq
    (by kernel_rfl) (fun s => by kernel_rfl) Sw.run (by kernel_rfl) (by kernel_rfl) (by kernel_rfl) (by rfl) (by first | assumption | decide +kernel) (by decide +kernel) ⟨rfl, rfl, rfl, rfl, rfl, by decide +kernel⟩ ?hw ?hc
  case hw => w_witness2
  case hc =>
    refine L2.walk_ofE (l := PySem.Challenge.rw_starward_k87_whole_alike_and_still) (n := 63) (k := 64) (x := "_law_script") (CX := L2.CX0) rfl (by decide) (by kernel_rfl) ⟨rfl, by decide, by decide⟩ ?F (fun _ _ _ _ z => z)
    intro w mg fa h Y G hmg0
    obtain ⟨K, KX, c⟩ := Y
    have hmg : mg ("law" : PySem.Str) = some (.ref fa) := by
      have e : (HandSHeadRun.topDef (OpenLaw.row PySem.Challenge.rw_starward_k87_whole_alike_and_still).prog 102).name = ("law" : PySem.Str) := by kernel_rfl
      rw [← e]
      exact hmg0
    obtain ⟨fd, F⟩ := c.d.def_ 80 (d := ⟨("law", none), "law", "law", L2.defArgs Sw.s_law, L2.defBody Sw.s_law, L2.defScope Sw.s_law, [], []⟩) rfl
    have e := hmg.symm.trans (He.glo_ok KX G (c.d.fact 80 (f := .glo "law") rfl))
    cases e
    have b := L2.FunD.bindsA (ps := ["_law_script"]) F fun _ _ _ _ _ _ us hl => match us, hl with | [_], _ => rfl
    exact ⟨K, fd, _, KX, fun s v => b s [v] rfl, fun H a ns hl _ hS => ⟨H, [], _, _, Sw.Ok.empty (Sw.Ex.refl H), Sw.DvAll.one (.fzl hS (Sw.dv_ints ns)), ⟨rfl, _, ⟨ns, rfl, rfl⟩, rfl⟩, fun v H' F' d' O' _ _ hd e => by
      subst e
      cases hd
      rfl⟩, fun base _ _ => Sw.law_fn KX G c base F⟩
