import PyProof.Rows.All
import Wide.All
import OpenK.AllK
import Wide.FinOn
import HandS.ForMost
import HandS.Evl
import HandS.Property
import HandS.Flow
import HandS.Walk
import HandS.Deep
import HandS.Style
import HandS.DictComp
import HandS.TupSets
import HandS.TupAny
import KE.GoesEnum
import PyProof.ReprRoads
import PySem.Challenge.RW_starward_k77_whole_better_cameras
import HandS.Ends
set_option Elab.async false
set_option linter.all false
section
set_option maxRecDepth 100000
set_option maxHeartbeats 4000000
/-! Matchings by lists of pairs (column, row): the lack of a lot of rows, and how it compares. Plain Lean. -/
namespace K77
open Classical in
noncomputable def pick (p : Nat → Prop) (d : Nat) : Nat := if h : ∃ r, p r then h.choose else d
theorem pick_spec {p : Nat → Prop} {d : Nat} (h : ∃ r, p r) : p (pick p d) := by
  have e : pick p d = h.choose := dif_pos h
  rw [e]
  exact h.choose_spec
/-- a list without repetition whose items lie in another one is not longer -/
theorem len_le {α : Type} [DecidableEq α] : ∀ (l m : List α), l.Nodup → (∀ x ∈ l, x ∈ m) → l.length ≤ m.length
  | [], _, _, _ => Nat.zero_le _
  | x :: l, m, h, hm => by
    have hx : x ∈ m := hm x (List.mem_cons_self ..)
    have hn := List.nodup_cons.mp h
    have h2 := len_le l (m.erase x) hn.2 (fun y hy => by
      have : y ≠ x := fun e => hn.1 (e ▸ hy)
      exact (List.mem_erase_of_ne this).mpr (hm y (List.mem_cons_of_mem _ hy)))
    have h3 := List.length_erase_of_mem hx
    have h4 : 0 < m.length := List.length_pos_of_mem hx
    simp only [List.length_cons]
    omega
/-- an injective image -/
theorem map_len_le {α β : Type} [DecidableEq β] (f : α → β) : ∀ (l : List α) (m : List β), l.Nodup → (∀ x ∈ l, ∀ y ∈ l, f x = f y → x = y) → (∀ x ∈ l, f x ∈ m) → l.length ≤ m.length := by
  intro l m h hi hm
  have hn : (l.map f).Nodup := by
    rw [List.nodup_iff_pairwise_ne, List.pairwise_map]
    exact (List.nodup_iff_pairwise_ne.mp h).imp_of_mem (fun {a b} ha hb hne e => hne (hi a ha b hb e))
  have := len_le (l.map f) m hn (fun y hy => by
    obtain ⟨x, hx, rfl⟩ := List.mem_map.mp hy
    exact hm x hx)
  rwa [List.length_map] at this
theorem filter_split {α : Type} (p : α → Bool) (l : List α) : (l.filter p).length + (l.filter (fun x => !p x)).length = l.length := by
  induction l with
  | nil => rfl
  | cons x l ih =>
    simp only [List.filter_cons, List.length_cons]
    cases p x <;> simp <;> omega

/-- own: pairs (column, row), a matching of some rows; D: a lot whose columns are all owned within it, and that has each row without a column -/
structure Cover (rows : List Nat) (L : Nat → Nat → Prop) (own : List (Nat × Nat)) (D : List Nat) : Prop where
  cols : (own.map (·.1)).Nodup
  vals : (own.map (·.2)).Nodup
  link : ∀ p ∈ own, L p.2 p.1
  inr : ∀ p ∈ own, p.2 ∈ rows
  nd : D.Nodup
  sub : ∀ r ∈ D, r ∈ rows
  closed : ∀ r ∈ D, ∀ c, L r c → ∃ r' ∈ D, (c, r') ∈ own
  left : ∀ r ∈ rows, r ∉ own.map (·.2) → r ∈ D

theorem pair_of_val {own : List (Nat × Nat)} (h : (own.map (·.2)).Nodup) {a b : Nat} {r : Nat} (ha : (a, r) ∈ own) (hb : (b, r) ∈ own) : a = b := by
  induction own with
  | nil => cases ha
  | cons p own ih =>
    rw [List.map_cons, List.nodup_cons] at h
    rcases List.mem_cons.mp ha with e1 | h1 <;> rcases List.mem_cons.mp hb with e2 | h2
    · rw [← e1] at e2; injection e2 with e _; exact e.symm
    · exact absurd (by rw [← e1]; exact List.mem_map_of_mem (f := (·.2)) h2) h.1
    · exact absurd (by rw [← e2]; exact List.mem_map_of_mem (f := (·.2)) h1) h.1
    · exact ih h.2 h1 h2
theorem pair_of_key {own : List (Nat × Nat)} (h : (own.map (·.1)).Nodup) {a b : Nat} {c : Nat} (ha : (c, a) ∈ own) (hb : (c, b) ∈ own) : a = b := by
  induction own with
  | nil => cases ha
  | cons p own ih =>
    rw [List.map_cons, List.nodup_cons] at h
    rcases List.mem_cons.mp ha with e1 | h1 <;> rcases List.mem_cons.mp hb with e2 | h2
    · rw [← e1] at e2; injection e2 with _ e; exact e.symm
    · exact absurd (by rw [← e1]; exact List.mem_map_of_mem (f := (·.1)) h2) h.1
    · exact absurd (by rw [← e2]; exact List.mem_map_of_mem (f := (·.1)) h1) h.1
    · exact ih h.2 h1 h2

/-- the rows without a column -/
theorem left_len {rows : List Nat} {own : List (Nat × Nat)} (hn : rows.Nodup) (hv : (own.map (·.2)).Nodup) (hr : ∀ p ∈ own, p.2 ∈ rows) :
    (rows.filter (fun r => !decide (r ∈ own.map (·.2)))).length + own.length = rows.length := by
  have h1 := filter_split (fun r => decide (r ∈ own.map (·.2))) rows
  have h2 : (rows.filter (fun r => decide (r ∈ own.map (·.2)))).length ≤ (own.map (·.2)).length := len_le _ _ (hn.filter _) (fun x hx => by simpa using (List.mem_filter.mp hx).2)
  have h3 : (own.map (·.2)).length ≤ (rows.filter (fun r => decide (r ∈ own.map (·.2)))).length := len_le _ _ hv (fun x hx => by
    obtain ⟨p, hp, rfl⟩ := List.mem_map.mp hx
    exact List.mem_filter.mpr ⟨hr p hp, by simpa using ⟨p.1, hp⟩⟩)
  rw [List.length_map] at h2 h3
  omega

theorem cover_len {rows : List Nat} {L : Nat → Nat → Prop} {own : List (Nat × Nat)} {D : List Nat} (hn : rows.Nodup) (C : Cover rows L own D) : own.length ≤ rows.length := by
  have := left_len hn C.vals C.inr
  omega

/-- THE COMPARISON: fewer rows and, of these, links that are no fewer: no greater lack -/
theorem cover_le {A B : List Nat} {LA LB : Nat → Nat → Prop} {oA oB : List (Nat × Nat)} {DA DB : List Nat} (hA : A.Nodup) (hB : B.Nodup) (CA : Cover A LA oA DA) (CB : Cover B LB oB DB)
    (hs : ∀ r ∈ A, r ∈ B) (hl : ∀ r ∈ A, ∀ c, LB r c → LA r c) : A.length - oA.length ≤ B.length - oB.length := by
  have a1 := left_len hA CA.vals CA.inr
  have b1 := left_len hB CB.vals CB.inr
  -- DA in two: those that B's matching has, the others
  have s1 := filter_split (fun r => decide (r ∈ oB.map (·.2))) DA
  have s2 := filter_split (fun r => decide (r ∈ oA.map (·.2))) DA
  have u1 : (DA.filter (fun r => !decide (r ∈ oB.map (·.2)))).length ≤ (B.filter (fun r => !decide (r ∈ oB.map (·.2)))).length := len_le _ _ (CA.nd.filter _) (fun x hx => by
    have := List.mem_filter.mp hx
    exact List.mem_filter.mpr ⟨hs x (CA.sub x this.1), this.2⟩)
  have u2 : (A.filter (fun r => !decide (r ∈ oA.map (·.2)))).length ≤ (DA.filter (fun r => !decide (r ∈ oA.map (·.2)))).length := len_le _ _ (hA.filter _) (fun x hx => by
    have h := List.mem_filter.mp hx
    refine List.mem_filter.mpr ⟨CA.left x h.1 ?_, h.2⟩
    intro z
    have := h.2
    simp only [z, decide_true, Bool.not_true] at this
    cases this)
  -- who owns in A the column that B gives
  have key : ∀ r ∈ DA.filter (fun r => decide (r ∈ oB.map (·.2))), ∃ c r', (c, r) ∈ oB ∧ (c, r') ∈ oA ∧ r' ∈ DA := by
    intro r hr
    have h := List.mem_filter.mp hr
    have h2 : r ∈ oB.map (·.2) := by simpa using h.2
    obtain ⟨p, hp, e⟩ := List.mem_map.mp h2
    have hp' : (p.1, r) ∈ oB := by rw [← e]; exact hp
    have hl' : LA r p.1 := hl r (CA.sub r h.1) _ (CB.link _ hp')
    obtain ⟨r', h3, h4⟩ := CA.closed r h.1 _ hl'
    exact ⟨p.1, r', hp', h4, h3⟩
  let f : Nat → Nat := fun r => pick (fun r' => ∃ c, (c, r) ∈ oB ∧ (c, r') ∈ oA ∧ r' ∈ DA) r
  have hf : ∀ r ∈ DA.filter (fun r => decide (r ∈ oB.map (·.2))), ∃ c, (c, r) ∈ oB ∧ (c, f r) ∈ oA ∧ f r ∈ DA := by
    intro r hr
    obtain ⟨c, r', h⟩ := key r hr
    exact pick_spec (p := fun r' => ∃ c, (c, r) ∈ oB ∧ (c, r') ∈ oA ∧ r' ∈ DA) ⟨r', c, h⟩
  have u3 : (DA.filter (fun r => decide (r ∈ oB.map (·.2)))).length ≤ (DA.filter (fun r => decide (r ∈ oA.map (·.2)))).length := by
    refine map_len_le f _ _ (CA.nd.filter _) (fun x hx y hy e => ?_) (fun x hx => ?_)
    · obtain ⟨c, h1, h2, _⟩ := hf x hx
      obtain ⟨d, h3, h4, _⟩ := hf y hy
      rw [← e] at h4
      have ecd : c = d := pair_of_val CA.vals h2 h4
      rw [← ecd] at h3
      exact pair_of_key CB.cols h1 h3
    · obtain ⟨c, h1, h2, h3⟩ := hf x hx
      exact List.mem_filter.mpr ⟨h3, by simpa using ⟨c, h2⟩⟩
  omega

/-- k is the lack of the rows by L -/
def IsLack (rows : List Nat) (L : Nat → Nat → Prop) (k : Nat) : Prop := ∃ own D, Cover rows L own D ∧ k = rows.length - own.length
theorem IsLack.le {A B : List Nat} {LA LB : Nat → Nat → Prop} {a b : Nat} (hA : A.Nodup) (hB : B.Nodup) (ha : IsLack A LA a) (hb : IsLack B LB b)
    (hs : ∀ r ∈ A, r ∈ B) (hl : ∀ r ∈ A, ∀ c, LB r c → LA r c) : a ≤ b := by
  obtain ⟨oA, DA, CA, rfl⟩ := ha
  obtain ⟨oB, DB, CB, rfl⟩ := hb
  exact cover_le hA hB CA CB hs hl
theorem IsLack.same {A : List Nat} {LA LB : Nat → Nat → Prop} {a b : Nat} (hA : A.Nodup) (ha : IsLack A LA a) (hb : IsLack A LB b) (hl : ∀ r ∈ A, ∀ c, LB r c ↔ LA r c) : a = b :=
  Nat.le_antisymm (ha.le hA hA hb (fun _ h => h) (fun r h c => (hl r h c).mp)) (hb.le hA hA ha (fun _ h => h) (fun r h c => (hl r h c).mpr))
theorem isLack_nil {L : Nat → Nat → Prop} : IsLack [] L 0 := ⟨[], [], ⟨List.nodup_nil, List.nodup_nil, nofun, nofun, List.nodup_nil, nofun, nofun, nofun⟩, rfl⟩
end K77
end

section
set_option maxRecDepth 100000
set_option maxHeartbeats 4000000
/-! Offsets, what is seen, what is sure, what is linked; what a better camera does. Plain Lean. -/
namespace K77
structure Cam where
  r : Int
  b : Int
  g : Int
  l : Int
  deriving DecidableEq
abbrev Star := Int × Int × Int
abbrev Att := Int × Int × Int
structure Sk where
  n : Int
  st : List Star
  cam : Cam
def CamOk (n : Int) (c : Cam) : Prop := 0 ≤ c.r ∧ c.r ≤ 4 ∧ 0 ≤ c.b ∧ c.b ≤ 2 ∧ 0 ≤ c.g ∧ c.g ≤ 2 ∧ 1 ≤ c.l ∧ c.l ≤ 9 ∧ c.b ≤ c.r ∧ 2 * (c.r + c.b) + 1 ≤ n
instance (n : Int) (c : Cam) : Decidable (CamOk n c) := by unfold CamOk; infer_instance
def SideOk (n : Int) : Prop := n = 4 ∨ n = 5 ∨ n = 6
def StarOk (n : Int) (s : Star) : Prop := 0 ≤ s.1 ∧ s.1 < n ∧ 0 ≤ s.2.1 ∧ s.2.1 < n ∧ 1 ≤ s.2.2 ∧ s.2.2 ≤ 9
def AttOk (n : Int) (a : Att) : Prop := 0 ≤ a.1 ∧ a.1 < n ∧ 0 ≤ a.2.1 ∧ a.2.1 < n ∧ 0 ≤ a.2.2 ∧ a.2.2 ≤ 3
def near (n z : Int) : Int := if 2 * (z % n) ≤ n then z % n else z % n - n
/-- turned by k quarter turns -/
def turn : Nat → Int × Int → Int × Int
  | 0, p => p
  | k + 1, p => turn k (-p.2, p.1)
/-- the pair that is nearest, not turned -/
def near2 (n : Int) (a : Att) (s : Star) : Int × Int := (near n (s.1 - a.1), near n (s.2.1 - a.2.1))
def iabs (x : Int) : Int := if x < 0 then -x else x
def imax (x y : Int) : Int := if y > x then y else x
def far (p : Int × Int) : Int := imax (iabs p.1) (iabs p.2)
/-- the offset, whether in reach or not -/
def offs (n : Int) (a : Att) (s : Star) : Int × Int := turn ((-a.2.2) % 4).toNat (near2 n a s)
theorem far_turn : ∀ (k : Nat) (p : Int × Int), far (turn k p) = far p
  | 0, p => rfl
  | k + 1, p => by
    show far (turn k (-p.2, p.1)) = far p
    rw [far_turn k]
    unfold far imax iabs
    repeat' split
    all_goals omega
theorem far_offs (n : Int) (a : Att) (s : Star) : far (offs n a s) = far (near2 n a s) := far_turn _ _
theorem far_le {p : Int × Int} {m : Int} : far p ≤ m ↔ (-m ≤ p.1 ∧ p.1 ≤ m ∧ -m ≤ p.2 ∧ p.2 ≤ m) := by
  unfold far imax iabs
  constructor
  · intro h
    repeat' split at h
    all_goals omega
  · intro h
    repeat' split
    all_goals omega
/-- the law's way of finding an offset -/
theorem geo {n room : Int} (hn : SideOk n) (hr : 2 * room + 1 ≤ n) {a : Att} {s : Star} (ha : AttOk n a) (hs : 0 ≤ s.1 ∧ s.1 < n ∧ 0 ≤ s.2.1 ∧ s.2.1 < n) {d : Int × Int} (hd : -room ≤ d.1 ∧ d.1 ≤ room ∧ -room ≤ d.2 ∧ d.2 ≤ room) :
    ((a.1 + (turn a.2.2.toNat d).1) % n = s.1 ∧ (a.2.1 + (turn a.2.2.toNat d).2) % n = s.2.1) ↔ (far (near2 n a s) ≤ room ∧ offs n a s = d) := by
  obtain ⟨ax, ay, q⟩ := a
  obtain ⟨sx, sy, sb⟩ := s
  obtain ⟨dx, dy⟩ := d
  obtain ⟨h1, h2, h3, h4, h5, h6⟩ := ha
  simp only [] at h1 h2 h3 h4 h5 h6 hd hs
  rw [far_le]
  have hq : q = 0 ∨ q = 1 ∨ q = 2 ∨ q = 3 := by omega
  rcases hn with rfl | rfl | rfl <;> rcases hq with rfl | rfl | rfl | rfl <;>
    (simp only [offs, near2, near, turn, show (-(0:Int)) % 4 = 0 by decide, show (-(1:Int)) % 4 = 3 by decide, show (-(2:Int)) % 4 = 2 by decide, show (-(3:Int)) % 4 = 1 by decide, show (0:Int).toNat = 0 by rfl, show (1:Int).toNat = 1 by rfl, show (2:Int).toNat = 2 by rfl, show (3:Int).toNat = 3 by rfl, Prod.mk.injEq]; split <;> split <;> omega)

namespace Sk
variable (S : Sk)
def starAt (i : Nat) : Star := S.st.getD i (0, 0, 0)
def off (a : Att) (i : Nat) : Int × Int := offs S.n a (S.starAt i)
def inReach (a : Att) (i : Nat) : Prop := far (S.off a i) ≤ S.cam.r + S.cam.b
def seen (a : Att) (i : Nat) : Prop := i < S.st.length ∧ S.inReach a i ∧ far (S.off a i) ≤ S.cam.r + S.cam.b ∧ (S.starAt i).2.2 ≥ S.cam.l - S.cam.g
def sure (a : Att) (i : Nat) : Prop := i < S.st.length ∧ S.inReach a i ∧ far (S.off a i) ≤ S.cam.r - S.cam.b ∧ (S.starAt i).2.2 ≥ S.cam.l + S.cam.g
instance (a : Att) (i : Nat) : Decidable (S.seen a i) := by unfold seen inReach; infer_instance
instance (a : Att) (i : Nat) : Decidable (S.sure a i) := by unfold sure inReach; infer_instance
def nearBy (one other : Att) (i j : Nat) : Prop := iabs ((S.off one i).1 - (S.off other j).1) ≤ 2 * S.cam.b ∧ iabs ((S.off one i).2 - (S.off other j).2) ≤ 2 * S.cam.b ∧ iabs ((S.starAt i).2.2 - (S.starAt j).2.2) ≤ 2 * S.cam.g
def link (one other : Att) (i j : Nat) : Prop := S.seen one i ∧ S.seen other j ∧ S.nearBy one other i j
instance (one other : Att) (i j : Nat) : Decidable (S.nearBy one other i j) := by unfold nearBy; infer_instance
instance (one other : Att) (i j : Nat) : Decidable (S.link one other i j) := by unfold link; infer_instance
def seenL (a : Att) : List Nat := (List.range S.st.length).filter fun i => decide (S.seen a i)
def sureL (a : Att) : List Nat := (List.range S.st.length).filter fun i => decide (S.sure a i)
theorem mem_seenL {a : Att} {i : Nat} : i ∈ S.seenL a ↔ S.seen a i := by
  unfold seenL
  rw [List.mem_filter, List.mem_range, decide_eq_true_eq]
  exact ⟨fun h => h.2, fun h => ⟨h.1, h⟩⟩
theorem mem_sureL {a : Att} {i : Nat} : i ∈ S.sureL a ↔ S.sure a i := by
  unfold sureL
  rw [List.mem_filter, List.mem_range, decide_eq_true_eq]
  exact ⟨fun h => h.2, fun h => ⟨h.1, h⟩⟩
theorem sureL_nd (a : Att) : (S.sureL a).Nodup := List.nodup_range.filter _
theorem seenL_nd (a : Att) : (S.seenL a).Nodup := List.nodup_range.filter _
/-- k is the lack of one by other -/
def Lack (one other : Att) (k : Nat) : Prop := IsLack (S.sureL one) (S.link one other) k
end Sk
theorem iabs_le {x m : Int} : iabs x ≤ m ↔ -m ≤ x ∧ x ≤ m := by
  unfold iabs
  split <;> omega
theorem Lack_one {S : Sk} {one other : Att} {a b : Nat} (ha : S.Lack one other a) (hb : S.Lack one other b) : a = b := ha.same (S.sureL_nd one) hb fun _ _ _ => Iff.rfl
/-- w is no better than b: no fewer errors, no more sure stars -/
structure Worse (w b : Cam) : Prop where
  blur : b.b ≤ w.b
  glare : b.g ≤ w.g
  room : w.r - w.b ≤ b.r - b.b
  bright : b.l + b.g ≤ w.l + w.g
  b0 : 0 ≤ b.b
  g0 : 0 ≤ b.g
theorem sure_seen {S : Sk} (hb : 0 ≤ S.cam.b) (hg : 0 ≤ S.cam.g) {a : Att} {i : Nat} (h : S.sure a i) : S.seen a i := by
  obtain ⟨h1, h2, h3, h4⟩ := h
  exact ⟨h1, h2, h2, by omega⟩
/-- THE LAW OF THE CAMERAS: with the worse camera no lack is greater -/
theorem lack_worse {n : Int} {st : List Star} {w b : Cam} (hw : Worse w b) {one other : Att} {i j : Nat} (hi : (Sk.mk n st w).Lack one other i) (hj : (Sk.mk n st b).Lack one other j) : i ≤ j := by
  obtain ⟨k1, k2, k3, k4, k5, k6⟩ := hw
  refine hi.le (Sk.sureL_nd _ _) (Sk.sureL_nd _ _) hj (fun r hr => ?_) (fun r hr c hc => ?_)
  · rw [Sk.mem_sureL] at hr ⊢
    obtain ⟨h1, h2, h3, h4⟩ := hr
    simp only [Sk.inReach, Sk.off, Sk.starAt] at h1 h2 h3 h4
    refine ⟨h1, ?_, ?_, ?_⟩ <;> simp only [Sk.inReach, Sk.off, Sk.starAt] <;> omega
  · rw [Sk.mem_sureL] at hr
    have hs := sure_seen (S := ⟨n, st, w⟩) (by simp only []; omega) (by simp only []; omega) hr
    refine ⟨hs, ?_, ?_⟩
    · obtain ⟨h1, h2, h3, h4⟩ := hr
      obtain ⟨_, ⟨c1, c2, _, c4⟩, n1, n2, n3⟩ := hc
      simp only [Sk.off, Sk.starAt, iabs_le] at n1 n2 n3
      simp only [Sk.inReach, Sk.off, Sk.starAt, far_le] at h2 h3 h4 c2 c4 c1
      have f : far (offs n other (st.getD c (0, 0, 0))) ≤ w.r + w.b := by
        rw [far_le]
        omega
      refine ⟨c1, f, f, ?_⟩
      simp only [Sk.starAt]
      omega
    · obtain ⟨_, _, n1, n2, n3⟩ := hc
      simp only [Sk.off, Sk.starAt, iabs_le] at n1 n2 n3
      refine ⟨?_, ?_, ?_⟩ <;> simp only [Sk.off, Sk.starAt, iabs_le] <;> omega
/-- a number that is near to two others within some bounds: the law's way of saying that a spot fits both -/
theorem common_iff {lo hi x y b : Int} (hx : lo - b ≤ x ∧ x ≤ hi + b) (hy : lo - b ≤ y ∧ y ≤ hi + b) (h : lo ≤ hi) (hb : 0 ≤ b) :
    (∃ k, lo ≤ k ∧ k < hi + 1 ∧ iabs (k - x) ≤ b ∧ iabs (k - y) ≤ b) ↔ iabs (x - y) ≤ 2 * b := by
  simp only [iabs_le]
  constructor
  · rintro ⟨k, h1, h2, h3, h4⟩
    omega
  · intro h
    refine ⟨max lo (max (x - b) (y - b)), ?_, ?_, ?_, ?_⟩ <;> omega
end K77
end

section
set_option maxRecDepth 100000
set_option maxHeartbeats 4000000
namespace K77
open PySem L2 Evl
/-! ### a def that is known by its name -/
structure Kn (P : Program) (w : World) (K : PySem.W.Frag) (mg : PySem.Str → Option Value) (base : Heap) (x : PySem.Str) (k : Nat) (ps : List PySem.Str) (sp : Sp) : Prop where
  ex : ∃ (f : Addr) (fd : FuncData), FnOk P w K mg base CX0 k f fd ps sp ∧ mg x = some (.ref f) ∧ PySem.W.keepIn K (.ref f) = true ∧ Binds K fd ps []
def Df (K : PySem.W.Frag) (mg : PySem.Str → Option Value) (x : PySem.Str) (st : Stmt) : Prop := ∃ (f : Addr) (fd : FuncData), Fun K x x st f fd ∧ mg x = some (.ref f)
section
variable {P : Program} {w : World} {K : PySem.W.Frag} {mg : PySem.Str → Option Value} {base : Heap}
theorem kn_mk {x : PySem.Str} {k : Nat} {ps : List PySem.Str} {sp : Sp} {st : Stmt} {f : Addr} {fd : FuncData} (F : Fun K x x st f fd) (hm : mg x = some (.ref f)) (hb : Binds K fd ps []) (h : FnOk P w K mg base CX0 k f fd ps sp) :
    Kn P w K mg base x k ps sp := ⟨f, fd, h, hm, F.kp, hb⟩
theorem Kn.imp {x : PySem.Str} {k : Nat} {ps : List PySem.Str} {sp sp' : Sp} (G : Kn P w K mg base x k ps sp) (h : ∀ vs H Q E, sp' vs H Q E → sp vs H Q E) : Kn P w K mg base x k ps sp' := by
  obtain ⟨f, fd, h1, h2⟩ := G.ex
  exact ⟨f, fd, h1.imp h, h2⟩
end
section
variable {X : Cx}
theorem pe_own {x : PySem.Str} {j k : Nat} {ps : List PySem.Str} {sp : Sp} {p pos : Pos} {e : Expr} {es : List Expr} {t : TA} (G : Kn X.prog X.w X.K X.mg X.base x j ps sp) (hr : Room k X.A) (ha : PA X (e :: es) t) (hj : j ≤ k := by decide) (hg : Gl X x := by rfl)
    (hdb : (x == ("__debug__" : PySem.Str)) = false := by decide) (he : starEach (e :: es) X.env = (false, eval e X.env) :: starEach es X.env := by rfl) (hpl : (backTo pos (starEach es X.env)).any (·.1) = false := by rfl) :
    PE X (.Call (.Name x p) (e :: es) [] pos) (tCall sp [] E0 t) := by
  obtain ⟨f, fd, h1, h2, h3, h4⟩ := G.ex
  exact pe_call h1 (hr.mono hj) hg h2 h3 h4 .nil pass0 ha hdb he hpl
end
/-! ### a property that is known by its name -/
structure KnP (P : Program) (w : World) (K : PySem.W.Frag) (mg : PySem.Str → Option Value) (base : Heap) (C : Addr) (f : PySem.Str) (sp : Sp) : Prop where
  cl : Cls K C
  ex : ∃ (p g : Addr) (fd : FuncData), PropOf K C f p g ∧ FnOk P w K mg base CX0 1 g fd ["self"] sp ∧ Binds K fd ["self"] []
section
variable {X : Cx}
theorem pe_prp {C : Addr} {f : PySem.Str} {sp : Sp} {k : Nat} {e : Expr} {pos : Pos} {ta : TE} (G : KnP X.prog X.w X.K X.mg X.base C f sp) (hr : Room k X.A) (he : PE X e ta) (hj : 2 ≤ k := by decide)
    (hab : attributeBase e f X.env (eval e X.env) = eval e X.env := by rfl) : PE X (.Attribute e f pos) (tProp C sp [] E0 ta) := by
  obtain ⟨p, g, fd, h1, h2, h3⟩ := G.ex
  exact pe_prop he G.cl h1 h2 (hr.mono hj) h3 .nil pass0 hab
end

/-! ### what evaluates, with what is then known -/
abbrev PH := V → Hp → Prop
abbrev St := L2.St
def EvP (te : TE) (σ : St) (H : Hp) (R : PH) : Prop := ∀ H1, Ex H H1 → ∀ Q : VK, (∀ v H2, Ex H1 H2 → R v H2 → Q v H2) → te σ H1 Q
/-- a call by its promise -/
def SpP (sp : Sp) (vs : List V) (H : Hp) (R : PH) : Prop := ∀ H1, Ex H H1 → ∀ Q : VK, (∀ v H2, Ex H1 H2 → R v H2 → Q v H2) → ∀ E : XK, sp vs H1 Q E
section
variable {K : PySem.W.Frag} {σ : St} {H H' : Hp} {ta tb te : TE} {v x y z : V} {R : PH} {D : Ends} {tz : TS}
theorem EvP.mono (e : Ex H H') (h : EvP te σ H R) : EvP te σ H' R := fun H1 a Q q => h H1 (e.trans a) Q q
theorem EvP.imp {R' : PH} (h : EvP te σ H R) (hr : ∀ v H1, Ex H H1 → R v H1 → R' v H1) : EvP te σ H R' := fun H1 a Q q => h H1 a Q fun v H2 e r => q v H2 e (hr v H2 (a.trans e) r)
theorem Ev.p (h : Ev te σ H v) (r : ∀ H1, Ex H H1 → R v H1) : EvP te σ H R := fun H1 a Q q => h H1 a Q fun H2 e => q v H2 e (r H2 (a.trans e))
theorem cps (h : Ev te σ H v) {Q : VK} (k : ∀ H1, Ex H H1 → Q v H1) : te σ H Q := h H (Ex.refl H) Q k
theorem cpsP (h : EvP te σ H R) {Q : VK} (k : ∀ v H1, Ex H H1 → R v H1 → Q v H1) : te σ H Q := h H (Ex.refl H) Q k
theorem cpsT {t : TT} {b : Bool} (h : EvT t σ H b) {Q : Bool → Hp → Prop} (k : ∀ H1, Ex H H1 → Q b H1) : t σ H Q := h H (Ex.refl H) Q k
theorem evp_call {sp : Sp} {vs : List V} {ta : TA} (ha : EvA ta σ H vs) (hs : SpP sp vs H R) : EvP (tCall sp [] E0 ta) σ H R := fun H1 e Q q =>
  ha H1 e _ fun H2 e2 => by
    show sp (vs ++ []) H2 Q E0
    rw [List.append_nil]
    exact hs H2 (e.trans e2) Q (fun v H3 e3 r => q v H3 (e2.trans e3) r) E0
theorem ev_callV {sp : Sp} {vs : List V} {ta : TA} (ha : EvA ta σ H vs) (hs : SpV sp vs H z) : Ev (tCall sp [] E0 ta) σ H z := fun H1 e Q q =>
  ha H1 e _ fun H2 e2 => by
    show sp (vs ++ []) H2 Q E0
    rw [List.append_nil]
    exact hs H2 (e.trans e2) Q (fun H3 e3 => q H3 (e2.trans e3)) E0
/-! statements -/
theorem s_asgP {i : Nat} (h : EvP te σ H R) (k : ∀ v H1, Ex H H1 → R v H1 → D.nx (σ.set i (some v)) H1) : tAsg te (gName i) D σ H := cpsP h k
theorem q_asgP {i : Nat} (h : EvP te σ H R) (k : ∀ v H1, Ex H H1 → R v H1 → tz D (σ.set i (some v)) H1) : tSeq (tAsg te (gName i)) tz D σ H := cpsP h k
theorem s_retP (h : EvP te σ H R) (k : ∀ v H1, Ex H H1 → R v H1 → D.rt v H1) : tRet te D σ H := cpsP h k
theorem q_cutI {t u : TS} (Mid : St → Hp → Prop) (h : t { D with nx := Mid } σ H) (k : ∀ σ' H', Mid σ' H' → u D σ' H') : tCut t u D σ H := ⟨Mid, h, k⟩
/-! operators -/
theorem rv_mod {i j : Int} (h : 0 < j) : RV (rI (fun _ j => 0 < j) fun i j => .int (i % j)) (.int i) (.int j) H (.int (i % j)) := rv_I (C := fun _ j => 0 < j) h
theorem rv_mul {i j : Int} (h : CMul i j) : RV (rI CMul fun i j => .int (i * j)) (.int i) (.int j) H (.int (i * j)) := rv_I (C := CMul) h
theorem rv_fdiv {i j : Int} (h : CDiv i j) : RV (rI CDiv fun i j => .int (i / j)) (.int i) (.int j) H (.int (i / j)) := rv_I (C := CDiv) h
theorem rv_pow {i j : Int} (h : CPow i j) : RV (rI CPow fun i j => .int (i ^ j.toNat)) (.int i) (.int j) H (.int (i ^ j.toNat)) := rv_I (C := CPow) h
theorem mul_l {i j : Int} (h : -1000000 ≤ i ∧ i ≤ 1000000) : CMul i j := .inl ⟨by omega, by omega⟩
theorem mul_r {i j : Int} (h : -1000000 ≤ j ∧ j ≤ 1000000) : CMul i j := .inr ⟨by omega, by omega⟩
theorem div_ok {i j : Int} (h : 0 < j ∧ j < 1000000) : CDiv i j := ⟨h.1, by omega⟩
abbrev rIsNon : R2 := fun x y H Q => y = .non ∧ Q (.bl (decide (x = .non))) H
abbrev rNotNon : R2 := fun x y H Q => y = .non ∧ Q (.bl (!decide (x = .non))) H
theorem rv_isN : RV rIsNon x .non H (.bl (decide (x = .non))) := fun H1 _ _ q => ⟨rfl, q H1 (Ex.refl H1)⟩
theorem rv_notN : RV rNotNon x .non H (.bl (!decide (x = .non))) := fun H1 _ _ q => ⟨rfl, q H1 (Ex.refl H1)⟩
/-- an item of a tuple | a list, the object told -/
theorem rv_tup {p : Addr} {xs : List V} {i : Int} (h : H p = some (.tup xs)) (ha : atI xs i = some v) : RV (rIxT K) (.ref p) (.int i) H v := rv_ixT (st_of h) ha
theorem rv_lst {p : Addr} {xs : List V} {i : Int} (h : H p = some (.lst xs)) (ha : atI xs i = some v) : RV (rIxL K) (.ref p) (.int i) H v := rv_ixL (sq_of h) ha
theorem atI_nth {α : Type} {xs : List α} {j : Nat} {a : α} (h : xs[j]? = some a) : atI xs (j : Int) = some a := by
  have hj : j < xs.length := (List.getElem?_eq_some_iff.mp h).1
  unfold atI
  rw [ixN_nat hj]
  exact h
theorem atI_int {α : Type} {xs : List α} {i : Int} {a : α} (h0 : 0 ≤ i) (h : xs[i.toNat]? = some a) : atI xs i = some a := by
  have e : ((i.toNat : Nat) : Int) = i := Int.toNat_of_nonneg h0
  rw [← e]
  exact atI_nth h
/-! built-in functions -/
abbrev rAbs : List V → Hp → VK → Prop := fun xs H Q => ∃ i, xs = [.int i] ∧ Q (.int (if i < 0 then -i else i)) H
abbrev rMax : List V → Hp → VK → Prop := fun xs H Q => ∃ i j, xs = [.int i, .int j] ∧ Q (.int (if j > i then j else i)) H
abbrev rMin : List V → Hp → VK → Prop := fun xs H Q => ∃ i j, xs = [.int i, .int j] ∧ Q (.int (if j < i then j else i)) H
abbrev rInt : List V → Hp → VK → Prop := fun xs H Q => (∃ i, xs = [.int i] ∧ Q (.int i) H) ∨ ∃ k, xs = [.bl k] ∧ Q (.int (if k then 1 else 0)) H
abbrev rLenQ (K : PySem.W.Frag) : List V → Hp → VK → Prop := fun xs H Q => ∃ p ys, xs = [.ref p] ∧ (SqL K H p ys ∨ SqT K H p ys) ∧ Q (.int ys.length) H
theorem ev_abs {i : Int} (h : Ev ta σ H (.int i)) : Ev (tCB rAbs (tCons ta tNil)) σ H (.int (iabs i)) := fun H1 e Q q => h H1 e _ fun H2 e2 => ⟨i, rfl, q H2 e2⟩
theorem ev_max {i j : Int} (h : Ev ta σ H (.int i)) (h2 : Ev tb σ H (.int j)) : Ev (tCB rMax (tCons ta (tCons tb tNil))) σ H (.int (imax i j)) := fun H1 e Q q => h H1 e _ fun H2 e2 => h2 H2 (e.trans e2) _ fun H3 e3 => ⟨i, j, rfl, q H3 (e2.trans e3)⟩
def imin (i j : Int) : Int := if j < i then j else i
theorem ev_min {i j : Int} (h : Ev ta σ H (.int i)) (h2 : Ev tb σ H (.int j)) : Ev (tCB rMin (tCons ta (tCons tb tNil))) σ H (.int (imin i j)) := fun H1 e Q q => h H1 e _ fun H2 e2 => h2 H2 (e.trans e2) _ fun H3 e3 => ⟨i, j, rfl, q H3 (e2.trans e3)⟩
theorem ev_int {i : Int} (h : Ev ta σ H (.int i)) : Ev (tCB rInt (tCons ta tNil)) σ H (.int i) := fun H1 e Q q => h H1 e _ fun H2 e2 => .inl ⟨i, rfl, q H2 e2⟩
theorem ev_intB {b : Bool} (h : Ev ta σ H (.bl b)) : Ev (tCB rInt (tCons ta tNil)) σ H (.int (if b then 1 else 0)) := fun H1 e Q q => h H1 e _ fun H2 e2 => .inr ⟨b, rfl, q H2 e2⟩
theorem ev_lenL {p : Addr} {xs : List V} (ha : Ev ta σ H (.ref p)) (h : H p = some (.lst xs)) : Ev (tCB (rLenQ K) (tCons ta tNil)) σ H (.int (xs.length : Int)) := fun H1 e Q q =>
  ha H1 e _ fun H2 e2 => ⟨p, xs, rfl, Or.inl (ex_l (e.trans e2) (sq_of h)), q H2 e2⟩
theorem ev_lenS {p : Addr} {xs : List V} (ha : Ev ta σ H (.ref p)) (h : SqL K H p xs) : Ev (tCB (rLenQ K) (tCons ta tNil)) σ H (.int (xs.length : Int)) := fun H1 e Q q =>
  ha H1 e _ fun H2 e2 => ⟨p, xs, rfl, Or.inl (ex_l (e.trans e2) h), q H2 e2⟩
theorem ev_lenT {p : Addr} {xs : List V} (ha : Ev ta σ H (.ref p)) (h : H p = some (.tup xs)) : Ev (tCB (rLenQ K) (tCons ta tNil)) σ H (.int (xs.length : Int)) := fun H1 e Q q =>
  ha H1 e _ fun H2 e2 => ⟨p, xs, rfl, Or.inr (ex_t (e.trans e2) (st_of h)), q H2 e2⟩
/-- a chain of two comparisons of whole numbers -/
theorem ev_chain {tc : TE} {g1 g2 : Int → Int → Bool} {i j k : Int} (ha : Ev ta σ H (.int i)) (hb : Ev tb σ H (.int j)) (hc : Ev tc σ H (.int k)) :
    Ev (tChain (rI0 fun i j => .bl (g1 i j)) (rI0 fun i j => .bl (g2 i j)) ta tb tc) σ H (.bl (g1 i j && g2 j k)) := fun H1 e Q q =>
  ha H1 e _ fun H2 e2 => hb H2 (e.trans e2) _ fun H3 e3 => ⟨i, j, rfl, rfl, g1 i j, rfl, by
    cases h : g1 i j with
    | true => exact iteT (hc H3 ((e.trans e2).trans e3) _ fun H4 e4 => ⟨j, k, rfl, rfl, by
        have q' := q H4 ((e2.trans e3).trans e4)
        rw [h, Bool.true_and] at q'
        exact q'⟩)
    | false =>
      have q' := q H3 (e2.trans e3)
      rw [h, Bool.false_and] at q'
      exact iteF q'⟩
theorem et_chain {tc : TE} {g1 g2 : Int → Int → Bool} {i j k : Int} (ha : Ev ta σ H (.int i)) (hb : Ev tb σ H (.int j)) (hc : Ev tc σ H (.int k)) :
    EvT (tTest (tChain (rI0 fun i j => .bl (g1 i j)) (rI0 fun i j => .bl (g2 i j)) ta tb tc)) σ H (g1 i j && g2 j k) := et_test (ev_chain ha hb hc)
/-- the truth of a list -/
theorem et_tru {xs : List V} {p : Addr} (ha : Ev ta σ H (.ref p)) (h : H p = some (.lst xs)) : EvT (fun σ H Q => ta σ H fun x H' => ∃ k, TruV K x H' k ∧ Q k H') σ H (!xs.isEmpty) := fun H1 e Q q =>
  ha H1 e _ fun H2 e2 => ⟨_, .inl ⟨xs, ex_l (e.trans e2) (sq_of h), rfl⟩, q H2 e2⟩
/-! more of statements -/
theorem g_tup2 {n i j : Nat} {a : Addr} {Q : St → Hp → Prop} (h : H a = some (.tup [x, y])) (k : Q ((σ.set i (some x)).set j (some y)) H) (hn : 2 = n := by rfl) : gTup K n (gCons (gName i) (gCons (gName j) gNil)) (.ref a) σ H Q :=
  ⟨a, [x, y], rfl, st_of h, hn, x, [y], rfl, y, [], rfl, rfl, k⟩
theorem g_tup3 {n i j l : Nat} {a : Addr} {Q : St → Hp → Prop} (h : H a = some (.tup [x, y, z])) (k : Q (((σ.set i (some x)).set j (some y)).set l (some z)) H) (hn : 3 = n := by rfl) : gTup K n (gCons (gName i) (gCons (gName j) (gCons (gName l) gNil))) (.ref a) σ H Q :=
  ⟨a, [x, y, z], rfl, st_of h, hn, x, [y, z], rfl, y, [z], rfl, z, [], rfl, rfl, k⟩
theorem g_tup4 {n i j l m : Nat} {u : V} {a : Addr} {Q : St → Hp → Prop} (h : H a = some (.tup [x, y, z, u])) (k : Q ((((σ.set i (some x)).set j (some y)).set l (some z)).set m (some u)) H) (hn : 4 = n := by rfl) :
    gTup K n (gCons (gName i) (gCons (gName j) (gCons (gName l) (gCons (gName m) gNil)))) (.ref a) σ H Q :=
  ⟨a, [x, y, z, u], rfl, st_of h, hn, x, [y, z, u], rfl, y, [z, u], rfl, z, [u], rfl, u, [], rfl, rfl, k⟩
theorem s_par {i j : Nat} {ta : TA} (h : EvA ta σ H [x, y]) (k : ∀ H1, Ex H H1 → D.nx ((σ.set i (some x)).set j (some y)) H1) : tPar i j ta D σ H := h H (Ex.refl H) _ fun H1 e => ⟨x, y, rfl, k H1 e⟩
theorem q_par {i j : Nat} {ta : TA} (h : EvA ta σ H [x, y]) (k : ∀ H1, Ex H H1 → tz D ((σ.set i (some x)).set j (some y)) H1) : tSeq (tPar i j ta) tz D σ H := h H (Ex.refl H) _ fun H1 e => ⟨x, y, rfl, k H1 e⟩
theorem q_par3 {i j l : Nat} {ta : TA} (h : EvA ta σ H [x, y, z]) (k : ∀ H1, Ex H H1 → tz D (((σ.set i (some x)).set j (some y)).set l (some z)) H1) : tSeq (tPar3 i j l ta) tz D σ H := h H (Ex.refl H) _ fun H1 e => ⟨x, y, z, rfl, k H1 e⟩
theorem q_unp2 {n i j : Nat} {a : Addr} (h : Ev te σ H (.ref a)) (ha : H a = some (.tup [x, y])) (k : ∀ H1, Ex H H1 → tz D ((σ.set i (some x)).set j (some y)) H1) (hn : 2 = n := by rfl) : tSeq (tAsg te (gTup K n (gCons (gName i) (gCons (gName j) gNil)))) tz D σ H :=
  cps h fun H1 e => g_tup2 (e _ _ ha) (k H1 e) hn
theorem q_unp3 {n i j l : Nat} {a : Addr} (h : Ev te σ H (.ref a)) (ha : H a = some (.tup [x, y, z])) (k : ∀ H1, Ex H H1 → tz D (((σ.set i (some x)).set j (some y)).set l (some z)) H1) (hn : 3 = n := by rfl) : tSeq (tAsg te (gTup K n (gCons (gName i) (gCons (gName j) (gCons (gName l) gNil))))) tz D σ H :=
  cps h fun H1 e => g_tup3 (e _ _ ha) (k H1 e) hn
theorem q_unp4 {n i j l m : Nat} {u : V} {a : Addr} (h : Ev te σ H (.ref a)) (ha : H a = some (.tup [x, y, z, u])) (k : ∀ H1, Ex H H1 → tz D ((((σ.set i (some x)).set j (some y)).set l (some z)).set m (some u)) H1) (hn : 4 = n := by rfl) :
    tSeq (tAsg te (gTup K n (gCons (gName i) (gCons (gName j) (gCons (gName l) (gCons (gName m) gNil)))))) tz D σ H :=
  cps h fun H1 e => g_tup4 (e _ _ ha) (k H1 e) hn
/-- facts at a later heap -/
theorem Ex.get {p : Addr} {o : HO} (e : Ex H H') (h : H p = some o) : H' p = some o := e p o h
end
/-! ### what stands where -/
/-- a promise by what is asked ahead and what is known of the result -/
def SpG (n : Nat) (Pre : List V → Hp → PH → Prop) : Sp := fun vs H Q _ => vs.length = n ∧ ∃ R, Pre vs H R ∧ ∀ v H', Ex H H' → R v H' → Q v H'
theorem spg {n : Nat} {Pre : List V → Hp → PH → Prop} {vs : List V} {H : Hp} {R : PH} (h : ∀ H1, Ex H H1 → Pre vs H1 R) (hl : vs.length = n := by rfl) : SpP (SpG n Pre) vs H R := fun H1 e Q q _ => ⟨hl, R, h H1 e, q⟩
theorem spg' {n : Nat} {Pre : List V → Hp → PH → Prop} {vs : List V} {H : Hp} {R : PH} (h : ∀ H1, Ex H H1 → ∃ R', Pre vs H1 R' ∧ ∀ v H2, Ex H1 H2 → R' v H2 → R v H2) (hl : vs.length = n := by rfl) : SpP (SpG n Pre) vs H R := fun H1 e Q q _ => by
  obtain ⟨R', hp, hr⟩ := h H1 e
  exact ⟨hl, R', hp, fun v H2 e2 r => q v H2 e2 (hr v H2 e2 r)⟩
/-- the value is just this -/
abbrev is (x : V) : PH := fun v _ => v = x
theorem spgV {n : Nat} {Pre : List V → Hp → PH → Prop} {vs : List V} {H : Hp} {z : V} (h : ∀ H1, Ex H H1 → Pre vs H1 (is z)) (hl : vs.length = n := by rfl) : SpV (SpG n Pre) vs H z := fun H1 e Q q _ => ⟨hl, is z, h H1 e, fun v H2 e2 r => by
  have r' : v = z := r
  rw [r']
  exact q H2 e2⟩
def T2 (t : Int × Int) : PH := fun v H => ∃ p, v = .ref p ∧ H p = some (.tup [.int t.1, .int t.2])
def T3 (t : Int × Int × Int) : PH := fun v H => ∃ p, v = .ref p ∧ H p = some (.tup [.int t.1, .int t.2.1, .int t.2.2])
def T4 (c : Cam) : PH := fun v H => ∃ p, v = .ref p ∧ H p = some (.tup [.int c.r, .int c.b, .int c.g, .int c.l])
def Lst {α : Type} (R : α → PH) (l : List α) (xs : List V) (H : Hp) : Prop := xs.length = l.length ∧ ∀ (i : Nat) (x : V), xs[i]? = some x → ∃ d : α, l[i]? = some d ∧ R d x H
def ListOf {α : Type} (R : α → PH) (l : List α) : PH := fun v H => ∃ p xs, v = .ref p ∧ H p = some (.lst xs) ∧ Lst R l xs H
def TupOf {α : Type} (R : α → PH) (l : List α) : PH := fun v H => ∃ p xs, v = .ref p ∧ H p = some (.tup xs) ∧ Lst R l xs H
/-- it stays as the heap grows -/
def Stb (R : PH) : Prop := ∀ v H H', Ex H H' → R v H → R v H'
section
variable {H H' : Hp} {v : V} {α : Type}
theorem T2.up {t : Int × Int} (e : Ex H H') (h : T2 t v H) : T2 t v H' := let ⟨p, a, b⟩ := h; ⟨p, a, e p _ b⟩
theorem T3.up {t : Int × Int × Int} (e : Ex H H') (h : T3 t v H) : T3 t v H' := let ⟨p, a, b⟩ := h; ⟨p, a, e p _ b⟩
theorem T4.up {c : Cam} (e : Ex H H') (h : T4 c v H) : T4 c v H' := let ⟨p, a, b⟩ := h; ⟨p, a, e p _ b⟩
theorem Lst.up {R : α → PH} {l : List α} {xs : List V} (hR : ∀ d, Stb (R d)) (e : Ex H H') (h : Lst R l xs H) : Lst R l xs H' := ⟨h.1, fun i x hx => let ⟨d, a, b⟩ := h.2 i x hx; ⟨d, a, hR d x H H' e b⟩⟩
theorem ListOf.up {R : α → PH} {l : List α} (hR : ∀ d, Stb (R d)) (e : Ex H H') (h : ListOf R l v H) : ListOf R l v H' := let ⟨p, xs, a, b, c⟩ := h; ⟨p, xs, a, e p _ b, c.up hR e⟩
theorem TupOf.up {R : α → PH} {l : List α} (hR : ∀ d, Stb (R d)) (e : Ex H H') (h : TupOf R l v H) : TupOf R l v H' := let ⟨p, xs, a, b, c⟩ := h; ⟨p, xs, a, e p _ b, c.up hR e⟩
theorem Lst.nil {R : α → PH} : Lst R [] [] H := ⟨rfl, fun i x h => by cases h⟩
theorem Lst.snoc {R : α → PH} {l : List α} {xs : List V} {d : α} {x : V} (h : Lst R l xs H) (hx : R d x H) : Lst R (l ++ [d]) (xs ++ [x]) H := by
  refine ⟨by rw [List.length_append, List.length_append, h.1] <;> rfl, fun i y hy => ?_⟩
  by_cases c : i < xs.length
  · rw [List.getElem?_append_left c] at hy
    obtain ⟨e, a, b⟩ := h.2 i y hy
    exact ⟨e, by rw [List.getElem?_append_left (by rw [← h.1]; exact c)]; exact a, b⟩
  · have c' : xs.length ≤ i := by omega
    rw [List.getElem?_append_right c'] at hy
    have ci : i - xs.length = 0 := by
      have := (List.getElem?_eq_some_iff.mp hy).1
      simp at this
      omega
    rw [ci] at hy
    have e : x = y := Option.some.inj hy
    refine ⟨d, ?_, by rw [← e]; exact hx⟩
    rw [List.getElem?_append_right (by rw [← h.1]; exact c'), ← h.1, ci]
    rfl
theorem Lst.at {R : α → PH} {l : List α} {xs : List V} {i : Nat} {d : α} (h : Lst R l xs H) (hd : l[i]? = some d) : ∃ x, xs[i]? = some x ∧ R d x H := by
  have hi : i < xs.length := by rw [h.1]; exact (List.getElem?_eq_some_iff.mp hd).1
  obtain ⟨e, a, b⟩ := h.2 i xs[i] (by simp [hi])
  rw [hd] at a
  cases a
  exact ⟨xs[i], by simp [hi], b⟩
theorem st_T2 (t : Int × Int) : Stb (T2 t) := fun _ _ _ e h => T2.up e h
theorem st_T3 (t : Int × Int × Int) : Stb (T3 t) := fun _ _ _ e h => T3.up e h
theorem st_T4 (c : Cam) : Stb (T4 c) := fun _ _ _ e h => T4.up e h
end
abbrev nV (i : Nat) : V := .int (i : Int)
/-! ### a sky -/
def skyF (n : Int) (sa ca : Addr) : List (PySem.Str × V) := [("_side", .int n), ("_stars", .ref sa), ("_camera", .ref ca)]
structure SkyA (C : Addr) (S : Sk) (p sa ca : Addr) (xs : List V) (H : Hp) : Prop where
  ob : ∃ dx, H p = some (.ins C dx (skyF S.n sa ca))
  st : H sa = some (.tup xs)
  sts : Lst T3 S.st xs H
  cm : H ca = some (.tup [.int S.cam.r, .int S.cam.b, .int S.cam.g, .int S.cam.l])
def SkyAt (C : Addr) (S : Sk) : PH := fun v H => ∃ p sa ca xs, v = .ref p ∧ SkyA C S p sa ca xs H
theorem SkyA.up {C : Addr} {S : Sk} {p sa ca : Addr} {xs : List V} {H H' : Hp} (e : Ex H H') (h : SkyA C S p sa ca xs H) : SkyA C S p sa ca xs H' :=
  ⟨let ⟨dx, a⟩ := h.ob; ⟨dx, e p _ a⟩, e sa _ h.st, h.sts.up st_T3 e, e ca _ h.cm⟩
theorem SkyAt.up {C : Addr} {S : Sk} {v : V} {H H' : Hp} (e : Ex H H') (h : SkyAt C S v H) : SkyAt C S v H' := let ⟨p, sa, ca, xs, a, b⟩ := h; ⟨p, sa, ca, xs, a, b.up e⟩
/-- the promise of a property -/
def spPr (C : Addr) (g : Sk → Addr → V) : Sp := SpG 1 fun vs H R => ∃ S p sa ca xs, vs = [.ref p] ∧ SkyA C S p sa ca xs H ∧ R = is (g S sa)
theorem ev_sky {C : Addr} {g : Sk → Addr → V} {S : Sk} {p sa ca : Addr} {xs : List V} {σ : St} {H : Hp} {ta : TE} (hv : Ev ta σ H (.ref p)) (h : SkyA C S p sa ca xs H) : Ev (tProp C (spPr C g) [] E0 ta) σ H (g S sa) := fun H1 e Q q =>
  hv H1 e _ fun H2 e2 => by
    have h2 := h.up (e.trans e2)
    obtain ⟨dx, ho⟩ := h2.ob
    refine ⟨p, dx, _, rfl, ho, rfl, is (g S sa), ⟨S, p, sa, ca, xs, rfl, h2, rfl⟩, fun v H3 e3 r => ?_⟩
    have r' : v = g S sa := r
    rw [r']
    exact q H3 (e2.trans e3)
end K77
end

section
set_option maxRecDepth 100000
set_option maxHeartbeats 4000000
namespace K77
open PySem L2 Evl PyProof.Rows
/-! ### enumerate(v), v anything that begins: without a start -/
theorem enum_new1 {v : Value} {o : Obj} {H : Heap → Prop} (B : Begins v o H) :
    Meets (Builtin.«enumerate.__new__» ⟨[.type "enumerate", v], []⟩) (fun _ R s => H s.heap ∧
      R (.ok (.ret (.ref (s.heap.push o).objs.size))) { s with heap := (s.heap.push o).push { cls := .type "enumerate", data := .fields #[.none, .bool false, .ref s.heap.objs.size, rawInt 0, .none, .none] } }) :=
  .of_wp fun prog w A R s hh => by
    obtain ⟨hp, g, d, tk, os⟩ := s
    obtain ⟨h1, h⟩ := hh
    have hsub := sub_enumerate
    have q1 : ∀ {A' : Around} {E : Value → Shared → Prop} {Q : Value → Shared → Prop}, Q (.ref hp.objs.size) ⟨hp.push o, g, d, tk, os⟩ → wpAny (model prog w) A' (pyIter v) Q E ⟨hp, g, d, tk, os⟩ :=
      fun q => B.iter prog w _ _ ⟨hp, g, d, tk, os⟩ _ h1 q
    wp_walk using q1
    refine wpAny_stack_any fun st => wpAny_pure ?_
    split
    · rename_i c _ _ _ _ _
      cases (c == Value.type "enumerate") <;> (wp_walk using q1; exact ⟨_, rfl, h⟩)
    · wp_walk using q1
      exact ⟨_, rfl, h⟩
section
variable {prog : Program} {w : World} {A : Around} {E : Value → Shared → Prop} {s : Shared}
theorem enum_call1 {v : Value} {o : Obj} {H : Heap → Prop} {Q : Value → Shared → Prop} (B : Begins v o H) (h1 : H s.heap)
    (h : ∀ h', IsEnum h' (s.heap.objs.size + 1) s.heap.objs.size 0 .none → h'.get? s.heap.objs.size = some o → (∀ b u, s.heap.get? b = some u → h'.get? b = some u) → Q (.ref (s.heap.objs.size + 1)) { s with heap := h' }) :
    wpAny (model prog w) A (call (.type "enumerate") [v]) Q E s := by
  refine callType_new F.called_enumerate (by decide) (F.typeCall_enumerate_1 _) (F.newCall_enumerate_1 _) (fun obj => F.args_object_init_2 obj _) F.entry_enumerate_new (enum_new1 B) ⟨h1, ?_⟩
  have hz : (s.heap.push o).objs.size = s.heap.objs.size + 1 := Heap.size_push ..
  have he : IsEnum ((s.heap.push o).push { cls := .type "enumerate", data := .fields #[.none, .bool false, .ref s.heap.objs.size, rawInt 0, .none, .none] }) (s.heap.objs.size + 1) s.heap.objs.size 0 .none := by
    have q := Heap.get?_push_size (s.heap.push o) (o := { cls := .type "enumerate", data := .fields #[.none, .bool false, .ref s.heap.objs.size, rawInt 0, .none, .none] }) rfl
    rw [hz] at q
    exact q
  show _ ∧ _
  rw [hz]
  exact ⟨⟨_, he, rfl⟩, h _ he (Heap.get?_push_of_some _ (Heap.get?_push_size _ B.free)) fun b u x => Heap.get?_push_of_some _ (Heap.get?_push_of_some _ x)⟩
end
/-- the tuple at a, each item in a new pair with its number -/
def ItE (K : PySem.W.Frag) (a : Addr) : It :=
  ⟨fun i H => ∃ (xs : List V) (x : V), SqT K H a xs ∧ xs[i]? = some x,
   fun i H v H' => ∃ T x, v = .ref T ∧ H T = none ∧ H' = upd H T (.tup [.int (i : Nat), x]) ∧ ∀ xs, SqT K H a xs → xs[i]? = some x,
   fun i H => ∃ xs : List V, SqT K H a xs ∧ xs.length = i⟩
/-- two things of unlike classes stand apart -/
theorem apart_cls {h : Heap} {a b : Addr} {o u : Obj} (ha : h.get? a = some o) (hb : h.get? b = some u) (hc : o.cls ≠ u.cls) : a ≠ b := fun e => by
  subst e
  rw [ha] at hb
  cases hb
  exact hc rfl
theorem turn_enumT {P : Program} {w : World} {K : PySem.W.Frag} {elts : List Expr} {kk : Nat} {tpos : Pos} (a e it : Addr) :
    Turn P w K (.Tuple elts kk tpos) (ItE K a) [e, it] e (fun i h => (∃ old, IsEnum h e it ((i : Nat) : Int) old) ∧ h.IsTupleIter it a i ∧ e ≠ it) where
  mem := List.mem_cons_self
  obj := fun i h st b hb => by
    obtain ⟨⟨old, he⟩, ⟨o, ho, hc, hd⟩, _⟩ := st
    rcases List.mem_cons.mp hb with z | z
    · exact ⟨_, by rw [z]; exact he, fun v q => by cases q⟩
    · exact ⟨o, by rw [List.mem_singleton.mp z]; exact ho, fun v q => by rw [hd] at q; cases q⟩
  keep := fun i h h' st k => by
    obtain ⟨⟨old, he⟩, hi, hne⟩ := st
    exact ⟨⟨old, k e (by simp) _ he⟩, hi.at fun o q => k it (by simp) o q, hne⟩
  item := by
    intro X hP hw hK hc i pins s σ H E I hf st hg
    subst hP hw hK
    obtain ⟨⟨old, he⟩, hit, hne⟩ := st
    obtain ⟨xs, x, hq, hx⟩ := hg
    obtain ⟨its, rv, p, hz⟩ := I.tuple hq
    obtain ⟨u, hu, ru⟩ := rv.get hx
    have hlt : i < its.toArray.size := by
      rw [List.size_toArray]
      exact (List.getElem?_eq_some_iff.mp hu).1
    have hel : e < s.heap.objs.size := Heap.lt_size he
    have hil : it < s.heap.objs.size := by
      obtain ⟨_, q, _⟩ := hit
      exact Heap.lt_size q
    have nit : a ≠ it := by
      obtain ⟨o1, h1, c1, _⟩ := id p
      obtain ⟨o2, h2, c2, _⟩ := id hit
      exact apart_cls h1 h2 (by rw [c1, c2]; intro z; injection z with z; exact absurd z (by decide))
    have nea : e ≠ a := by
      obtain ⟨o1, h1, c1, _⟩ := id p
      exact apart_cls he h1 (by rw [c1]; intro z; injection z with z; exact absurd z (by decide))
    have hh : X.A.in1.handled = none := by simp [I.ok.hd hc]
    refine wpAny_pyNext_enum_itemC (Draws.tuple hh it a nit its.toArray) he ⟨hit, p⟩ hlt hne (by simp [hne, nea]) fun x' h' tk hP ho hs' hT hsz hk => ?_
    obtain rfl : x' = u := by
      have q : its.toArray[i]? = some x' := hP
      rw [List.getElem?_toArray, hu] at q
      exact (Option.some.inj q).symm
    refine ⟨_, rfl, wpAny_letOwnedTupleGo_enum (s := { s with heap := h', toks := tk + 1 }) ho fun h'' he' sb => ?_⟩
    have hT2 : h''.get? s.heap.objs.size = some { cls := .type "tuple", data := .seq #[.int i tk, x'] } := (sb.2 _ (Nat.ne_of_gt hel)).trans hT
    have new : ObjOk X.prog X.w (upd H s.heap.objs.size (.tup [.int (i : Nat), x])) h'' s.heap.objs.size (.tup [.int (i : Nat), x]) :=
      ⟨by show 2 ≤ sizeLine; decide, [.int i tk, x'], .cons ⟨_, rfl⟩ (.cons ru .nil), ⟨_, hT2, rfl, _, rfl⟩⟩
    have I1 : Inv X pins σ (upd H s.heap.objs.size (.tup [.int (i : Nat), x])) { s with heap := h'', toks := tk + 1 } :=
      I.turnedNew (ch := [e, it]) (fun b ob hb q => (sb.2 b (fun z => hb (by simp [z]))).trans (hk b ob (fun z => hb (by simp [z])) (fun z => hb (by simp [z])) q)) hf (Nat.le_refl _) new
    refine ⟨.ref s.heap.objs.size, _, I1, rfl, ⟨_, x, rfl, I.hok.fresh (Nat.le_refl _), rfl, fun ys hy => by rw [I.tuple_inj hy hq]; exact hx⟩, ⟨⟨x', ?_⟩, hs'.1.at fun o q => (sb.2 it (Ne.symm hne)).trans q, hne⟩, fun b hb => ?_⟩
    · have e1 : ((i + 1 : Nat) : Int) = (i : Int) + 1 := by omega
      rw [e1]
      exact he'
    · have hb' : b < s.heap.objs.size := by
        rcases List.mem_cons.mp hb with z | z
        · rw [z]; exact hel
        · rw [List.mem_singleton.mp z]; exact hil
      rw [upd_ne (Nat.ne_of_lt hb')]
      exact (hf b hb).1
  done := by
    intro X hP hw hK hc i pins s σ H E I hf st hg
    subst hP hw hK
    obtain ⟨⟨old, he⟩, hit, hne⟩ := st
    obtain ⟨xs, hq, hx⟩ := hg
    obtain ⟨its, rv, p, hz⟩ := I.tuple hq
    obtain ⟨f0, f1, f2, f3, f4, f5⟩ := hf it (by simp)
    have hl := rv.length
    have nit : a ≠ it := by
      obtain ⟨o1, h1, c1, _⟩ := id p
      obtain ⟨o2, h2, c2, _⟩ := id hit
      exact apart_cls h1 h2 (by rw [c1, c2]; intro z; injection z with z; exact absurd z (by decide))
    have hh : X.A.in1.handled = none := by simp [I.ok.hd hc]
    have hn : its.toArray.size = i := by rw [List.size_toArray, ← hl, hx]
    have D := Draws.tuple (prog := X.prog) (w := X.w) hh it a nit its.toArray
    have st' : (fun (j : Nat) (h : Heap) => h.IsTupleIter it a j ∧ h.IsTuple a its.toArray) its.toArray.size s.heap := by
      rw [hn]
      exact ⟨hit, p⟩
    exact wpAny_pyNext_enum_endD D he st' fun h' eb => ⟨rfl, I.turned (t' := s.toks) (fun b o hb q => eb b o hb q) f0 f1 f3 f4 f5⟩
  self := fun A i s Q E st h => let ⟨⟨_, he⟩, _⟩ := st; wpAny_pyIter_enum he h
def iEnumT (K : PySem.W.Frag) (ta : TA) : TI := fun σ H R => ta σ H fun vs H1 => ∃ a xs, vs = [.ref a] ∧ SqT K H1 a xs ∧ R (ItE K a) H1
theorem pi_enumT {X : Cx} {e : Expr} {ta : TA} {p pos tpos : Pos} {elts : List Expr} {kk : Nat} (hg : Gl X "enumerate") (hm : X.mg "enumerate" = none) (ha : PA X [e] ta) (hs : starEach [e] X.env = [(false, eval e X.env)] := by rfl) :
    PI X (.Tuple elts kk tpos) (.Call (.Name "enumerate" p) [e] [] pos) (iEnumT X.K ta) := by
  refine ⟨fun pins s σ H R I h => ?_⟩
  refine Call_ (ld_blt I hg hm boot_enumerate (PyProof.Rows.callWith_type1 (thn (ha.run pos pins s σ H _ I h) fun us s1 ⟨vs, H1, I1, r1, q1⟩ => ?_) hs rfl))
  obtain ⟨a, xs, ex, hq, q⟩ := q1
  subst ex
  obtain ⟨its, rv, p', hz⟩ := I1.tuple hq
  rw [Vals.ref1 r1]
  refine enum_call1 (begins_tuple a its.toArray) p' fun h' he hit hk => wpAny_pyIter_enum he ?_
  have I2 : Inv X pins σ H1 { s1 with heap := h' } := I1.kept (t' := s1.toks) hk
  refine ⟨s1.heap.objs.size + 1, [s1.heap.objs.size + 1, s1.heap.objs.size], _, _, H1, rfl, I2, turn_enumT a (s1.heap.objs.size + 1) s1.heap.objs.size, ⟨⟨.none, he⟩, ⟨_, hit, rfl, rfl⟩, Nat.succ_ne_self _⟩, fun b hb => ?_, q⟩
  have hle : s1.heap.objs.size ≤ b := by
    rcases List.mem_cons.mp hb with z | z
    · rw [z]; exact Nat.le_succ _
    · rw [List.mem_singleton.mp z]; exact Nat.le_refl _
  exact I1.fpOk hle (I1.hok.fresh hle)
theorem walk_enumT {K : PySem.W.Frag} {a : Addr} {xs : List V} : Walk (ItE K a) xs.length (fun H => SqT K H a xs) (YPair (fun i => some (.int (i : Nat))) (fun i => xs[i]?)) := by
  refine ⟨fun i _ hi q => ⟨xs, xs[i], q, by simp [hi]⟩, fun _ q => ⟨xs, q, rfl⟩, fun i H v H' _ q y => ?_⟩
  obtain ⟨T, x, h1, h2, h3, h4⟩ := y
  exact ⟨T, .int (i : Nat), x, h1, h2, h3, rfl, h4 xs q⟩
end K77
end

section
set_option maxRecDepth 100000
set_option maxHeartbeats 4000000
namespace K77
open PySem L2 Evl PyProof.Rows
/-- a heap behind a list that was laid and filled -/
abbrev filled (h : Heap) (items : Array Value) : Heap := (h.push { cls := .type "list", data := .seq ([] : List Value).toArray }).update h.objs.size (Obj.mapSeq (· ++ items))
theorem filled_size (h : Heap) (items : Array Value) : (filled h items).objs.size = h.objs.size + 1 := by
  show ((h.push _).update _ _).objs.size = _
  rw [Heap.size_update, Heap.size_push]
theorem filled_old {h : Heap} {items : Array Value} {b : Addr} {u : Obj} (e : h.get? b = some u) : (filled h items).get? b = some u :=
  (Heap.get?_update_other _ _ (Nat.ne_of_gt (Heap.lt_size e))).trans (Heap.get?_push_of_some _ e)
section
variable {prog : Program} {w : World} {A : Around} {E : Value → Shared → Prop} {s : Shared}
theorem collect_any2 {Q : List Value → Shared → Prop} (it : Addr) {T : String} {o : Obj} {items : Array Value} {n : Nat} (hT : T = "list" ∨ T = "tuple") (ho : s.heap.get? it = some o) (hc : o.cls = .type T) (hd : o.data = .seq items n)
    (hQ : Q items.toList { s with heap := filled s.heap items }) (hsz : items.size ≤ sizeLine) : wpAny (model prog w) A (collect (.ref it)) Q E s := by
  have hS₂ := Heap.get?_update_self (Obj.mapSeq (· ++ items)) (Heap.get?_push_size s.heap (o := { cls := .type "list", data := .seq ([] : List Value).toArray }) rfl) rfl
  unfold collect
  refine wpAny_bind (wpAny_runValue (codeAny_builtin F.entry_proto_collect ?_))
  rw [Around.under_plainId F.plain_proto_collect _]
  show wpAny _ A.in1 (newList [] >>= fun l => again (.builtin "list.__iadd__" ⟨[l, .ref it], []⟩)) _ _ s
  refine wpAny_bind (wpAny_newObj_type (wpAny_pure ⟨plainId_quiet F.plain_list_iadd _, codeAny_builtin F.entry_list_iadd ?_⟩))
  rw [Around.under_plainId F.plain_list_iadd _]
  have last : wpAny (model prog w) A (match Value.ref s.heap.objs.size with
      | Value.ref a => do
        match (← load a).data with
          | Data.seq xs _ => pure xs.toList
          | _ => unsupported "internal:collect"
      | _ => unsupported "internal:collect") Q E { s with heap := filled s.heap items } := by
    show wpAny _ A (load s.heap.objs.size >>= _) _ _ _
    refine wpAny_bind (wpAny_load hS₂ (wpAny_pure ?_))
    show Q ((#[] : Array Value) ++ items).toList _
    rw [show ((#[] : Array Value) ++ items).toList = items.toList by simp]
    exact hQ
  show wpAny _ A.in1 (Builtin.List.listExtendWith (.ref s.heap.objs.size) (.ref it) (.ref s.heap.objs.size)) _ _ _
  refine wpAny_mono (wpAny_extend_seq (hsz := hsz) (A := A) (R := fun r s' => r = .ok (.ret (.ref s.heap.objs.size)) ∧ s' = { s with heap := filled s.heap items })
    (s := { s with heap := s.heap.push { cls := .type "list", data := .seq ([] : List Value).toArray } }) _ it _ 0 hT (Heap.get?_push_size _ rfl) (Heap.get?_push_of_some _ ho) hc hd ⟨rfl, rfl⟩) (fun fin s' q => ?_) (fun e s' q => by cases q.1)
  cases fin with
  | done f =>
    obtain ⟨e, rfl⟩ := q
    cases e
    exact last
  | again c' => exact ⟨q.1, codeAny_mono q.2 fun r s'' hr => by
      obtain ⟨rfl, rfl⟩ := hr
      exact last⟩
/-- sorted(v), v a list or a tuple of fewer than 64 tuples of d whole numbers in [0, B) -/
theorem sorted_any2 {l : Addr} {T : String} {o : Obj} {vs : List Value} {k d : Nat} {B : Int} {Q : Value → Shared → Prop} (hT : T = "list" ∨ T = "tuple") (ho : s.heap.get? l = some o) (hc : o.cls = .type T) (hdt : o.data = .seq vs.toArray k)
    (h64 : vs.length < 64) (hd : 1 ≤ d) (x : TS.TupsOk s.heap d B vs)
    (h : ∀ (h' : Heap) (p : Addr) (out : Array Value) (c : Nat), (∀ b u, s.heap.get? b = some u → h'.get? b = some u) → s.heap.objs.size ≤ p → h'.get? p = some (seqObj "list" out c) → out.toList.Perm vs →
      out.toList.Pairwise (fun u v => TS.code B (TS.intsOf h' u) ≤ TS.code B (TS.intsOf h' v)) → Q (.ref p) { s with heap := h' }) :
    wpAny (model prog w) A (call (.builtin "sorted") [.ref l]) Q E s := by
  have big : vs.length ≤ sizeLine := by rw [sizeLine_eq]; omega
  refine Calls.call_function_entry kind_sorted plain_sorted entry_sorted (args_sorted1 _) ?_
  unfold Builtin.«sorted»
  refine wpAny_bind (m := checkCount "sorted" 1 1 _) (wpAny_pure (wpAny_bind (collect_any2 l hT ho hc hdt ?_ (by rw [List.size_toArray]; exact big))))
  have hsz := filled_size s.heap vs.toArray
  rw [List.toList_toArray]
  refine wpAny_bind (wpAny_newList ?_ big)
  have hoL : ((filled s.heap vs.toArray).push (seqObj "list" vs.toArray 0)).get? (filled s.heap vs.toArray).objs.size = some (seqObj "list" vs.toArray 0) := Heap.get?_push_size _ rfl
  have k1 : ∀ b u, s.heap.get? b = some u → ((filled s.heap vs.toArray).push (seqObj "list" vs.toArray 0)).get? b = some u := fun b u e => Heap.get?_push_of_some _ (filled_old e)
  refine wpAny_bind (wpAny_holding (TS.call_sort_tups (s := { s with heap := (filled s.heap vs.toArray).push (seqObj "list" vs.toArray 0) }) hoL h64 hd (x.keeps fun b u e _ => k1 b u e) fun out a1 a2 => ?_))
  obtain ⟨c, hc'⟩ := sortedHeap_at (vs := vs) (out := out) hoL
  have k2 : ∀ b u, s.heap.get? b = some u → (sortedHeap ((filled s.heap vs.toArray).push (seqObj "list" vs.toArray 0)) (filled s.heap vs.toArray).objs.size vs out).get? b = some u := fun b u e => by
    have hlt := Heap.lt_size e
    rw [sortedHeap_old (by rw [hsz]; exact Nat.ne_of_lt (Nat.lt_succ_of_lt hlt)) (by rw [size_push', hsz]; exact Nat.lt_succ_of_lt (Nat.lt_succ_of_lt hlt))]
    exact k1 b u e
  refine wpAny_pure ⟨_, rfl, h _ _ out c k2 (by rw [hsz]; exact Nat.le_succ _) hc' a1 ?_⟩
  refine a2.imp_of_mem (fun {u v} hu hv hle => ?_)
  obtain ⟨n1, t1, _⟩ := x u (a1.mem_iff.mp hu)
  obtain ⟨n2, t2, _⟩ := x v (a1.mem_iff.mp hv)
  have e1 := (t1.keeps fun b u e _ => k1 b u e).ints
  have e2 := (t2.keeps fun b u e _ => k1 b u e).ints
  have f1 := (t1.keeps fun b u e _ => k2 b u e).ints
  have f2 := (t2.keeps fun b u e _ => k2 b u e).ints
  rw [f1, f2, ← e1, ← e2]
  exact hle
end
/-- a list or a tuple is to be read at a -/
def SqQ (K : PySem.W.Frag) (H : Hp) (a : Addr) (xs : List V) : Prop := SqL K H a xs ∨ SqT K H a xs
section
variable {X : Cx} {pins : List (Addr × Obj)} {σ : L2.St} {H : Hp} {s : Shared}
theorem inv_sq {a : Addr} {xs : List V} (I : Inv X pins σ H s) (h : SqQ X.K H a xs) : ∃ (T : String) (o : Obj) (its : List Value) (n : Nat), (T = "list" ∨ T = "tuple") ∧ s.heap.get? a = some o ∧ o.cls = .type T ∧ o.data = .seq its.toArray n ∧ Vals xs its ∧ xs.length ≤ sizeLine := by
  rcases h with h | h
  · obtain ⟨its, rv, hl, hz⟩ := I.list h
    obtain ⟨o, ho, hc, n, hd⟩ := hl.isList
    exact ⟨"list", o, its, n, .inl rfl, ho, hc, hd, rv, hz⟩
  · obtain ⟨its, rv, ⟨o, ho, hc, n, hd⟩, hz⟩ := I.tuple h
    exact ⟨"tuple", o, its, n, .inr rfl, ho, hc, hd, rv, hz⟩
/-- sorted(xs): a new list of the same tuples, ascending -/
def rSortQ (K : PySem.W.Frag) (d : Nat) (B : Int) : List V → Hp → VK → Prop := fun vs H Q => ∃ (a : Addr) (xs : List V), vs = [V.ref a] ∧ SqQ K H a xs ∧ xs.length < 64 ∧ (∀ x ∈ xs, ∃ ns, TupI K H x ns ∧ ns.length = d ∧ TS.Bd B ns) ∧
  ∀ (ys : List V) (p : Addr), ys.Perm xs → ys.Pairwise (fun x y => ∀ n m, TupI K H x n → TupI K H y m → TS.code B n ≤ TS.code B m) → H p = none → Q (.ref p) (upd H p (.lst ys))
theorem cr_sortQ {d : Nat} {B : Int} (hd : 1 ≤ d) : CallR X (.builtin "sorted") (rSortQ X.K d B) := by
  intro pins s σ H vs us Q I r h
  obtain ⟨a, xs, rfl, hs, h64, hx, q⟩ := h
  obtain ⟨T, o, its, n, hT, ho, hc, hdt, rv, hz⟩ := inv_sq I hs
  rw [Vals.ref1 r]
  obtain ⟨e1, e2⟩ := bkV_refs rv fun x m => by
    obtain ⟨ns, ⟨t, e, _⟩, _⟩ := hx x m
    exact ⟨t, e⟩
  have hm : ∀ t, Value.ref t ∈ its → V.ref t ∈ xs := fun t ht => by
    rw [e1]
    exact List.mem_map.mpr ⟨_, ht, rfl⟩
  refine sorted_any2 (d := d) (B := B) hT ho hc hdt (by rw [← rv.length]; exact h64) hd (fun v hv => ?_) fun h' p out c k2 hp hc' h1 h2 => ?_
  · obtain ⟨t, rfl⟩ := e2 v hv
    obtain ⟨ns, ⟨t', e, ht⟩, hn, hb⟩ := hx _ (hm t hv)
    cases e
    exact ⟨ns, tupI_raw I ht, hn, hb⟩
  · have h3 : ∀ u ∈ out.toList, ∃ a, u = Value.ref a := fun u hu => e2 u (h1.mem_iff.mp hu)
    have hperm : (out.toList.map bkV).Perm xs := by
      rw [e1]
      exact h1.map bkV
    have hlen : (out.toList.map bkV).length ≤ sizeLine := by rw [hperm.length_eq]; exact hz
    refine ⟨.ref _, upd H p (.lst (out.toList.map bkV)), I.laid (t' := s.toks) k2 hp ⟨hlen, out.toList, c, bkV_vals h3, hc'⟩, rfl, q _ _ hperm ?_ (I.hok.fresh hp)⟩
    rw [List.pairwise_map]
    refine h2.imp (fun {u v} huv n m hn hm => ?_)
    obtain ⟨t, et, ht⟩ := hn
    obtain ⟨t', et', ht'⟩ := hm
    have i1 : TS.intsOf h' u = n := by
      rw [bkV_ref et]
      exact ((tupI_raw I ht).keeps fun b o e _ => k2 b o e).ints
    have i2 : TS.intsOf h' v = m := by
      rw [bkV_ref et']
      exact ((tupI_raw I ht').keeps fun b o e _ => k2 b o e).ints
    rw [← i1, ← i2]
    exact huv
end
end K77
end

section
set_option maxRecDepth 100000
set_option maxHeartbeats 4000000
namespace K77
open PySem L2 Evl PyProof.Rows
abbrev bareSet (w : World) : Obj := { cls := .type "set", dict := none, data := .set #[] 0 (.fresh 0 0 (!w.params.followText "set-order")) }
section
variable {P : Program} {w : World} {A : Around} {E : Value → Shared → Prop} {s : Shared}
/-- set(t), t a tuple of tuples of whole numbers -/
theorem set_of_tup {l : Addr} {items : Array Value} (ks : List (Addr × List Int)) {Q : Value → Shared → Prop} (hh : A.handled = none) (hl : s.heap.IsTuple l items) (hit : items.toList = ks.map fun p => Value.ref p.1)
    (hk : ∀ p ∈ ks, IsT P w s.heap p.2 p.1) (hfew : ks.length < 64) (hu : A.units + 3 < cLine)
    (h : ∀ (h' : Heap) (tk : Nat) L es ep t, SetTR P w h' s.heap.objs.size L es ep t → Got ks ks.length L → (∀ b o, s.heap.get? b = some o → h'.get? b = some o) → Q (.ref s.heap.objs.size) { s with heap := h', toks := tk }) :
    wpAny (model P w) A (call (.type "set") [.ref l]) Q E s := by
  have hisz : items.size = ks.length := by
    have q := congrArg List.length hit
    rwa [Array.length_toList, List.length_map] at q
  obtain ⟨c, tl, hmro⟩ := F.called_set.mro
  have hmade := F.called_set.made
  have hsub := F.called_set.sub
  refine wpAny_call (codeAny_of_tree ?_)
  show wpAny _ _ (callAny (.type "set") _) _ _ _
  refine wpAny_pure ⟨Code.quiet_builtin _ (by decide +kernel), codeAny_builtin F.entry_type_call ?_⟩
  rw [Around.under_plain (weight_type_call_type "set" [.ref l] []) rfl]
  have h1 := F.called_set.notType
  have h2 := F.called_set.canCreate
  have hct := F.typeCall_set_1 (.ref l)
  repeat (any_goals (first | assumption | wp_step))
  have hS : (s.heap.push (bareSet w)).get? s.heap.objs.size = some (bareSet w) := Heap.get?_push_size _ rfl
  refine codeAny_mono (code_set_led1 (.ref l) (E := E) (Q₁ := fun obj s₁ => obj = .ref s.heap.objs.size ∧ s₁ = { s with heap := s.heap.push (bareSet w) }) ⟨rfl, rfl⟩) fun r s₁ hr => ?_
  cases r with
  | error e => exact hr
  | ok fl =>
    cases fl with
    | ret obj =>
      obtain ⟨rfl, rfl⟩ := hr
      have hT : Shared.TypeIs { s with heap := s.heap.push (bareSet w) } (.ref s.heap.objs.size) "set" := ⟨_, hS, rfl⟩
      have hli := F.called_set.init.lookup
      have hbi := F.called_set.init.bind (.ref s.heap.objs.size)
      repeat (any_goals (first | assumption | wp_step))
      refine codeAny_mono (codeAny_call_builtin (R := wants (fun r s₂ => r = .none ∧ ∃ h' tk L es ep t, s₂ = { s with heap := h', toks := tk } ∧ SetTR P w h' s.heap.objs.size L es ep t ∧ Got ks ks.length L ∧
          (∀ b o, s.heap.get? b = some o → h'.get? b = some o)) E) F.called_set.init.plain F.entry_set_init (check_set_init_1 hT ?_)) fun r₂ s₂ hr₂ => ?_
      · obtain ⟨⟨ocls, odict, odata, oslots⟩, hol, hcl, nl, hdl⟩ := hl
        simp only at hcl hdl
        subst hcl hdl
        have hol' : (s.heap.push (bareSet w)).get? l = some { cls := .type "tuple", dict := odict, data := .seq items nl, slots := oslots } := Heap.get?_push_of_some _ hol
        have hsls := F.sub_tuple_set
        have hslf := F.sub_tuple_frozenset
        have hne : (Value.type "tuple" == Value.type "dict") = false := by decide
        have hl1 : (s.heap.push (bareSet w)).IsTuple l items := ⟨_, hol', rfl, nl, rfl⟩
        unfold Builtin.«set.__init__» noKeywords Builtin.Frozenset.updateFrom
        generalize hPI : pyIter = PI
        wp_walk
        subst hPI
        refine wpAny_pyIter_tuple hl1 (wpAny_bind (wpAny_runValue ?_))
        have hlS : l < s.heap.objs.size := Heap.lt_size hol
        have hh3 : A.in1.in1.in1.handled = none := by simp [hh]
        have hz1 : (s.heap.push (bareSet w)).objs.size = s.heap.objs.size + 1 := Heap.size_push ..
        have hneI : l ≠ (s.heap.push (bareSet w)).objs.size := by
          rw [hz1]
          exact Nat.ne_of_lt (Nat.lt_succ_of_lt hlS)
        have hSf : s.heap.objs.size ∉ [(s.heap.push (bareSet w)).objs.size, l] := by
          rw [hz1]
          simp only [List.mem_cons, List.not_mem_nil, or_false, not_or]
          exact ⟨Nat.ne_of_lt (Nat.lt_succ_self _), Nat.ne_of_gt hlS⟩
        have hval : ∀ (i : Nat) (v : Value), items[i]? = some v → ∃ p, ks[i]? = some p ∧ v = .ref p.1 := fun i v hv => by
          have q : items.toList[i]? = some v := by rw [Array.getElem?_toList]; exact hv
          rw [hit, List.getElem?_map] at q
          obtain ⟨p, hp, e⟩ := Option.map_eq_some_iff.mp q
          exact ⟨p, hp, e.symm⟩
        have free : ∀ b, s.heap.objs.size ≤ b → s.heap.get? b = none := fun b hb => by
          cases q : s.heap.get? b with
          | none => rfl
          | some o => exact absurd (Nat.lt_of_lt_of_le (Heap.lt_size q) hb) (Nat.lt_irrefl _)
        refine set_update_tups ((Walks.tuple hh3 _ l hneI items).toS) s.heap.objs.size hSf ks hisz hfew hval s.heap hk (free _ (Nat.le_refl _)) (fun b hb => free b (by
            rw [List.mem_singleton.mp hb, hz1]
            exact Nat.le_succ _)) hu (items.size - 0) 0 _ (by omega) (Nat.zero_le _)
          ⟨⟨_, Heap.get?_push_size _ rfl, rfl, rfl⟩, (hl1.push _)⟩ (fun b o e => Heap.get?_push_of_some _ (Heap.get?_push_of_some _ e)) ?hS0 ?hR
        case hS0 => exact ⟨[], #[], 0, _, setTR_fresh (Heap.get?_push_of_some _ hS), Got.zero ks⟩
        case hR =>
          intro s' L es ep t hm hS' g' hkp
          obtain ⟨h', g2, d', tk', os'⟩ := s'
          have eg : g2 = s.gens := hm.gens
          have ed : d' = s.drawn := hm.drawn
          have eo : os' = s.os := hm.os
          subst eg ed eo
          rw [hisz] at g'
          show wpAny _ _ _ _ _ _
          refine wpAny_pure ?_
          show wpAny _ _ (ret Value.none) _ _ _
          exact wpAny_pure ⟨rfl, h', tk', L, es, ep, t, rfl, hS', g', hkp⟩
      · cases r₂ with
        | error e => exact hr₂
        | ok fl₂ =>
          cases fl₂ with
          | ret r =>
            obtain ⟨rfl, h', tk, L, es, ep, t, rfl, hS', g', hk'⟩ := hr₂
            repeat (any_goals (first | assumption | wp_step))
            exact h _ _ _ _ _ _ hS' g' hk'
          | _ => exact hr₂.elim
    | _ => exact hr.elim
end
end K77
namespace K77
open PySem L2 Evl PyProof.Rows
/-- len(set(x)), x a list or a tuple of tuples of whole numbers, all different -/
def tLenSetQ (K : PySem.W.Frag) (ta : TE) : TE := fun σ H Q => ta σ H fun x H1 => ∃ (l : Addr) (ks : List (Addr × List Int)), x = V.ref l ∧ SqQ K H1 l (ks.map fun p => V.ref p.1) ∧ (∀ p ∈ ks, SqT K H1 p.1 (p.2.map V.int)) ∧ ks.length < 64 ∧ (ks.map (·.2)).Nodup ∧ Q (.int ks.length) H1
theorem got_len {P : Program} {w : World} {h : Heap} {a : Addr} {L ks : List (Addr × List Int)} {es : Array (Int × Value)} {ep : Nat} {t : SetTable} (R : SetTR P w h a L es ep t) (g : Got ks ks.length L) (hn : (ks.map (·.2)).Nodup) : L.length = ks.length := by
  have h1 := len_le (L.map (·.2)) (ks.map (·.2)) R.nd fun x hx => by
    obtain ⟨p, hp, rfl⟩ := List.mem_map.mp hx
    exact List.mem_map_of_mem (f := (·.2)) (List.mem_of_mem_take (g.sub p hp))
  have h2 := len_le (ks.map (·.2)) (L.map (·.2)) hn fun x hx => by
    obtain ⟨p, hp, rfl⟩ := List.mem_map.mp hx
    exact g.all p (by rw [List.take_length]; exact hp)
  rw [List.length_map, List.length_map] at h1 h2
  omega
section
variable {X : Cx}
theorem pe_lenSetQ {a : Expr} {ta : TE} {p p2 q pos : Pos} {k : Nat} (hr : Room k X.A) (hc : X.calm = true) (hg : Gl X "len") (hm : X.mg "len" = none) (hg2 : Gl X "set") (hm2 : X.mg "set" = none) (ha : PE X a ta)
    (na : starEach [a] X.env = (false, eval a X.env) :: starEach [] X.env := by rfl) : PE X (.Call (.Name "len" p) [.Call (.Name "set" p2) [a] [] q] [] pos) (tLenSetQ X.K ta) := by
  have hu := hr.units
  refine ⟨fun pins s σ H Q I h => ?_⟩
  refine Call_ (ld_blt I hg hm PySem.boot_len (PyProof.Rows.callWith_builtin1 (PyProof.Rows.args_cons ?_ rfl) rfl rfl))
  refine Call_ (ld_blt I hg2 hm2 PyProof.Rows.boot_set ?_)
  refine PyProof.Rows.callWith_type1 (PyProof.Rows.args_cons (thn (ha.run pins s σ H _ I h) fun v s1 ⟨x, H1, I1, r1, q1⟩ => PyProof.Rows.args_nil ?_) na) na rfl
  obtain ⟨l, ks, rfl, hq, hk, h1, hnd, q1⟩ := q1
  cases r1
  have fin : ∀ (h' : Heap) (tk : Nat) L es ep t, SetTR X.prog X.w h' s1.heap.objs.size L es ep t → Got ks ks.length L → (∀ b o, s1.heap.get? b = some o → h'.get? b = some o) →
      wpAny (model X.prog X.w) X.A (call (.builtin "len") [.ref s1.heap.objs.size]) (EP X pins σ Q) X.xe { s1 with heap := h', toks := tk } := by
    intro h' tk L es ep t R g kp
    have e1 := SetTR.size (s := { s1 with heap := h', toks := tk }) R
    rw [got_len R g hnd] at e1
    obtain ⟨o, ho, hex, hd⟩ := id R.ob
    have I2 : Inv X pins σ H1 { s1 with heap := h', toks := tk } := I1.kept kp
    have fit := SetTR.fits (s := { s1 with heap := h', toks := tk }) R
    exact call_len_set ho hex hd fit (by omega) ⟨.int ks.length, H1, I2.tok _, ⟨_, by rw [e1]⟩, q1⟩
  rcases hq with hq | hq
  · obtain ⟨its, rv, pl, hz⟩ := I1.list hq
    refine call_set_tups (P := X.prog) (w := X.w) ks (I1.ok.hd hc) pl.isList (by simpa using refs_of_vals rv) (fun p hp => I1.isT (hk p hp)) h1 (by omega) fun h' tk L es ep t R g kp => PyProof.Rows.args_nil (fin h' tk L es ep t R g kp)
  · obtain ⟨its, rv, pt, hz⟩ := I1.tuple hq
    refine set_of_tup (P := X.prog) (w := X.w) ks (I1.ok.hd hc) pt (by simpa using refs_of_vals rv) (fun p hp => I1.isT (hk p hp)) h1 (by omega) fun h' tk L es ep t R g kp => PyProof.Rows.args_nil (fin h' tk L es ep t R g kp)
end
end K77
end

section
set_option maxRecDepth 100000
set_option maxHeartbeats 4000000
namespace K77
open PySem PySem.Spec L2 Evl PyProof.Rows
/-! ### a def that is run where no repr is under way: as FnOk, for the arounds without a guard -/
structure FnOkG (P : Program) (w : World) (K : PySem.W.Frag) (mg : PySem.Str → Option Value) (base : Heap) (k : Nat) (f : Addr) (fd : FuncData) (ps : List PySem.Str) (sp : Sp) : Prop where
  len : ∀ vs H Q E, sp vs H Q E → vs.length = ps.length
  run : ∀ (A : Around) (outer : List Env) (s : Shared) (H : Hp) (args : Args) (us : List Value) (vs : List V) (Q : VK) (E : XK), A.guards = some [] → Room k A → Env0 P w K mg base A outer s H → BindsTo s fd args (ps.zip us) → Vals vs us → sp vs H Q E →
    codeAny (model P w) A (.call (.ref f) args) (CR CX0 outer P w H s Q E) s
/-- what fn_of asks of a body, at one around -/
theorem fn_at {P : Program} {w : World} {K : PySem.W.Frag} {mg : PySem.Str → Option Value} {base : Heap} {x qual : PySem.Str} {st : Stmt} {f : Addr} {fd : FuncData} {N ps : List PySem.Str} {k : Nat} {sp : Sp} (F : Fun K x qual st f fd) (S : FnScope N ps (defScope st))
    (len : ∀ vs H Q E, sp vs H Q E → vs.length = ps.length)
    (hbody : ∀ (cdv : Value) (A : Around) (outer : List Env) (s : Shared) (H : Hp) (vs : List V) (Q : VK) (E : XK), A.guards = some [] → Room k (A.deeper (envOfC qual (defScope st) s.heap.objs.size f cdv)) → sp vs H Q E →
      ∃ t, PSs (cxOf CX0 P w K mg base N qual (defScope st) f cdv A outer s H E).nox (defBody st) t ∧ t { nx := fun _ H' => Q .non H', rt := Q } (L2.start N vs) H) : FnOkG P w K mg base (k + 1) f fd ps sp := by
  obtain ⟨oc, od, kV, doc, pm, an, cdv, ct, osl, rfl, lk, hcd⟩ := F.ex
  refine ⟨len, fun A outer s H args us vs Q E hg hr e0 hb r hsp => ?_⟩
  obtain ⟨t, ht, hq⟩ := hbody cdv A outer s H vs Q E hg (hr.deeper _) hsp
  have ht := ht.nox
  have hl := len _ _ _ _ hsp
  have lim : s.heap.NoLimit := e0.mod.nolimit.keeps fun b o e => (e0.bs b o e).1
  have KX : K.In s.heap := e0.mod.kin.keeps fun b o e => (e0.bs b o e).1
  have hkind : ∀ y ∈ ps.zip us, (defScope st).names.lookup y.1 = some .local ∨ ((defScope st).names.lookup y.1 = some .cell ∧ ((cellsFrom (s.heap.objs.size + 1) (defScope st).names []).lookup y.1).isSome = true) := fun ⟨n, v⟩ hy => by
    rcases S.par n (List.of_mem_zip hy).1 with q | q
    · exact .inl q
    · exact .inr ⟨q, PySem.W.cellsFrom_some _ _ _ (.inl q)⟩
  refine codeAny_call_function hr.depth (KX _ _ lk) rfl S.co S.gen rfl (PySem.W.codeRec_of KX hcd) (hb _ _ _ _ (wpAny_newFunctionEnv_cells S.kind hkind fun env he s1 x => ?_))
  subst he
  have I : Inv (cxOf CX0 P w K mg base N qual (defScope st) f cdv A outer s H E) [] (L2.start N vs) H s1 := inv_start S hr.hd e0 hl r x
  refine ⟨lim.keeps x.toInCall.keep, codeAny_func (wpAny_mono (ht.run [] s1 (L2.start N vs) H _ I hq) (fun fl s' hs => ?_) fun e s' hs => hs)⟩
  cases fl with
  | ret u =>
    obtain ⟨v, σ', H', J, rv, q⟩ := hs
    exact ⟨v, H', J.os, J.bare, J.base, J.hok, rv, q⟩
  | next =>
    obtain ⟨σ', H', J, q⟩ := hs
    exact ⟨.non, H', J.os, J.bare, J.base, J.hok, rfl, q⟩
  | brk => exact False.elim hs.choose_spec.choose_spec.2
  | cont => exact False.elim hs.choose_spec.choose_spec.2
/-- a def that is known by its name, to be called where no repr is under way -/
structure KnG (P : Program) (w : World) (K : PySem.W.Frag) (mg : PySem.Str → Option Value) (base : Heap) (x : PySem.Str) (k : Nat) (ps : List PySem.Str) (sp : Sp) : Prop where
  ex : ∃ (f : Addr) (fd : FuncData), FnOkG P w K mg base k f fd ps sp ∧ mg x = some (.ref f) ∧ PySem.W.keepIn K (.ref f) = true ∧ Binds K fd ps []
section
variable {X : Cx}
theorem pe_ownG {x : PySem.Str} {j k : Nat} {ps : List PySem.Str} {sp : Sp} {p pos : Pos} {e : Expr} {es : List Expr} {t : TA} (G : KnG X.prog X.w X.K X.mg X.base x j ps sp) (hgd : X.A.guards = some []) (hr : Room k X.A) (ha : PA X (e :: es) t) (hj : j ≤ k := by decide) (hg : Gl X x := by rfl)
    (hdb : (x == ("__debug__" : PySem.Str)) = false := by decide) (he : starEach (e :: es) X.env = (false, eval e X.env) :: starEach es X.env := by rfl) (hpl : (backTo pos (starEach es X.env)).any (·.1) = false := by rfl) :
    PE X (.Call (.Name x p) (e :: es) [] pos) (tCall sp [] E0 t) := by
  obtain ⟨f, fd, F, hm, hk, hb⟩ := G.ex
  refine ⟨fun pins s σ H Q I h => wpAny_Call_Name_kw (ld_glob I hg hm ?_ hdb)⟩
  refine PySem.W.callWith_K (h₀ := X.base) I.ok.mod.kin hk (thn (ha.run pos pins s σ H _ I h) fun us s1 ⟨vs, H1, I1, r, q⟩ => ⟨I1.kIn, ?_⟩) he hpl
  have q' : sp vs H1 Q E0 := by
    have q2 : sp (vs ++ []) H1 Q E0 := q
    rwa [List.append_nil] at q2
  have hl : (us ++ []).length = ps.length := by
    rw [List.append_nil, ← r.length]
    exact F.len _ _ _ _ q'
  have hb' := hb s1 us I1.kIn hl
  rw [List.append_nil] at hb'
  refine wpAny_call (codeAny_mono (F.run X.A X.stack s1 H1 ⟨us, []⟩ us vs Q E0 hgd (hr.mono hj) I1.env0 hb' r q') fun r' s' hq => ?_)
  cases r' with
  | error er => exact hq.elim
  | ok fl =>
    cases fl with
    | ret u => exact I1.after hq
    | next => exact hq.elim
    | brk => exact hq.elim
    | cont => exact hq.elim
/-! ### repr of data -/
def rRepr (K : PySem.W.Frag) : List V → Hp → VK → Prop := fun vs H Q => ∃ (a : Addr) (d : PyData), vs = [.ref a] ∧ Dp K H (.ref a) d ∧ d.showable = true ∧ d.hasDict = false ∧ d.depth ≤ 8 ∧ d.shown.length ≤ sizeLine ∧ Q (.str d.shown) H
theorem call_repr_D (hgd : X.A.guards = some []) {k : Nat} (hr : Room k X.A) : CallR X (.builtin "repr") (rRepr X.K) := by
  intro pins s σ H vs us Q I r h
  obtain ⟨a, d, rfl, hd, h1, h2, h3, h4, q⟩ := h
  rw [Vals.ref1 r]
  obtain ⟨as, rd⟩ := Dp.reads I d (.ref a) (.ref a) hd rfl
  have hu := hr.units
  refine repr_of_reads' rd h1 (fun e => by rw [h2] at e; cases e) hgd (by omega) (fun _ _ e => e) (fun h' u tk hk => ?_) h4
  exact ⟨.str d.shown, H, I.kept hk, ⟨_, rfl⟩, q⟩
end
end K77
end

section
set_option maxRecDepth 100000
set_option maxHeartbeats 4000000
namespace K77
open PySem PySem.Spec L2 Evl PyProof.Rows
/-! ### a dict comprehension whose keys are tuples -/
theorem d_dictSetT {X : Cx} {pins : List (Addr × Obj)} {σ : L2.St} {H : Hp} {s : Shared} {E : Value → Shared → Prop} {D b : Addr} {kvs : List (List Key × V)} {k : List Key} {v : V} {r : Value} {Q : Unit → Shared → Prop} (hu : X.A.units < cLine) (I : Inv X pins σ H s)
    (hD : H D = some (.dT kvs)) (hz : kvs.length < sizeLine) (eb : H b = some (.tup (k.map kV))) (rv : RelV v r) (h : ∀ s', Inv X pins σ (upd H D (.dT (putK kvs k v))) s' → Q () s') : wpAny (model X.prog X.w) X.A (dictSet D (.ref b) r) Q E s := by
  obtain ⟨z, hd, xs, rel, dd⟩ := dt_of I.hok hD
  have hzv : xs.length ≤ sizeLine := by rw [← Paired.length rel]; exact z
  have hl : (putK kvs k v).length ≤ sizeLine := by have := length_putK kvs k v; omega
  have room : (tupleKind (mixKind X.prog X.w)).room X.A := hu
  refine wpAny_dictSet_heap (hsz := hzv) room (key_of I.hok eb) dd fun h' dd' hs => h _ ?_
  obtain ⟨q, es, ep, hq, h2, h3, h4, _, h5⟩ := dd'
  refine d_write I (by rw [hD]; exact True.intro) hs ⟨q, hq⟩ ⟨hl, hd, _, (rel.put k eb rv).keeps fun c ys ec => ?_, q, es, ep, hq, h2, h3, h4, h5⟩
  rw [upd_ne (ne_of ec hD (fun z => nomatch z))]
  exact ec
section
variable {X : Cx}
def tDcT (wi : TI) (g : TG) (tk tv : TE) (vs : List Nat) : TE := fun σ H Q => wi σ H fun J H1 => ∀ D, H1 D = none → ∃ W : Nat → Nat → Hp → Prop, (∃ m, W 0 m (upd H1 D (.dT []))) ∧ ∀ i m H, W i m H →
  (J.stop i H ∧ Q (.ref D) H) ∨ (J.go i H ∧ ∃ Nx : Hp → Prop, (∀ H', Nx H' → ∃ m', m' < m ∧ W (i + 1) m' H') ∧ ∀ x H', J.yld i H x H' → g x (wipe σ vs) H' fun σ2 H2 => wipe σ2 vs = wipe σ vs ∧
    tk σ2 H2 fun y H4 => tv σ2 H4 fun z H5 => ∃ kvs k q, y = .ref q ∧ H5 D = some (.dT kvs) ∧ H5 q = some (.tup (k.map kV)) ∧ kvs.length < sizeLine ∧ Nx (upd H5 D (.dT (putK kvs k z))))
theorem pe_dcT {kx vx tg iter : Expr} {scope : Scope} {own : List (PySem.Str × Nat)} {pos : Pos} {wi : TI} {g : TG} {tk tv : TE} (hu : X.A.units + 1 < cLine) (hc : X.calm = true) (hN : X.N.Nodup) (hi : PI X tg iter wi) (ok : BlkOk X.N X.env.scope scope own)
    (hg : ∀ (s : Shared) (H : Hp) (C : Addr) (cl : List (PySem.Str × Addr)) (fp : List Addr), PG (X.blk s H scope (compEnvC scope cl C X.env) fp) tg g)
    (hk : ∀ (s : Shared) (H : Hp) (C : Addr) (cl : List (PySem.Str × Addr)) (fp : List Addr), PE (X.blk s H scope (compEnvC scope cl C X.env) fp) kx tk)
    (he : ∀ (s : Shared) (H : Hp) (C : Addr) (cl : List (PySem.Str × Addr)) (fp : List Addr), PE (X.blk s H scope (compEnvC scope cl C X.env) fp) vx tv) (hs : ∀ x, foldedSetIterable iter X.env x = pure x := by intro _; rfl) :
    PE X (.DictComp kx vx [⟨tg, iter, [], 0⟩] scope pos) (tDcT wi g tk tv (own.map (·.2))) := by
  refine ⟨fun pins s σ H Q I h => ?_⟩
  rw [arm_eval_DictComp]
  have hfree : ∀ y ∈ scope.names, y.2 = .free → ∃ c, X.env.cells.lookup y.1 = some c := fun y hy e => by
    rcases ok.free y hy e with k | k
    · exact I.ok.has _ (.inl k)
    · exact I.ok.has _ (.inr k)
  refine wpAny_comprehension_free rfl hs (closure_ok hfree) ok.kind (fun y hy e => by rw [ok.uniq y hy, e])
    (thn (hi.run pins s σ H _ I h) fun xv s1 hx => thn hx fun itv s2 h2 => ?_)
  obtain ⟨it, fp, tn, J, H2, rfl, I2, T, st2, f2, q⟩ := h2
  refine wpAny_newObj_type (newEnv_comp ?_)
  generalize hD : s2.heap.objs.size = D
  have hDn : H2 D = none := I2.hok.fresh (Nat.le_of_eq hD)
  obtain ⟨W, ⟨m0, w0⟩, turn⟩ := q D hDn
  have sz : ∀ b ∈ fp, b < s2.heap.objs.size := fun b hb => by
    obtain ⟨o, e, _⟩ := T.obj _ _ st2 b hb
    exact Heap.lt_size e
  -- the dict is laid, empty
  generalize hs3 : ({ s2 with heap := s2.heap.push { cls := .type "dict", data := .dict #[] } } : Shared) = s3
  generalize hH3 : upd H2 D (.dT []) = H3 at w0
  have h3 : s3.heap = s2.heap.push { cls := .type "dict", data := .dict #[] } := by rw [← hs3]
  have I3 : Inv X pins σ H3 s3 := by
    rw [← hs3, ← hH3]
    refine I2.laid (t' := s2.toks) (fun b o e => Heap.get?_push_of_some _ e) (Nat.le_of_eq hD) ?_
    rw [← hD]
    exact dt_empty s2.heap I2.big
  have f3 : ∀ b ∈ fp, FpOk X pins H3 b ∧ b < s3.heap.objs.size := fun b hb => by
    have hlt := sz b hb
    refine ⟨⟨?_, (f2 b hb).2⟩, by rw [h3, Heap.size_push]; exact Nat.lt_succ_of_lt hlt⟩
    rw [← hH3, upd_ne (by rw [← hD]; exact Nat.ne_of_lt hlt)]
    exact (f2 b hb).1
  have st3 : tn 0 s3.heap := T.keep _ _ _ st2 fun b _ o e => by rw [h3]; exact Heap.get?_push_of_some _ e
  have I4 := block_start I3 ok hN f3
  have pg := hg s3 H3 s3.heap.objs.size (cellsFrom (s3.heap.objs.size + 1) scope.names (cloFrom X.env.cells scope.names [])) fp
  have pk := hk s3 H3 s3.heap.objs.size (cellsFrom (s3.heap.objs.size + 1) scope.names (cloFrom X.env.cells scope.names [])) fp
  have pe := he s3 H3 s3.heap.objs.size (cellsFrom (s3.heap.objs.size + 1) scope.names (cloFrom X.env.cells scope.names [])) fp
  have nfp : ∀ b ∈ fp, H3 b = none := fun b hb => (f3 b hb).1.1
  show codeAny _ _ (.compStart (.DictComp kx vx [⟨tg, iter, [], 0⟩] scope pos) 0 (.ref it) (.ref D) (compEnvC scope (cellsFrom (s3.heap.objs.size + 1) scope.names (cloFrom X.env.cells scope.names [])) s3.heap.objs.size X.env))
    (compPost (model X.prog X.w) X.A X.xe none (EP X pins σ Q) (.ref D) s3.heap.objs.size) { s3 with heap := pushCells (s3.heap.push { cls := .type "dict", data := .dict #[] }) scope.names }
  generalize hce : compEnvC scope (cellsFrom (s3.heap.objs.size + 1) scope.names (cloFrom X.env.cells scope.names [])) s3.heap.objs.size X.env = ce at I4 pg pk pe ⊢
  have cL : ce.locals = s3.heap.objs.size := by subst hce; rfl
  generalize hs4 : ({ s3 with heap := pushCells (s3.heap.push { cls := .type "dict", data := .dict #[] }) scope.names } : Shared) = s4 at I4 ⊢
  have st4 : tn 0 s4.heap := T.keep _ _ _ st3 fun b _ o e => by rw [← hs4]; exact pushCells_keeps _ _ _ _ (Heap.get?_push_of_some _ e)
  have stat : ∀ {σ' : L2.St} {H' : Hp} {s' : Shared}, Inv (X.blk s3 H3 scope ce fp) [] σ' H' s' → (∀ b ∈ fp, H' b = none) → ∀ b ∈ fp, FpOk (X.blk s3 H3 scope ce fp) [] H' b := fun {σ' H' s'} I' hn b hb =>
    ⟨hn b hb, (I'.ok.exf b hb).1, I'.ok.exfs b hb, .inl hb, fun x c e => (I'.ok.exf b hb).2 x c e, fun p hp => absurd (show p ∈ ([] : List (Addr × Obj)) ++ [] from hp) (by simp)⟩
  refine codeAny_compStart_dict ?loop (T.self X.A 0 _ _ _ st4 ?loop)
  case loop =>
    refine compLoop_anyD (fun n s' => ∃ i H', Inv (X.blk s3 H3 scope ce fp) [] (wipe σ (own.map (·.2))) H' s' ∧ tn i s'.heap ∧ (∀ b ∈ fp, H' b = none) ∧ W i n H') ?_ m0 ⟨0, H3, I4, st4, nfp, w0⟩
    rintro n s5 ⟨i, H5, I5, st5, n5, w5⟩
    rcases turn i n H5 w5 with ⟨stop, qq⟩ | ⟨go, Nx, hNx, step⟩
    · refine thnF (T.done (X.blk s3 H3 scope ce fp) rfl rfl rfl hc i [] s5 _ H5 (fun _ _ => False) I5 (stat I5 n5) st5 stop) fun r s6 ⟨hr, I6⟩ => ?_
      subst hr
      have I7 : Inv X pins σ H5 s6 := I3.call' (ch := fp) I6.os I6.base I6.hok I6.bare fun b hb => ⟨(f3 b hb).1.2.2.2.1, (f3 b hb).1.2.1, (f3 b hb).1.2.2.2.2.1, (f3 b hb).1.2.2.2.2.2⟩
      have nC : H5 s3.heap.objs.size = none := by
        have z : H5 ce.locals = none := I6.free
        rwa [cL] at z
      obtain ⟨m, hn, _⟩ := I6.loc
      have hn : s6.heap.Ns ce.locals m := hn
      rw [cL] at hn
      obtain ⟨g0, g1, g2, g3, g4, g5⟩ := I3.fpOk (Nat.le_refl _) nC
      exact ⟨m, hn, fun h'' sb => ⟨.ref D, H5, I7.turned (t' := s6.toks) (fun b o hb e => (sb.2 b hb).trans e) g0 g1 g3 g4 g5, rfl, qq⟩⟩
    · refine thnF (T.item (X.blk s3 H3 scope ce fp) rfl rfl rfl hc i [] s5 _ H5 (fun _ _ => False) I5 (stat I5 n5) st5 go) fun r s6 ⟨u, hr, h6⟩ => ?_
      subst hr
      refine thnF h6 fun _ s7 ⟨x, H7, I7, r7, y7, st7, n7⟩ => ?_
      refine thnF (pg.run _ s7 _ H7 x u _ (I7.pinned (stat I7 n7) (T.obj _ _ st7)) r7 (step x H7 y7)) fun _ s8 ⟨σ8, H8, I8, hw8, q8⟩ => ?_
      refine wpAny_tests_nil ?_
      rw [if_pos rfl]
      refine thnF (pk.run _ s8 σ8 H8 _ I8 q8) fun z s10 ⟨yk, H10, I10, r10, q10⟩ => ?_
      refine thnF (pe.run _ s10 σ8 H10 _ I10 q10) fun z2 s11 ⟨yv, H11, I11, r11, kvs, k, qa, ek, hD11, hq11, hz11, nx⟩ => ?_
      subst ek
      cases r10
      refine d_dictSetT (X := X.blk s3 H3 scope ce fp) (by show X.A.units < cLine; omega) I11 hD11 hz11 hq11 r11 fun s12 I12 => ?_
      obtain ⟨m', hm, w'⟩ := hNx _ nx
      have pin' : ∀ b ∈ fp, ∀ o, s7.heap.get? b = some o → s12.heap.get? b = some o ∧ (upd H11 D (.dT (putK kvs k yv))) b = none := fun b hb o e =>
        let z := I12.pin (b, o) (List.mem_append_right _ (List.mem_append_right _ (mem_pinsAt hb e)))
        ⟨z.1, z.2.1⟩
      have hl : (wipe σ (own.map (·.2))).length = σ8.length := by rw [← hw8, wipe_length]
      refine ⟨m', hm, i + 1, _, (I12.unpinned (pins := [])).weak hl (fun j v e => ?_), T.keep _ _ _ st7 fun b hb o e => (pin' b hb o e).1, fun b hb => ?_, w'⟩
      · rw [← hw8] at e
        exact (wipe_some e).1
      · obtain ⟨o, e, _⟩ := T.obj _ _ st7 b hb
        exact (pin' b hb o e).2
end
end K77
end

section
set_option maxRecDepth 100000
set_option maxHeartbeats 4000000
namespace K77
open PySem L2 Evl
def top (i : Nat) : Stmt := PySem.Challenge.pw_starward_k77_whole_better_cameras.main.body.getD i (.Pass ⟨0, 0, 0, 0⟩)
/-- the built-in names that the text uses, still free -/
structure Bl (mg : PySem.Str → Option Value) : Prop where
  range : mg "range" = none
  enumerate : mg "enumerate" = none
  len : mg "len" = none
  abs : mg "abs" = none
  max : mg "max" = none
  min : mg "min" = none
  int : mg "int" = none
  any : mg "any" = none
  all : mg "all" = none
  set : mg "set" = none
  sorted : mg "sorted" = none
  tuple : mg "tuple" = none
  repr : mg "repr" = none
local macro_rules | `(tactic| walk_at "at") => `(tactic| first | assumption | exact Ex.get (by assumption) (by assumption))
local macro_rules | `(tactic| walk_at "sk") => `(tactic| first | assumption | exact SkyA.up (by assumption) (by assumption))
local macro_rules | `(tactic| walk_at "rv") => `(tactic| first
  | with_reducible exact rv_I0
  | with_reducible exact rv_isN
  | with_reducible exact rv_notN
  | (with_reducible show RV (rI (fun _ j => 0 < j) fun i j => .int (i % j)) _ _ _ _; exact rv_mod (by first | assumption | omega))
  | (with_reducible show RV (rI CMul _) _ _ _ _; exact rv_mul (by first | exact mul_l (by omega) | exact mul_r (by omega)))
  | (with_reducible show RV (rI CDiv _) _ _ _ _; exact rv_fdiv (div_ok (by omega)))
  | (with_reducible show RV (rIxT _) _ _ _ _; exact rv_tup (by walk_at "at") rfl)
  | (with_reducible show RV rEq _ _ _ _; exact rv_eq rfl)
  | (with_reducible show RV rNe _ _ _ _; exact rv_ne rfl))
local macro_rules | `(tactic| walk_at "ev") => `(tactic| first
  | (with_reducible show Ev (tVar _) _ _ _; exact ev_var rfl)
  | (with_reducible show Ev (tC _) _ _ _; exact ev_c)
  | (with_reducible show Ev (tOp _ _ _) _ _ _; exact ev_op (by walk_at "ev") (by walk_at "ev") (by walk_at "rv"))
  | (with_reducible show Ev (tProp _ _ _ _ _) _ _ _; exact ev_sky (by walk_at "ev") (by walk_at "sk"))
  | (with_reducible show Ev (tCB rAbs _) _ _ _; exact ev_abs (by walk_at "ev"))
  | (with_reducible show Ev (tCB rMax _) _ _ _; exact ev_max (by walk_at "ev") (by walk_at "ev"))
  | (with_reducible show Ev (tCB rMin _) _ _ _; exact ev_min (by walk_at "ev") (by walk_at "ev"))
  | (with_reducible show Ev (tCB rInt _) _ _ _; exact ev_int (by walk_at "ev"))
  | (with_reducible show Ev (tCB rInt _) _ _ _; exact ev_intB (by walk_at "ev"))
  | (with_reducible show Ev (tChain _ _ _ _ _) _ _ _; exact ev_chain (by walk_at "ev") (by walk_at "ev") (by walk_at "ev"))
  | (with_reducible show Ev (tAndV _ _) _ _ _; exact ev_andV (by walk_at "ev") (fun _ => by walk_at "ev"))
  | (with_reducible show Ev (tOrV _ _) _ _ _; exact ev_orV (by walk_at "ev") (fun _ => by walk_at "ev"))
  | (with_reducible show Ev (tCB (rLenQ _) _) _ _ _; exact ev_lenL (by walk_at "ev") (by walk_at "at"))
  | (with_reducible show Ev (tCB (rLenQ _) _) _ _ _; exact ev_lenT (by walk_at "ev") (by walk_at "at"))
  | (with_reducible show Ev (tUn _ _) _ _ _; exact ev_un (by walk_at "ev") ru_neg))
local macro_rules | `(tactic| walk_at "et") => `(tactic| first
  | (with_reducible show EvT (tTest _) _ _ _; exact et_test (by walk_at "ev"))
  | (with_reducible show EvT (tB _) _ _ _; exact et_B (by walk_at "ev"))
  | (with_reducible show EvT (tNot _) _ _ _; exact et_not (by walk_at "et"))
  | (with_reducible show EvT (tAnd _ _) _ _ _; exact et_and (by walk_at "et") (fun _ => by walk_at "et"))
  | (with_reducible show EvT (tOr _ _) _ _ _; exact et_or (by walk_at "et") (fun _ => by walk_at "et"))
  | exact et_tru (by walk_at "ev") (by walk_at "at"))
local macro_rules | `(tactic| walk_at "ea") => `(tactic| first
  | (with_reducible show EvA tNil _ _ _; exact ea_nil)
  | (with_reducible show EvA (tCons _ _) _ _ _; exact ea_cons (by walk_at "ev") (by walk_at "ea")))
section
variable {P : Program} {w : World} {K : PySem.W.Frag} {mg : PySem.Str → Option Value} {base : Heap}
/-! ### nearest -/
def spNearest : Sp := SpG 2 fun vs _ R => ∃ n z, vs = [.int n, .int z] ∧ 0 < n ∧ R = is (.int (near n z))
abbrev s_nearest : Stmt := top 16
abbrev N_nearest : List PySem.Str := ["side", "number", "rest"]
theorem sc_nearest : FnScope N_nearest ["side", "number"] (defScope s_nearest) := ⟨rfl, rfl, rfl, by decide +kernel, rfl, by decide +kernel, by decide +kernel⟩
theorem ok_nearest (D : Df K mg "nearest" s_nearest) : Kn P w K mg base "nearest" 1 ["side", "number"] spNearest := by
  obtain ⟨f, fd, F, hm⟩ := D
  refine kn_mk F hm (F.binds (ps := ["side", "number"]) fun _ _ _ _ _ _ us hl => match us, hl with | [_, _], _ => rfl) ?_
  refine F.ok sc_nearest (fun vs H Q E h => h.1) (fun cdv A outer s H vs Q E hr h => ?_)
  have hu := hu_of hr
  have nd := sc_nearest.nd
  obtain ⟨_, R, ⟨n, z, rfl, hn, rfl⟩, k⟩ := h
  refine ⟨_, (pss_cons (ps_set (i := 2) nd rfl (by first | exact Or.inl rfl | exact Or.inr rfl) (pe_op op_mod (pv 1) (pv 0)))
      (pss_one (ps_ret (pe_ifExp (pt_cmpR op_le (pe_op op_mul pe_int (pv 2)) (pv 0) (nomark _)) (pv 2) (pe_op op_sub (pv 2) (pv 0)))))), ?_⟩
  refine q_asg (by walk_at "ev") fun H1 e1 => ?_
  refine s_ret (v := .int (near n z)) (ev_is (v := if (decide (2 * (z % n) ≤ n)) = true then .int (z % n) else .int (z % n - n)) ?_ ?_) fun H2 e2 => k _ H2 (e1.trans e2) rfl
  · refine ev_if (b := decide (2 * (z % n) ≤ n)) (by walk_at "et") (fun hb => ?_) (fun hb => ?_)
    · rw [hb]
      exact ev_var rfl
    · rw [hb]
      exact ev_op (ev_var rfl) (ev_var rfl) rv_I0
  · unfold near
    by_cases c : 2 * (z % n) ≤ n
    · rw [decide_eq_true c, if_pos rfl, if_pos c]
    · rw [decide_eq_false c, if_neg (by decide), if_neg c]
theorem use_nearest {n z : Int} {H : Hp} (hn : 0 < n) : SpV spNearest [.int n, .int z] H (.int (near n z)) := spgV fun _ _ => ⟨n, z, rfl, hn, rfl⟩
/-! ### turned -/
def rot (p : Int × Int) : Int × Int := (-p.2, p.1)
theorem turn_rot : ∀ (k : Nat) (p : Int × Int), turn k (rot p) = rot (turn k p)
  | 0, _ => rfl
  | k + 1, p => by
    show turn k (rot (rot p)) = rot (turn k (rot p))
    rw [turn_rot k (rot p)]
theorem turn_succ (k : Nat) (p : Int × Int) : turn (k + 1) p = rot (turn k p) := turn_rot k p
def spTurned : Sp := SpG 2 fun vs H R => ∃ q p v, vs = [.int q, v] ∧ T2 p v H ∧ R = T2 (turn (q % 4).toNat p)
abbrev s_turned : Stmt := top 15
abbrev N_turned : List PySem.Str := ["quarters", "pair", "x", "y", "_"]
theorem sc_turned : FnScope N_turned ["quarters", "pair"] (defScope s_turned) := ⟨rfl, rfl, rfl, by decide +kernel, rfl, by decide +kernel, by decide +kernel⟩
theorem ok_turned (B : Bl mg) (D : Df K mg "turned" s_turned) : Kn P w K mg base "turned" 1 ["quarters", "pair"] spTurned := by
  obtain ⟨f, fd, F, hm⟩ := D
  refine kn_mk F hm (F.binds (ps := ["quarters", "pair"]) fun _ _ _ _ _ _ us hl => match us, hl with | [_, _], _ => rfl) ?_
  refine F.ok sc_turned (fun vs H Q E h => h.1) (fun cdv A outer s H vs Q E hr h => ?_)
  have hu := hu_of hr
  have nd := sc_turned.nd
  obtain ⟨_, R, ⟨q, p, v, rfl, ⟨a, rfl, ha⟩, rfl⟩, k⟩ := h
  refine ⟨_, (pss_cons (ps_asg (pv 1) (pg_tup rfl (pgs_cons (pg_name (i := 2) nd rfl (by first | exact Or.inl rfl | exact Or.inr rfl)) (pgs_cons (pg_name (i := 3) nd rfl (by first | exact Or.inl rfl | exact Or.inr rfl)) pgs_nil))))
      (pss_cons (ps_for PassesOwn.never rfl (pi_range1 (by rfl) B.range (pa_cons (pe_op op_mod (pv 0) pe_int) pa_nil)) (pg_name (i := 4) nd rfl (by first | exact Or.inl rfl | exact Or.inr rfl))
      (pss_one (ps_par (i := 2) (j := 3) rfl nd rfl rfl (by decide) rfl rfl (pa_cons (pe_un un_neg (pv 3)) (pa_cons (pv 2) pa_nil)) (by rfl))))
      (pss_one (ps_ret (pe_tup (pa_cons (pv 2) (pa_cons (pv 3) pa_nil))))))), ?_⟩
  refine q_unp2 (by walk_at "ev") ha fun H1 e1 => ?_
  refine q_forR1 (by walk_at "ea") (by constructor <;> omega) (fun i σ' H' => (∃ u, σ' = [some (.int q), some (.ref a), some (.int (turn i p).1), some (.int (turn i p).2), u]) ∧ Ex H H') (fun H2 e2 => ⟨⟨_, rfl⟩, e1.trans e2⟩) ?_ ?_
  · rintro i σ' H' hi ⟨⟨u, rfl⟩, e2⟩
    refine s_par (by walk_at "ea") fun H2 e3 => ⟨⟨some (.int i), ?_⟩, e2.trans e3⟩
    rw [turn_succ]
    rfl
  · rintro σ' H' ⟨⟨u, rfl⟩, e2⟩
    exact s_retU (eu_tup (by walk_at "ea") (Nat.le_of_ble_eq_true rfl)) fun p2 H2 hp e3 h2 => k _ H2 (e2.trans e3) ⟨p2, rfl, h2⟩
theorem use_turned {q : Int} {p : Int × Int} {v : V} {H : Hp} (h : T2 p v H) : SpP spTurned [.int q, v] H (T2 (turn (q % 4).toNat p)) := spg fun _ e => ⟨q, p, v, rfl, h.up e, rfl⟩
/-! ### is_motion, check_attitude -/
def spIsMotion : Sp := SpG 2 fun vs H R => ∃ n a v, vs = [.int n, v] ∧ T3 a v H ∧ AttOk n a ∧ R = is (.bl true)
abbrev s_is_motion : Stmt := top 9
abbrev N_is_motion : List PySem.Str := ["side", "motion"]
theorem sc_is_motion : FnScope N_is_motion ["side", "motion"] (defScope s_is_motion) := ⟨rfl, rfl, rfl, by decide +kernel, rfl, by decide +kernel, by decide +kernel⟩
theorem ok_is_motion (B : Bl mg) (D : Df K mg "is_motion" s_is_motion) : Kn P w K mg base "is_motion" 1 ["side", "motion"] spIsMotion := by
  obtain ⟨f, fd, F, hm⟩ := D
  refine kn_mk F hm (F.binds (ps := ["side", "motion"]) fun _ _ _ _ _ _ us hl => match us, hl with | [_, _], _ => rfl) ?_
  refine F.ok sc_is_motion (fun vs H Q E h => h.1) (fun cdv A outer s H vs Q E hr h => ?_)
  have hu := hu_of hr
  have nd := sc_is_motion.nd
  obtain ⟨_, R, ⟨n, a, v, rfl, ⟨p, rfl, hp⟩, ⟨h1, h2, h3, h4, h5, h6⟩, rfl⟩, k⟩ := h
  refine ⟨_, (pss_one (ps_ret (pe_and (pe_cmpR op_eq (pe_callB call_len_seq (by rfl) B.len (by decide +kernel) (pa_cons (pv 1) pa_nil)) pe_int (nomark _)) (pe_and (pe_chain op_le op_lt pe_int (pe_ix ix_tup (pv 1) pe_int (fun _ _ => rfl)) (pv 0)) (pe_and (pe_chain op_le op_lt pe_int (pe_ix ix_tup (pv 1) pe_int (fun _ _ => rfl)) (pv 0)) (pe_one (pe_chain op_le op_le pe_int (pe_ix ix_tup (pv 1) pe_int (fun _ _ => rfl)) pe_int))))))), ?_⟩
  refine s_ret (v := .bl true) (ev_is (by walk_at "ev") ?_) fun H1 e => k _ H1 e rfl
  simp [h1, h2, h3, h4, h5, h6]
theorem use_isMotion {n : Int} {a : Att} {v : V} {H : Hp} (h : T3 a v H) (ha : AttOk n a) : SpV spIsMotion [.int n, v] H (.bl true) := spgV fun _ e => ⟨n, a, v, rfl, h.up e, ha, rfl⟩
abbrev prSide (C : Addr) : Sp := spPr C fun S _ => .int S.n
abbrev prReach (C : Addr) : Sp := spPr C fun S _ => .int S.cam.r
abbrev prBlur (C : Addr) : Sp := spPr C fun S _ => .int S.cam.b
abbrev prGlare (C : Addr) : Sp := spPr C fun S _ => .int S.cam.g
abbrev prLimit (C : Addr) : Sp := spPr C fun S _ => .int S.cam.l
abbrev prStars (C : Addr) : Sp := spPr C fun _ sa => .ref sa
def spCheckAtt (C : Addr) : Sp := SpG 2 fun vs H R => ∃ S a v u, vs = [v, u] ∧ SkyAt C S v H ∧ T3 a u H ∧ AttOk S.n a ∧ R = is .non
abbrev s_check_attitude : Stmt := top 14
abbrev N_check_attitude : List PySem.Str := ["sky", "attitude"]
theorem sc_check_attitude : FnScope N_check_attitude ["sky", "attitude"] (defScope s_check_attitude) := ⟨rfl, rfl, rfl, by decide +kernel, rfl, by decide +kernel, by decide +kernel⟩
theorem ok_check_attitude {C : Addr} (P_side : KnP P w K mg base C "side" (prSide C)) (G_is_motion : Kn P w K mg base "is_motion" 1 ["side", "motion"] spIsMotion) (D : Df K mg "check_attitude" s_check_attitude) : Kn P w K mg base "check_attitude" 3 ["sky", "attitude"] (spCheckAtt C) := by
  obtain ⟨f, fd, F, hm⟩ := D
  refine kn_mk F hm (F.binds (ps := ["sky", "attitude"]) fun _ _ _ _ _ _ us hl => match us, hl with | [_, _], _ => rfl) ?_
  refine F.ok sc_check_attitude (fun vs H Q E h => h.1) (fun cdv A outer s H vs Q E hr h => ?_)
  have hu := hu_of hr
  have nd := sc_check_attitude.nd
  obtain ⟨_, R, ⟨S, a, v, u, rfl, ⟨p, sa, ca, xs, rfl, hS⟩, ha, hok, rfl⟩, k⟩ := h
  refine ⟨_, (pss_one (ps_if (pt_not (pt_val (pe_own G_is_motion hr (pa_cons (pe_prp P_side hr (pv 0)) (pa_cons (pv 1) pa_nil))))) (pss_one ps_never) pss_nil)), ?_⟩
  refine s_if (b := !true) (et_not (et_B (ev_callV (by walk_at "ea") (use_isMotion ha hok)))) (fun c => by cases c) fun _ H1 e => ?_
  exact k _ H1 e rfl
theorem use_checkAtt {C : Addr} {S : Sk} {a : Att} {v u : V} {H : Hp} (hS : SkyAt C S v H) (h : T3 a u H) (ha : AttOk S.n a) : SpV (spCheckAtt C) [v, u] H .non := spgV fun _ e => ⟨S, a, v, u, rfl, hS.up e, h.up e, ha, rfl⟩
/-! ### offset_of -/
def Offs (S : Sk) (a : Att) (s : Star) : PH := fun v H => if far (offs S.n a s) ≤ S.cam.r + S.cam.b then T2 (offs S.n a s) v H else v = .non
theorem Offs.up {S : Sk} {a : Att} {s : Star} {v : V} {H H' : Hp} (e : Ex H H') (h : Offs S a s v H) : Offs S a s v H' := by
  unfold Offs at h ⊢
  split
  · rename_i c
    rw [if_pos c] at h
    exact h.up e
  · rename_i c
    rw [if_neg c] at h
    exact h
def spOffset (C : Addr) : Sp := SpG 3 fun vs H R => ∃ S a s v1 v2 v3, vs = [v1, v2, v3] ∧ SkyAt C S v1 H ∧ T3 a v2 H ∧ T3 s v3 H ∧ 0 < S.n ∧ R = Offs S a s
abbrev s_offset_of : Stmt := top 17
abbrev N_offset_of : List PySem.Str := ["sky", "attitude", "star", "x", "y"]
theorem sc_offset_of : FnScope N_offset_of ["sky", "attitude", "star"] (defScope s_offset_of) := ⟨rfl, rfl, rfl, by decide +kernel, rfl, by decide +kernel, by decide +kernel⟩
theorem ok_offset_of {C : Addr} (B : Bl mg) (P_side : KnP P w K mg base C "side" (prSide C)) (P_reach : KnP P w K mg base C "reach" (prReach C)) (P_blur : KnP P w K mg base C "blur" (prBlur C)) (G_nearest : Kn P w K mg base "nearest" 1 ["side", "number"] spNearest) (G_turned : Kn P w K mg base "turned" 1 ["quarters", "pair"] spTurned) (D : Df K mg "offset_of" s_offset_of) : Kn P w K mg base "offset_of" 3 ["sky", "attitude", "star"] (spOffset C) := by
  obtain ⟨f, fd, F, hm⟩ := D
  refine kn_mk F hm (F.binds (ps := ["sky", "attitude", "star"]) fun _ _ _ _ _ _ us hl => match us, hl with | [_, _, _], _ => rfl) ?_
  refine F.ok sc_offset_of (fun vs H Q E h => h.1) (fun cdv A outer s H vs Q E hr h => ?_)
  have hu := hu_of hr
  have nd := sc_offset_of.nd
  obtain ⟨_, R, ⟨S, a, s, v1, v2, v3, rfl, ⟨p, sa, ca, xs, rfl, hS⟩, ⟨pa, rfl, ha⟩, ⟨ps, rfl, hs⟩, hn, rfl⟩, k⟩ := h
  refine ⟨_, (pss_cons (ps_set (i := 3) nd rfl (by first | exact Or.inl rfl | exact Or.inr rfl) (pe_own G_nearest hr (pa_cons (pe_prp P_side hr (pv 0)) (pa_cons (pe_op op_sub (pe_ix ix_tup (pv 2) pe_int (fun _ _ => rfl)) (pe_ix ix_tup (pv 1) pe_int (fun _ _ => rfl))) pa_nil))))
      (pss_cons (ps_set (i := 4) nd rfl (by first | exact Or.inl rfl | exact Or.inr rfl) (pe_own G_nearest hr (pa_cons (pe_prp P_side hr (pv 0)) (pa_cons (pe_op op_sub (pe_ix ix_tup (pv 2) pe_int (fun _ _ => rfl)) (pe_ix ix_tup (pv 1) pe_int (fun _ _ => rfl))) pa_nil))))
      (pss_cons (ps_if (pt_cmpR op_gt (pe_callB (call_max2 rfl) (by rfl) B.max (by decide +kernel) (pa_cons (pe_callB call_abs (by rfl) B.abs (by decide +kernel) (pa_cons (pv 3) pa_nil)) (pa_cons (pe_callB call_abs (by rfl) B.abs (by decide +kernel) (pa_cons (pv 4) pa_nil)) pa_nil))) (pe_op op_add (pe_prp P_reach hr (pv 0)) (pe_prp P_blur hr (pv 0))) (nomark _)) (pss_one (ps_ret pe_non)) pss_nil)
      (pss_one (ps_ret (pe_own G_turned hr (pa_cons (pe_un un_neg (pe_ix ix_tup (pv 1) pe_int (fun _ _ => rfl))) (pa_cons (pe_tup (pa_cons (pv 3) (pa_cons (pv 4) pa_nil))) pa_nil)))))))), ?_⟩
  refine q_asg (ev_callV (by walk_at "ea") (use_nearest hn)) fun H1 e => ?_
  refine q_asg (ev_callV (by walk_at "ea") (use_nearest hn)) fun H2 e2 => ?_
  replace e := e.trans e2
  have ef : far (offs S.n a s) = imax (iabs (near S.n (s.1 - a.1))) (iabs (near S.n (s.2.1 - a.2.1))) := far_offs S.n a s
  refine q_when (b := decide (S.cam.r + S.cam.b < imax (iabs (near S.n (s.1 - a.1))) (iabs (near S.n (s.2.1 - a.2.1))))) (by walk_at "et") (fun c H3 e3 => ?_) fun c H3 e3 => ?_
  · have c' := of_decide_eq_true c
    refine s_ret ev_c fun H4 e4 => k _ H4 ((e.trans e3).trans e4) ?_
    show Offs S a s .non H4
    unfold Offs
    rw [if_neg (by rw [ef]; omega)]
  · have c' := of_decide_eq_false c
    replace e := e.trans e3
    refine s_retP (R := T2 (offs S.n a s)) (fun H4 e4 Q' q => ?_) fun v H4 e4 r => k _ H4 (e.trans e4) ?_
    · refine cps (σ := _) (H := H4) (v := .int (-a.2.2)) (ev_un (ev_op (ev_var rfl) ev_c (rv_tup ((e.trans e4) _ _ ha) rfl)) ru_neg) fun H5 e5 => ?_
      refine (eu_tup (by walk_at "ea") (Nat.le_of_ble_eq_true rfl)) H5 (Ex.refl H5) _ fun p2 H6 _ e6 h6 => ?_
      exact use_turned (q := -a.2.2) (p := near2 S.n a s) ⟨p2, rfl, h6⟩ H6 (Ex.refl H6) _ (fun v H7 e7 r => q v H7 ((e5.trans e6).trans e7) r) _
    · show Offs S a s v H4
      unfold Offs
      rw [if_pos (by rw [ef]; omega)]
      exact r
theorem use_offset {C : Addr} {S : Sk} {a : Att} {s : Star} {v1 v2 v3 : V} {H : Hp} (hS : SkyAt C S v1 H) (ha : T3 a v2 H) (hs : T3 s v3 H) (hn : 0 < S.n) : SpP (spOffset C) [v1, v2, v3] H (Offs S a s) :=
  spg fun _ e => ⟨S, a, s, v1, v2, v3, rfl, hS.up e, ha.up e, hs.up e, hn, rfl⟩
end
end K77
end

section
set_option maxRecDepth 100000
set_option maxHeartbeats 4000000
namespace K77
open PySem L2 Evl
local macro_rules | `(tactic| walk_at "at") => `(tactic| first | assumption | exact Ex.get (by assumption) (by assumption))
local macro_rules | `(tactic| walk_at "sk") => `(tactic| first | assumption | exact SkyA.up (by assumption) (by assumption))
local macro_rules | `(tactic| walk_at "rv") => `(tactic| first
  | with_reducible exact rv_I0
  | with_reducible exact rv_isN
  | with_reducible exact rv_notN
  | (with_reducible show RV (rI (fun _ j => 0 < j) fun i j => .int (i % j)) _ _ _ _; exact rv_mod (by first | assumption | omega))
  | (with_reducible show RV (rI CMul _) _ _ _ _; exact rv_mul (by first | exact mul_l (by omega) | exact mul_r (by omega)))
  | (with_reducible show RV (rI CDiv _) _ _ _ _; exact rv_fdiv (div_ok (by omega)))
  | (with_reducible show RV (rIxT _) _ _ _ _; exact rv_tup (by walk_at "at") rfl)
  | (with_reducible show RV rEq _ _ _ _; exact rv_eq rfl)
  | (with_reducible show RV rNe _ _ _ _; exact rv_ne rfl))
local macro_rules | `(tactic| walk_at "ev") => `(tactic| first
  | (with_reducible show Ev (tVar _) _ _ _; exact ev_var rfl)
  | (with_reducible show Ev (tC _) _ _ _; exact ev_c)
  | (with_reducible show Ev (tOp _ _ _) _ _ _; exact ev_op (by walk_at "ev") (by walk_at "ev") (by walk_at "rv"))
  | (with_reducible show Ev (tProp _ _ _ _ _) _ _ _; exact ev_sky (by walk_at "ev") (by walk_at "sk"))
  | (with_reducible show Ev (tCB rAbs _) _ _ _; exact ev_abs (by walk_at "ev"))
  | (with_reducible show Ev (tCB rMax _) _ _ _; exact ev_max (by walk_at "ev") (by walk_at "ev"))
  | (with_reducible show Ev (tCB rMin _) _ _ _; exact ev_min (by walk_at "ev") (by walk_at "ev"))
  | (with_reducible show Ev (tCB rInt _) _ _ _; exact ev_int (by walk_at "ev"))
  | (with_reducible show Ev (tCB rInt _) _ _ _; exact ev_intB (by walk_at "ev"))
  | (with_reducible show Ev (tChain _ _ _ _ _) _ _ _; exact ev_chain (by walk_at "ev") (by walk_at "ev") (by walk_at "ev"))
  | (with_reducible show Ev (tAndV _ _) _ _ _; exact ev_andV (by walk_at "ev") (fun _ => by walk_at "ev"))
  | (with_reducible show Ev (tOrV _ _) _ _ _; exact ev_orV (by walk_at "ev") (fun _ => by walk_at "ev"))
  | (with_reducible show Ev (tCB (rLenQ _) _) _ _ _; exact ev_lenL (by walk_at "ev") (by walk_at "at"))
  | (with_reducible show Ev (tCB (rLenQ _) _) _ _ _; exact ev_lenT (by walk_at "ev") (by walk_at "at"))
  | (with_reducible show Ev (tUn _ _) _ _ _; exact ev_un (by walk_at "ev") ru_neg))
local macro_rules | `(tactic| walk_at "et") => `(tactic| first
  | (with_reducible show EvT (tTest _) _ _ _; exact et_test (by walk_at "ev"))
  | (with_reducible show EvT (tB _) _ _ _; exact et_B (by walk_at "ev"))
  | (with_reducible show EvT (tNot _) _ _ _; exact et_not (by walk_at "et"))
  | (with_reducible show EvT (tAnd _ _) _ _ _; exact et_and (by walk_at "et") (fun _ => by walk_at "et"))
  | (with_reducible show EvT (tOr _ _) _ _ _; exact et_or (by walk_at "et") (fun _ => by walk_at "et"))
  | exact et_tru (by walk_at "ev") (by walk_at "at"))
local macro_rules | `(tactic| walk_at "ea") => `(tactic| first
  | (with_reducible show EvA tNil _ _ _; exact ea_nil)
  | (with_reducible show EvA (tCons _ _) _ _ _; exact ea_cons (by walk_at "ev") (by walk_at "ea")))
section
variable {P : Program} {w : World} {K : PySem.W.Frag} {mg : PySem.Str → Option Value} {base : Heap}
/-! ### filters over a range, one more -/
theorem rf_yes {p : Nat → Bool} {n : Nat} (h : p n = true) : (List.range (n + 1)).filter p = (List.range n).filter p ++ [n] := by
  rw [List.range_succ, List.filter_append, List.filter_cons, if_pos h] <;> rfl
theorem rf_no {p : Nat → Bool} {n : Nat} (h : p n = false) : (List.range (n + 1)).filter p = (List.range n).filter p := by
  rw [List.range_succ, List.filter_append, List.filter_cons, if_neg (by rw [h]; decide)]
  exact List.append_nil _
theorem rf_len (p : Nat → Bool) (n : Nat) : ((List.range n).filter p).length ≤ n := by
  have h := List.length_filter_le p (List.range n)
  rwa [List.length_range] at h
instance (S : Sk) (a : Att) (i : Nat) : Decidable (S.inReach a i) := by unfold Sk.inReach; infer_instance
def Sk.withinB (S : Sk) (a : Att) (room least : Int) (i : Nat) : Bool := decide (S.inReach a i ∧ far (S.off a i) ≤ room ∧ least ≤ (S.starAt i).2.2)
theorem Sk.withinB_eq {S : Sk} {a : Att} {room least : Int} {i : Nat} {s : Star} (h : S.starAt i = s) : S.withinB a room least i = (decide (far (offs S.n a s) ≤ S.cam.r + S.cam.b) && (decide (far (offs S.n a s) ≤ room) && decide (least ≤ s.2.2))) := by
  subst h
  unfold Sk.withinB Sk.inReach Sk.off
  rw [Bool.decide_and, Bool.decide_and]
def Sk.withinL (S : Sk) (a : Att) (room least : Int) : List Nat := (List.range S.st.length).filter (S.withinB a room least)
theorem Sk.seen_within (S : Sk) (a : Att) : S.withinL a (S.cam.r + S.cam.b) (S.cam.l - S.cam.g) = S.seenL a := by
  unfold withinL seenL
  refine List.filter_congr fun i hi => ?_
  have := List.mem_range.mp hi
  unfold withinB
  rw [decide_eq_decide]
  exact ⟨fun h => ⟨this, h⟩, fun h => h.2⟩
theorem Sk.sure_within (S : Sk) (a : Att) : S.withinL a (S.cam.r - S.cam.b) (S.cam.l + S.cam.g) = S.sureL a := by
  unfold withinL sureL
  refine List.filter_congr fun i hi => ?_
  have := List.mem_range.mp hi
  unfold withinB
  rw [decide_eq_decide]
  exact ⟨fun h => ⟨this, h⟩, fun h => h.2⟩
/-- a new list of star numbers -/
def Nums (l : List Nat) : PH := fun v H => ∃ p, v = .ref p ∧ H p = some (.lst (l.map nV))
theorem Nums.up {l : List Nat} {v : V} {H H' : Hp} (e : Ex H H') (h : Nums l v H) : Nums l v H' := let ⟨p, a, b⟩ := h; ⟨p, a, e p _ b⟩
/-- a sky of the law's kind -/
def SkOk (S : Sk) : Prop := SideOk S.n ∧ CamOk S.n S.cam ∧ S.st.length ≤ 20 ∧ (∀ s ∈ S.st, StarOk S.n s)
theorem SkOk.pos {S : Sk} (h : SkOk S) : 0 < S.n := by
  rcases h.1 with e | e | e <;> rw [e] <;> decide
def spWithin (C : Addr) : Sp := SpG 4 fun vs H R => ∃ S a v1 v2 room least, vs = [v1, v2, .int room, .int least] ∧ SkyAt C S v1 H ∧ T3 a v2 H ∧ SkOk S ∧ R = Nums (S.withinL a room least)
abbrev s_within : Stmt := top 18
abbrev N_within : List PySem.Str := ["sky", "attitude", "room", "least", "found", "number", "star", "place"]
theorem sc_within : FnScope N_within ["sky", "attitude", "room", "least"] (defScope s_within) := ⟨rfl, rfl, rfl, by decide +kernel, rfl, by decide +kernel, by decide +kernel⟩
theorem ok_within {C : Addr} (B : Bl mg) (P_stars : KnP P w K mg base C "stars" (prStars C)) (G_offset_of : Kn P w K mg base "offset_of" 3 ["sky", "attitude", "star"] (spOffset C)) (D : Df K mg "within" s_within) : Kn P w K mg base "within" 4 ["sky", "attitude", "room", "least"] (spWithin C) := by
  obtain ⟨f, fd, F, hm⟩ := D
  refine kn_mk F hm (F.binds (ps := ["sky", "attitude", "room", "least"]) fun _ _ _ _ _ _ us hl => match us, hl with | [_, _, _, _], _ => rfl) ?_
  refine F.ok sc_within (fun vs H Q E h => h.1) (fun cdv A outer s H vs Q E hr h => ?_)
  have hu := hu_of hr
  have nd := sc_within.nd
  obtain ⟨_, R, ⟨S, a, v1, v2, room, least, rfl, ⟨p, sa, ca, xs, rfl, hS⟩, ⟨pa, rfl, ha⟩, hok, rfl⟩, k⟩ := h
  refine ⟨_, (pss_cons (ps_set (i := 4) nd rfl (by first | exact Or.inl rfl | exact Or.inr rfl) (pe_lst pa_nil))
      (pss_cons (ps_for PassesOwn.never rfl (pi_enumT (by rfl) B.enumerate (pa_cons (pe_prp P_stars hr (pv 0)) pa_nil)) (pg_tup rfl (pgs_cons (pg_name (i := 5) nd rfl (by first | exact Or.inl rfl | exact Or.inr rfl)) (pgs_cons (pg_name (i := 6) nd rfl (by first | exact Or.inl rfl | exact Or.inr rfl)) pgs_nil)))
      (pss_cons (ps_set (i := 7) nd rfl (by first | exact Or.inl rfl | exact Or.inr rfl) (pe_own G_offset_of hr (pa_cons (pv 0) (pa_cons (pv 1) (pa_cons (pv 6) pa_nil)))))
      (pss_one (ps_if (PW.pt (pw_and (pt_cmpR op_notN (pv 7) pe_non (nomark _)) (pw_and (pt_cmpR op_le (pe_callB (call_max2 rfl) (by rfl) B.max (by decide +kernel) (pa_cons (pe_callB call_abs (by rfl) B.abs (by decide +kernel) (pa_cons (pe_ix ix_tup (pv 7) pe_int (fun _ _ => rfl)) pa_nil)) (pa_cons (pe_callB call_abs (by rfl) B.abs (by decide +kernel) (pa_cons (pe_ix ix_tup (pv 7) pe_int (fun _ _ => rfl)) pa_nil)) pa_nil))) (pv 2) (nomark _)) (pw_and1 (pt_cmpR op_ge (pe_ix ix_tup (pv 6) pe_int (fun _ _ => rfl)) (pv 3) (nomark _)))))) (pss_one (ps_expr (pe_bm PySem.F.plainAttrs_list PySem.F.slot_list_append PySem.F.type_list_append mt_append (pv 4) (pa_cons (pv 5) pa_nil)))) pss_nil))))
      (pss_one (ps_ret (pv 4))))), ?_⟩
  refine q_asgL (el_lst ea_nil (Nat.zero_le _)) fun l H1 hl e1 h1 => ?_
  have hxs : xs.length = S.st.length := hS.sts.1
  have hlen := hok.2.2.1
  refine cps (σ := _) (ev_sky (ev_var rfl) (hS.up e1)) fun H2 e2 => ?_
  refine ⟨sa, xs, rfl, st_of (hS.up (e1.trans e2)).st, for_it (walk_enumT (xs := xs)) (fun i σ' H' => (∃ u1 u2 u3, σ' = [some (.ref p), some (.ref pa), some (.int room), some (.int least), some (.ref l), u1, u2, u3]) ∧ Ex H H' ∧ H' l = some (.lst (((List.range i).filter (S.withinB a room least)).map nV))) ?_ ?_ ?_ ?_⟩
  · exact ⟨⟨_, _, _, rfl⟩, e1.trans e2, e2 _ _ h1⟩
  · exact fun i σ' H' _ q => st_of (hS.up q.2.1).st
  · rintro i x σ' H' H3 hi ⟨⟨u1, u2, u3, rfl⟩, e3, h3⟩ ⟨T, x1, x2, rfl, hT, rfl, e4, hx⟩
    cases e4
    have e4 : Ex H' (upd H' T (.tup [.int (i : Nat), x2])) := Ex.new hT
    have e := e3.trans e4
    refine g_tup2 upd_same ?_
    obtain ⟨s, hs, hsv⟩ := hS.sts.2 i x2 hx
    have hst : S.starAt i = s := by
      unfold Sk.starAt
      rw [List.getD_eq_getElem?_getD, hs]
      rfl
    obtain ⟨ps, rfl, hps⟩ := hsv
    have hl3 := e4 _ _ h3
    refine q_asgP (evp_call (by walk_at "ea") (use_offset (S := S) (a := a) (s := s) ⟨p, sa, ca, xs, rfl, hS.up e⟩ ⟨pa, rfl, e _ _ ha⟩ ⟨ps, rfl, e _ _ hps⟩ hok.pos)) fun v H5 e5 r => ?_
    have hl5 := e5 _ _ hl3
    have hps5 := (e.trans e5) _ _ hps
    unfold Offs at r
    by_cases c : far (offs S.n a s) ≤ S.cam.r + S.cam.b
    · rw [if_pos c] at r
      obtain ⟨q, rfl, hq⟩ := r
      refine s_if (b := S.withinB a room least i) ?_ (fun hb H6 e6 => ?_) (fun hb H6 e6 => ?_)
      · refine et_is (by walk_at "et") ?_
        rw [Sk.withinB_eq hst, decide_eq_true c]
        rfl
      · refine s_app (e6 _ _ hl5) (by walk_at "ev") (by walk_at "ev") (by
          rw [List.length_map]
          have := rf_len (S.withinB a room least) i
          omega) fun H7 e7 => ⟨⟨_, _, _, rfl⟩, ?_, ?_⟩
        · exact Ex.mut ((((e.trans e5).trans e6).trans e7)) hl
        · rw [upd_same, rf_yes hb, List.map_append]
          rfl
      · refine ⟨⟨_, _, _, rfl⟩, (e.trans e5).trans e6, ?_⟩
        rw [rf_no hb]
        exact e6 _ _ hl5
    · rw [if_neg c] at r
      subst r
      refine s_if (b := false) (et_and (a := false) (b := false) (et_is (a := !decide (V.non = V.non)) (by walk_at "et") rfl) (fun z => by cases z)) (fun hb => by cases hb) (fun hb H6 e6 => ?_)
      refine ⟨⟨_, _, _, rfl⟩, (e.trans e5).trans e6, ?_⟩
      rw [rf_no (by
        rw [Sk.withinB_eq hst, decide_eq_false c]
        rfl)]
      exact e6 _ _ hl5
  · rintro σ' H' ⟨⟨u1, u2, u3, rfl⟩, e3, h3⟩
    refine s_ret (ev_var rfl) fun H4 e4 => k _ H4 (e3.trans e4) ⟨l, rfl, ?_⟩
    rw [hxs] at h3
    exact e4 _ _ h3
theorem use_within {C : Addr} {S : Sk} {a : Att} {v1 v2 : V} {room least : Int} {H : Hp} (hS : SkyAt C S v1 H) (ha : T3 a v2 H) (hok : SkOk S) : SpP (spWithin C) [v1, v2, .int room, .int least] H (Nums (S.withinL a room least)) :=
  spg fun _ e => ⟨S, a, v1, v2, room, least, rfl, hS.up e, ha.up e, hok, rfl⟩
/-! ### seen_stars, sure_stars -/
def spSeen (C : Addr) : Sp := SpG 2 fun vs H R => ∃ S a v1 v2, vs = [v1, v2] ∧ SkyAt C S v1 H ∧ T3 a v2 H ∧ SkOk S ∧ AttOk S.n a ∧ R = Nums (S.seenL a)
def spSure (C : Addr) : Sp := SpG 2 fun vs H R => ∃ S a v1 v2, vs = [v1, v2] ∧ SkyAt C S v1 H ∧ T3 a v2 H ∧ SkOk S ∧ AttOk S.n a ∧ R = Nums (S.sureL a)
abbrev s_seen_stars : Stmt := top 19
abbrev N_seen_stars : List PySem.Str := ["sky", "attitude"]
theorem sc_seen_stars : FnScope N_seen_stars ["sky", "attitude"] (defScope s_seen_stars) := ⟨rfl, rfl, rfl, by decide +kernel, rfl, by decide +kernel, by decide +kernel⟩
theorem ok_seen_stars {C : Addr} (P_reach : KnP P w K mg base C "reach" (prReach C)) (P_blur : KnP P w K mg base C "blur" (prBlur C)) (P_glare : KnP P w K mg base C "glare" (prGlare C)) (P_limit : KnP P w K mg base C "limit" (prLimit C)) (G_check_attitude : Kn P w K mg base "check_attitude" 3 ["sky", "attitude"] (spCheckAtt C)) (G_within : Kn P w K mg base "within" 4 ["sky", "attitude", "room", "least"] (spWithin C)) (D : Df K mg "seen_stars" s_seen_stars) : Kn P w K mg base "seen_stars" 5 ["sky", "attitude"] (spSeen C) := by
  obtain ⟨f, fd, F, hm⟩ := D
  refine kn_mk F hm (F.binds (ps := ["sky", "attitude"]) fun _ _ _ _ _ _ us hl => match us, hl with | [_, _], _ => rfl) ?_
  refine F.ok sc_seen_stars (fun vs H Q E h => h.1) (fun cdv A outer s H vs Q E hr h => ?_)
  have hu := hu_of hr
  have nd := sc_seen_stars.nd
  obtain ⟨_, R, ⟨S, a, v1, v2, rfl, ⟨p, sa, ca, xs, rfl, hS⟩, ⟨pa, rfl, ha⟩, hok, hat, rfl⟩, k⟩ := h
  refine ⟨_, (pss_cons (ps_expr (pe_own G_check_attitude hr (pa_cons (pv 0) (pa_cons (pv 1) pa_nil))))
      (pss_one (ps_ret (pe_own G_within hr (pa_cons (pv 0) (pa_cons (pv 1) (pa_cons (pe_op op_add (pe_prp P_reach hr (pv 0)) (pe_prp P_blur hr (pv 0))) (pa_cons (pe_op op_sub (pe_prp P_limit hr (pv 0)) (pe_prp P_glare hr (pv 0))) pa_nil)))))))), ?_⟩
  refine q_drop (ev_callV (by walk_at "ea") (use_checkAtt ⟨p, sa, ca, xs, rfl, hS⟩ ⟨pa, rfl, ha⟩ hat)) fun H1 e1 => ?_
  have hS1 := hS.up e1
  refine s_retP (evp_call (by walk_at "ea") (use_within (S := S) (a := a) (room := S.cam.r + S.cam.b) (least := S.cam.l - S.cam.g) ⟨p, sa, ca, xs, rfl, hS1⟩ ⟨pa, rfl, e1 _ _ ha⟩ hok)) fun v H2 e2 r => k v H2 (e1.trans e2) ?_
  rw [S.seen_within a] at r
  exact r
abbrev s_sure_stars : Stmt := top 20
abbrev N_sure_stars : List PySem.Str := ["sky", "attitude"]
theorem sc_sure_stars : FnScope N_sure_stars ["sky", "attitude"] (defScope s_sure_stars) := ⟨rfl, rfl, rfl, by decide +kernel, rfl, by decide +kernel, by decide +kernel⟩
theorem ok_sure_stars {C : Addr} (P_reach : KnP P w K mg base C "reach" (prReach C)) (P_blur : KnP P w K mg base C "blur" (prBlur C)) (P_glare : KnP P w K mg base C "glare" (prGlare C)) (P_limit : KnP P w K mg base C "limit" (prLimit C)) (G_check_attitude : Kn P w K mg base "check_attitude" 3 ["sky", "attitude"] (spCheckAtt C)) (G_within : Kn P w K mg base "within" 4 ["sky", "attitude", "room", "least"] (spWithin C)) (D : Df K mg "sure_stars" s_sure_stars) : Kn P w K mg base "sure_stars" 5 ["sky", "attitude"] (spSure C) := by
  obtain ⟨f, fd, F, hm⟩ := D
  refine kn_mk F hm (F.binds (ps := ["sky", "attitude"]) fun _ _ _ _ _ _ us hl => match us, hl with | [_, _], _ => rfl) ?_
  refine F.ok sc_sure_stars (fun vs H Q E h => h.1) (fun cdv A outer s H vs Q E hr h => ?_)
  have hu := hu_of hr
  have nd := sc_sure_stars.nd
  obtain ⟨_, R, ⟨S, a, v1, v2, rfl, ⟨p, sa, ca, xs, rfl, hS⟩, ⟨pa, rfl, ha⟩, hok, hat, rfl⟩, k⟩ := h
  refine ⟨_, (pss_cons (ps_expr (pe_own G_check_attitude hr (pa_cons (pv 0) (pa_cons (pv 1) pa_nil))))
      (pss_one (ps_ret (pe_own G_within hr (pa_cons (pv 0) (pa_cons (pv 1) (pa_cons (pe_op op_sub (pe_prp P_reach hr (pv 0)) (pe_prp P_blur hr (pv 0))) (pa_cons (pe_op op_add (pe_prp P_limit hr (pv 0)) (pe_prp P_glare hr (pv 0))) pa_nil)))))))), ?_⟩
  refine q_drop (ev_callV (by walk_at "ea") (use_checkAtt ⟨p, sa, ca, xs, rfl, hS⟩ ⟨pa, rfl, ha⟩ hat)) fun H1 e1 => ?_
  have hS1 := hS.up e1
  refine s_retP (evp_call (by walk_at "ea") (use_within (S := S) (a := a) (room := S.cam.r - S.cam.b) (least := S.cam.l + S.cam.g) ⟨p, sa, ca, xs, rfl, hS1⟩ ⟨pa, rfl, e1 _ _ ha⟩ hok)) fun v H2 e2 r => k v H2 (e1.trans e2) ?_
  rw [S.sure_within a] at r
  exact r
theorem use_seen {C : Addr} {S : Sk} {a : Att} {v1 v2 : V} {H : Hp} (hS : SkyAt C S v1 H) (ha : T3 a v2 H) (hok : SkOk S) (hat : AttOk S.n a) : SpP (spSeen C) [v1, v2] H (Nums (S.seenL a)) := spg fun _ e => ⟨S, a, v1, v2, rfl, hS.up e, ha.up e, hok, hat, rfl⟩
theorem use_sure {C : Addr} {S : Sk} {a : Att} {v1 v2 : V} {H : Hp} (hS : SkyAt C S v1 H) (ha : T3 a v2 H) (hok : SkOk S) (hat : AttOk S.n a) : SpP (spSure C) [v1, v2] H (Nums (S.sureL a)) := spg fun _ e => ⟨S, a, v1, v2, rfl, hS.up e, ha.up e, hok, hat, rfl⟩
/-! ### apart, are_far -/
def apartN (n : Int) (a b : Att) : Option Int := if a.2.2 = b.2.2 then some (imax (iabs (near n (a.1 - b.1))) (iabs (near n (a.2.1 - b.2.1)))) else none
def optV : Option Int → V
  | none => .non
  | some i => .int i
def farB (n : Int) (a b : Att) (slack : Int) : Bool := match apartN n a b with
  | none => true
  | some i => decide (slack < i)
def spApart (C : Addr) : Sp := SpG 3 fun vs H R => ∃ S a b v1 v2 v3, vs = [v1, v2, v3] ∧ SkyAt C S v1 H ∧ T3 a v2 H ∧ T3 b v3 H ∧ SkOk S ∧ AttOk S.n a ∧ AttOk S.n b ∧ R = is (optV (apartN S.n a b))
abbrev s_apart : Stmt := top 21
abbrev N_apart : List PySem.Str := ["sky", "one", "other"]
theorem sc_apart : FnScope N_apart ["sky", "one", "other"] (defScope s_apart) := ⟨rfl, rfl, rfl, by decide +kernel, rfl, by decide +kernel, by decide +kernel⟩
theorem ok_apart {C : Addr} (B : Bl mg) (P_side : KnP P w K mg base C "side" (prSide C)) (G_check_attitude : Kn P w K mg base "check_attitude" 3 ["sky", "attitude"] (spCheckAtt C)) (G_nearest : Kn P w K mg base "nearest" 1 ["side", "number"] spNearest) (D : Df K mg "apart" s_apart) : Kn P w K mg base "apart" 4 ["sky", "one", "other"] (spApart C) := by
  obtain ⟨f, fd, F, hm⟩ := D
  refine kn_mk F hm (F.binds (ps := ["sky", "one", "other"]) fun _ _ _ _ _ _ us hl => match us, hl with | [_, _, _], _ => rfl) ?_
  refine F.ok sc_apart (fun vs H Q E h => h.1) (fun cdv A outer s H vs Q E hr h => ?_)
  have hu := hu_of hr
  have nd := sc_apart.nd
  obtain ⟨_, R, ⟨S, a, b, v1, v2, v3, rfl, ⟨p, sa, ca, xs, rfl, hS⟩, ⟨pa, rfl, ha⟩, ⟨pb, rfl, hb⟩, hok, hat, hbt, rfl⟩, k⟩ := h
  refine ⟨_, (pss_cons (ps_expr (pe_own G_check_attitude hr (pa_cons (pv 0) (pa_cons (pv 1) pa_nil))))
      (pss_cons (ps_expr (pe_own G_check_attitude hr (pa_cons (pv 0) (pa_cons (pv 2) pa_nil))))
      (pss_cons (ps_if (pt_cmpR op_ne (pe_ix ix_tup (pv 1) pe_int (fun _ _ => rfl)) (pe_ix ix_tup (pv 2) pe_int (fun _ _ => rfl)) (nomark _)) (pss_one (ps_ret pe_non)) pss_nil)
      (pss_one (ps_ret (pe_callB (call_max2 rfl) (by rfl) B.max (by decide +kernel) (pa_cons (pe_callB call_abs (by rfl) B.abs (by decide +kernel) (pa_cons (pe_own G_nearest hr (pa_cons (pe_prp P_side hr (pv 0)) (pa_cons (pe_op op_sub (pe_ix ix_tup (pv 1) pe_int (fun _ _ => rfl)) (pe_ix ix_tup (pv 2) pe_int (fun _ _ => rfl))) pa_nil))) pa_nil)) (pa_cons (pe_callB call_abs (by rfl) B.abs (by decide +kernel) (pa_cons (pe_own G_nearest hr (pa_cons (pe_prp P_side hr (pv 0)) (pa_cons (pe_op op_sub (pe_ix ix_tup (pv 1) pe_int (fun _ _ => rfl)) (pe_ix ix_tup (pv 2) pe_int (fun _ _ => rfl))) pa_nil))) pa_nil)) pa_nil)))))))), ?_⟩
  refine q_drop (ev_callV (by walk_at "ea") (use_checkAtt ⟨p, sa, ca, xs, rfl, hS⟩ ⟨pa, rfl, ha⟩ hat)) fun H1 e => ?_
  refine q_drop (ev_callV (by walk_at "ea") (use_checkAtt ⟨p, sa, ca, xs, rfl, hS.up e⟩ ⟨pb, rfl, e _ _ hb⟩ hbt)) fun H2 e2 => ?_
  replace e := e.trans e2
  refine q_when (b := !decide (V.int a.2.2 = V.int b.2.2)) (by walk_at "et") (fun c H3 e3 => ?_) fun c H3 e3 => ?_
  · refine s_ret ev_c fun H4 e4 => k _ H4 ((e.trans e3).trans e4) ?_
    unfold apartN
    rw [if_neg (fun z => by rw [z] at c; simp at c)]
    rfl
  · replace e := e.trans e3
    refine s_ret (ev_max (ev_abs (ev_callV (by walk_at "ea") (use_nearest hok.pos))) (ev_abs (ev_callV (by walk_at "ea") (use_nearest hok.pos)))) fun H4 e4 => k _ H4 (e.trans e4) ?_
    unfold apartN
    rw [if_pos (by simpa using c)]
    rfl
theorem use_apart {C : Addr} {S : Sk} {a b : Att} {v1 v2 v3 : V} {H : Hp} (hS : SkyAt C S v1 H) (ha : T3 a v2 H) (hb : T3 b v3 H) (hok : SkOk S) (hat : AttOk S.n a) (hbt : AttOk S.n b) : SpV (spApart C) [v1, v2, v3] H (optV (apartN S.n a b)) :=
  spgV fun _ e => ⟨S, a, b, v1, v2, v3, rfl, hS.up e, ha.up e, hb.up e, hok, hat, hbt, rfl⟩
def spFar (C : Addr) : Sp := SpG 4 fun vs H R => ∃ S a b v1 v2 v3 slack, vs = [v1, v2, v3, .int slack] ∧ SkyAt C S v1 H ∧ T3 a v2 H ∧ T3 b v3 H ∧ SkOk S ∧ AttOk S.n a ∧ AttOk S.n b ∧ R = is (.bl (farB S.n a b slack))
abbrev s_are_far : Stmt := top 22
abbrev N_are_far : List PySem.Str := ["sky", "one", "other", "slack", "steps"]
theorem sc_are_far : FnScope N_are_far ["sky", "one", "other", "slack"] (defScope s_are_far) := ⟨rfl, rfl, rfl, by decide +kernel, rfl, by decide +kernel, by decide +kernel⟩
theorem ok_are_far {C : Addr} (G_apart : Kn P w K mg base "apart" 4 ["sky", "one", "other"] (spApart C)) (D : Df K mg "are_far" s_are_far) : Kn P w K mg base "are_far" 5 ["sky", "one", "other", "slack"] (spFar C) := by
  obtain ⟨f, fd, F, hm⟩ := D
  refine kn_mk F hm (F.binds (ps := ["sky", "one", "other", "slack"]) fun _ _ _ _ _ _ us hl => match us, hl with | [_, _, _, _], _ => rfl) ?_
  refine F.ok sc_are_far (fun vs H Q E h => h.1) (fun cdv A outer s H vs Q E hr h => ?_)
  have hu := hu_of hr
  have nd := sc_are_far.nd
  obtain ⟨_, R, ⟨S, a, b, v1, v2, v3, slack, rfl, hS, ha, hb, hok, hat, hbt, rfl⟩, k⟩ := h
  refine ⟨_, (pss_cons (ps_set (i := 4) nd rfl (by first | exact Or.inl rfl | exact Or.inr rfl) (pe_own G_apart hr (pa_cons (pv 0) (pa_cons (pv 1) (pa_cons (pv 2) pa_nil)))))
      (pss_one (ps_ret (pe_or (pe_cmpR op_isN (pv 4) pe_non (nomark _)) (pe_one (pe_cmpR op_gt (pv 4) (pv 3) (nomark _))))))), ?_⟩
  refine q_asg (ev_callV (by walk_at "ea") (use_apart hS ha hb hok hat hbt)) fun H1 e => ?_
  unfold farB at k
  cases c : apartN S.n a b with
  | none =>
    rw [c] at k
    refine s_ret (ev_orV (a := true) (b := true) (ev_is (v := .bl (decide (optV none = V.non))) (by walk_at "ev") rfl) (fun z => by cases z)) fun H2 e2 => k _ H2 (e.trans e2) rfl
  | some i =>
    rw [c] at k
    refine s_ret (ev_orV (a := false) (b := decide (slack < i)) (ev_is (v := .bl (decide (optV (some i) = V.non))) (by walk_at "ev") rfl) (fun z => ev_op (ev_var rfl) (ev_var rfl) rv_I0)) fun H2 e2 => k _ H2 (e.trans e2) rfl
theorem use_far {C : Addr} {S : Sk} {a b : Att} {v1 v2 v3 : V} {slack : Int} {H : Hp} (hS : SkyAt C S v1 H) (ha : T3 a v2 H) (hb : T3 b v3 H) (hok : SkOk S) (hat : AttOk S.n a) (hbt : AttOk S.n b) : SpV (spFar C) [v1, v2, v3, .int slack] H (.bl (farB S.n a b slack)) :=
  spgV fun _ e => ⟨S, a, b, v1, v2, v3, slack, rfl, hS.up e, ha.up e, hb.up e, hok, hat, hbt, rfl⟩
end
end K77
end

section
set_option maxRecDepth 100000
set_option maxHeartbeats 4000000
namespace K77
open PySem L2 Evl
local macro_rules | `(tactic| walk_at "at") => `(tactic| first | assumption | exact Ex.get (by assumption) (by assumption))
local macro_rules | `(tactic| walk_at "sk") => `(tactic| first | assumption | exact SkyA.up (by assumption) (by assumption))
local macro_rules | `(tactic| walk_at "rv") => `(tactic| first
  | with_reducible exact rv_I0
  | with_reducible exact rv_isN
  | with_reducible exact rv_notN
  | (with_reducible show RV (rI (fun _ j => 0 < j) fun i j => .int (i % j)) _ _ _ _; exact rv_mod (by first | assumption | omega))
  | (with_reducible show RV (rI CMul _) _ _ _ _; exact rv_mul (by first | exact mul_l (by omega) | exact mul_r (by omega)))
  | (with_reducible show RV (rI CDiv _) _ _ _ _; exact rv_fdiv (div_ok (by omega)))
  | (with_reducible show RV (rIxT _) _ _ _ _; exact rv_tup (by walk_at "at") rfl)
  | (with_reducible show RV rEq _ _ _ _; exact rv_eq rfl)
  | (with_reducible show RV rNe _ _ _ _; exact rv_ne rfl))
local macro_rules | `(tactic| walk_at "ev") => `(tactic| first
  | (with_reducible show Ev (tVar _) _ _ _; exact ev_var rfl)
  | (with_reducible show Ev (tC _) _ _ _; exact ev_c)
  | (with_reducible show Ev (tOp _ _ _) _ _ _; exact ev_op (by walk_at "ev") (by walk_at "ev") (by walk_at "rv"))
  | (with_reducible show Ev (tProp _ _ _ _ _) _ _ _; exact ev_sky (by walk_at "ev") (by walk_at "sk"))
  | (with_reducible show Ev (tCB rAbs _) _ _ _; exact ev_abs (by walk_at "ev"))
  | (with_reducible show Ev (tCB rMax _) _ _ _; exact ev_max (by walk_at "ev") (by walk_at "ev"))
  | (with_reducible show Ev (tCB rMin _) _ _ _; exact ev_min (by walk_at "ev") (by walk_at "ev"))
  | (with_reducible show Ev (tCB rInt _) _ _ _; exact ev_int (by walk_at "ev"))
  | (with_reducible show Ev (tCB rInt _) _ _ _; exact ev_intB (by walk_at "ev"))
  | (with_reducible show Ev (tChain _ _ _ _ _) _ _ _; exact ev_chain (by walk_at "ev") (by walk_at "ev") (by walk_at "ev"))
  | (with_reducible show Ev (tAndV _ _) _ _ _; exact ev_andV (by walk_at "ev") (fun _ => by walk_at "ev"))
  | (with_reducible show Ev (tOrV _ _) _ _ _; exact ev_orV (by walk_at "ev") (fun _ => by walk_at "ev"))
  | (with_reducible show Ev (tCB (rLenQ _) _) _ _ _; exact ev_lenL (by walk_at "ev") (by walk_at "at"))
  | (with_reducible show Ev (tCB (rLenQ _) _) _ _ _; exact ev_lenT (by walk_at "ev") (by walk_at "at"))
  | (with_reducible show Ev (tUn _ _) _ _ _; exact ev_un (by walk_at "ev") ru_neg))
local macro_rules | `(tactic| walk_at "et") => `(tactic| first
  | (with_reducible show EvT (tTest _) _ _ _; exact et_test (by walk_at "ev"))
  | (with_reducible show EvT (tB _) _ _ _; exact et_B (by walk_at "ev"))
  | (with_reducible show EvT (tNot _) _ _ _; exact et_not (by walk_at "et"))
  | (with_reducible show EvT (tAnd _ _) _ _ _; exact et_and (by walk_at "et") (fun _ => by walk_at "et"))
  | (with_reducible show EvT (tOr _ _) _ _ _; exact et_or (by walk_at "et") (fun _ => by walk_at "et"))
  | exact et_tru (by walk_at "ev") (by walk_at "at"))
local macro_rules | `(tactic| walk_at "ea") => `(tactic| first
  | (with_reducible show EvA tNil _ _ _; exact ea_nil)
  | (with_reducible show EvA (tCons _ _) _ _ _; exact ea_cons (by walk_at "ev") (by walk_at "ea")))
/-! ### what leans on tuples alone -/
def Tups (H H' : Hp) : Prop := ∀ (a : Addr) (xs : List V), H a = some (.tup xs) → H' a = some (.tup xs)
theorem Tups.of {H H' : Hp} (e : Ex H H') : Tups H H' := fun a xs h => e a _ h
theorem Tups.refl (H : Hp) : Tups H H := fun _ _ h => h
theorem Tups.trans {H H1 H2 : Hp} (a : Tups H H1) (b : Tups H1 H2) : Tups H H2 := fun x o h => b x o (a x o h)
theorem Tups.upd {H : Hp} {D : Addr} {o o' : HO} (h : H D = some o) (hn : ∀ xs, o ≠ .tup xs) : Tups H (upd H D o') := fun a xs e => by
  rw [upd_ne (fun z => by
    rw [z, h] at e
    exact hn xs (Option.some.inj e))]
  exact e
theorem Tups.lst {H : Hp} {D : Addr} {xs ys : List V} (h : H D = some (.lst xs)) : Tups H (L2.upd H D (.lst ys)) := Tups.upd h fun _ z => by cases z
def Imm (R : PH) : Prop := ∀ v H H', Tups H H' → R v H → R v H'
theorem Imm.stb {R : PH} (h : Imm R) : Stb R := fun v H H' e => h v H H' (.of e)
theorem im_T2 (t : Int × Int) : Imm (T2 t) := fun v H H' e ⟨p, a, b⟩ => ⟨p, a, e p _ b⟩
theorem im_T3 (t : Int × Int × Int) : Imm (T3 t) := fun v H H' e ⟨p, a, b⟩ => ⟨p, a, e p _ b⟩
theorem im_T4 (c : Cam) : Imm (T4 c) := fun v H H' e ⟨p, a, b⟩ => ⟨p, a, e p _ b⟩
theorem im_is (x : V) : Imm (is x) := fun v H H' _ h => h
theorem Lst.tups {α : Type} {R : α → PH} {l : List α} {xs : List V} {H H' : Hp} (hR : ∀ d, Imm (R d)) (e : Tups H H') (h : Lst R l xs H) : Lst R l xs H' := ⟨h.1, fun i x hx => let ⟨d, a, b⟩ := h.2 i x hx; ⟨d, a, hR d x H H' e b⟩⟩
theorem Lst.append {α : Type} {R : α → PH} {H : Hp} {l1 : List α} {xs1 : List V} (h1 : Lst R l1 xs1 H) : ∀ {l2 : List α} {xs2 : List V}, Lst R l2 xs2 H → Lst R (l1 ++ l2) (xs1 ++ xs2) H := by
  intro l2 xs2 h2
  refine ⟨by rw [List.length_append, List.length_append, h1.1, h2.1], fun i x hx => ?_⟩
  by_cases c : i < xs1.length
  · rw [List.getElem?_append_left c] at hx
    obtain ⟨d, a, b⟩ := h1.2 i x hx
    exact ⟨d, by rw [List.getElem?_append_left (by rw [← h1.1]; exact c)]; exact a, b⟩
  · rw [List.getElem?_append_right (by omega)] at hx
    obtain ⟨d, a, b⟩ := h2.2 _ x hx
    exact ⟨d, by rw [List.getElem?_append_right (by rw [← h1.1]; omega), ← h1.1]; exact a, b⟩
/-! ### list comprehensions, a name as the target -/
/-- wi walks J, whatever has come since -/
def Walks1 (wi : TI) (σ : St) (H : Hp) (J : It) : Prop := ∀ H1, Ex H H1 → ∀ Rk : It → Hp → Prop, (∀ H2, Ex H1 H2 → Rk J H2) → wi σ H1 Rk
theorem ev_lcN {α : Type} {J : It} {n : Nat} {G : Hp → Prop} {Y : Nat → Hp → V → Hp → Prop} {wi : TI} {σ : St} {H : Hp} {j : Nat} {tt : TT} {te : TE} {vs : List Nat} {R : α → PH} (hR : ∀ d, Imm (R d)) (hw : Walks1 wi σ H J) (w : Walk J n G Y) (hG : ∀ H1, Ex H H1 → G H1)
    (l : Nat → List α) (l0 : l 0 = []) (hn : n ≤ 50000)
    (turn : ∀ i x H1 H2, i < n → Ex H H1 → Y i H1 x H2 → Ex H1 H2 ∧ wipe ((wipe σ vs).set j (some x)) vs = wipe σ vs ∧ ∃ b, EvT tt ((wipe σ vs).set j (some x)) H2 b ∧ (b = true → ∃ d, l (i + 1) = l i ++ [d] ∧ EvP te ((wipe σ vs).set j (some x)) H2 (R d)) ∧ (b = false → l (i + 1) = l i)) :
    EvP (tLc wi (gName j) tt te vs) σ H (fun v H' => ListOf R (l n) v H') := fun H1 e1 Q q => hw H1 e1 _ fun H2 e2 D hD => by
  have len : ∀ i, i ≤ n → ∀ ys H', Lst R (l i) ys H' → ys.length ≤ i → True := fun _ _ _ _ _ _ => trivial
  refine lc_it w (fun i H' => Ex H2 H' ∧ ∃ ys, H' D = some (.lst ys) ∧ Lst R (l i) ys H' ∧ ys.length ≤ i) ⟨Ex.new hD, [], upd_same, by rw [l0]; exact Lst.nil, Nat.le_refl _⟩ (fun i H' _ p => hG H' ((e1.trans e2).trans p.1)) ?_ ?_
  · rintro i x H' H3 hi ⟨e3, ys, hy, hl, hz⟩ hY
    obtain ⟨e4, hwp, b, hb, h1, h2⟩ := turn i x H' H3 hi ((e1.trans e2).trans e3) hY
    refine ⟨hwp, hb H3 (Ex.refl H3) _ fun H4 e5 => ?_⟩
    have e45 := e4.trans e5
    cases b with
    | true =>
      obtain ⟨d, hd, he⟩ := h1 rfl
      refine iteT (he H4 e5 _ fun y H5 e6 hy5 => ⟨ys, e6 _ _ (e45 _ _ hy), sz_lt (by omega), Ex.mut ((e3.trans e45).trans e6) hD, ys ++ [y], upd_same, ?_, by rw [List.length_append]; simp; omega⟩)
      rw [hd]
      have t := Tups.lst (ys := ys ++ [y]) (e6 _ _ (e45 _ _ hy))
      exact Lst.snoc (hl.tups hR ((Tups.of (e45.trans e6)).trans t)) (hR d _ _ _ t hy5)
    | false =>
      refine iteF ⟨e3.trans e45, ys, e45 _ _ hy, ?_, by omega⟩
      rw [h2 rfl]
      exact hl.tups hR (Tups.of e45)
  · rintro H' ⟨e3, ys, hy, hl, _⟩
    exact q _ _ (e2.trans e3) ⟨D, ys, rfl, hy, hl⟩
theorem walks_rng1 {σ : St} {H : Hp} {ta : TA} {n : Int} (h : EvA ta σ H [.int n]) (hn : 0 ≤ n ∧ n ≤ 100000) : Walks1 (iRng1 ta) σ H (Itr 0 n.toNat) := fun H1 e Rk q => h H1 e _ fun H2 e2 => ⟨n, rfl, by omega, by omega, q H2 e2⟩
theorem walks_rng2 {σ : St} {H : Hp} {ta : TA} {lo n : Int} (h : EvA ta σ H [.int lo, .int n]) (hn : -100000 ≤ lo ∧ lo ≤ 100000 ∧ -100000 ≤ n ∧ n ≤ 100000) : Walks1 (iRng2 ta) σ H (Itr lo (n - lo).toNat) := fun H1 e Rk q => h H1 e _ fun H2 e2 => ⟨lo, n, rfl, by omega, q H2 e2⟩
theorem walks_tup {σ : St} {H : Hp} {K : PySem.W.Frag} {tl : TE} {a : Addr} {xs : List V} (h : Ev tl σ H (.ref a)) (hx : H a = some (.tup xs)) : Walks1 (iTup K tl) σ H (Itt K a) := fun H1 e Rk q => h H1 e _ fun H2 e2 => ⟨a, rfl, ⟨xs, st_of ((e.trans e2) _ _ hx)⟩, q H2 e2⟩
theorem walks_lst {σ : St} {H : Hp} {K : PySem.W.Frag} {tl : TE} {a : Addr} {xs : List V} (h : Ev tl σ H (.ref a)) (hx : H a = some (.lst xs)) : Walks1 (iList K tl) σ H (Itl K a) := fun H1 e Rk q => h H1 e _ fun H2 e2 => ⟨a, rfl, ⟨xs, sq_of ((e.trans e2) _ _ hx)⟩, q H2 e2⟩
/-- xs.extend(ys), ys a new list -/
theorem s_ext {K : PySem.W.Frag} {σ : St} {H : Hp} {D : Ends} {ta te : TE} {l : Addr} {xs : List V} {R : PH} (hl : H l = some (.lst xs)) (ha : Ev ta σ H (.ref l)) (h : EvP te σ H R) (hz : ∀ v H1, Ex H H1 → R v H1 → ∃ b zs, v = .ref b ∧ H1 b = some (.lst zs) ∧ xs.length + zs.length ≤ 100000 ∧ D.nx σ (upd H1 l (.lst (xs ++ zs)))) :
    tDrop (tBM K "list" rExtend ta (tCons te tNil)) D σ H := ha H (Ex.refl H) _ fun H1 e1 =>
  ⟨Or.inl ⟨rfl, xs, sq_of (e1 l _ hl)⟩, h H1 e1 _ fun v H2 e2 r => by
    obtain ⟨b, zs, rfl, hb, hn, q⟩ := hz v H2 (e1.trans e2) r
    exact ⟨l, b, xs, zs, rfl, rfl, e2 l _ (e1 l _ hl), hb, sz_of hn, q⟩⟩
section
variable {P : Program} {w : World} {K : PySem.W.Frag} {mg : PySem.Str → Option Value} {base : Heap}
/-! ### all_triples, attitudes -/
def quads (x y : Nat) (i : Nat) : List Att := (List.range i).map fun (q : Nat) => ((x : Int), (y : Int), (q : Int))
def rowsT (x : Nat) (j : Nat) : List Att := (List.range j).flatMap fun y => quads x y 4
def triples (n i : Nat) : List Att := (List.range i).flatMap fun x => rowsT x n
theorem quads_len (x y i : Nat) : (quads x y i).length = i := by
  unfold quads
  rw [List.length_map, List.length_range]
theorem rowsT_succ (x j : Nat) : rowsT x (j + 1) = rowsT x j ++ quads x j 4 := by
  unfold rowsT
  rw [List.range_succ, List.flatMap_append]
  simp
theorem triples_succ (n i : Nat) : triples n (i + 1) = triples n i ++ rowsT i n := by
  unfold triples
  rw [List.range_succ, List.flatMap_append]
  simp
theorem rowsT_len (x : Nat) : ∀ j, (rowsT x j).length = 4 * j
  | 0 => rfl
  | j + 1 => by
    rw [rowsT_succ, List.length_append, rowsT_len x j, quads_len]
    omega
def spTriples : Sp := SpG 1 fun vs H R => ∃ n : Int, vs = [.int n] ∧ SideOk n ∧ R = ListOf T3 (triples n.toNat n.toNat)
abbrev s_all_triples : Stmt := top 13
abbrev N_all_triples : List PySem.Str := ["side", "found", "x", "y", "quarter"]
theorem sc_all_triples : FnScope N_all_triples ["side"] (defScope s_all_triples) := ⟨rfl, rfl, rfl, by decide +kernel, rfl, by decide +kernel, by decide +kernel⟩
theorem ok_all_triples (B : Bl mg) (D : Df K mg "all_triples" s_all_triples) : Kn P w K mg base "all_triples" 1 ["side"] spTriples := by
  obtain ⟨f, fd, F, hm⟩ := D
  refine kn_mk F hm (F.binds (ps := ["side"]) fun _ _ _ _ _ _ us hl => match us, hl with | [_], _ => rfl) ?_
  refine F.ok sc_all_triples (fun vs H Q E h => h.1) (fun cdv A outer s H vs Q E hr h => ?_)
  have hu := hu_of hr
  have nd := sc_all_triples.nd
  obtain ⟨_, R, ⟨n, rfl, hn, rfl⟩, k⟩ := h
  obtain ⟨n0, n6⟩ : 0 ≤ n ∧ n ≤ 6 := by
    rcases hn with e | e | e <;> rw [e] <;> decide
  refine ⟨_, (pss_cons (ps_set (i := 1) nd rfl (by first | exact Or.inl rfl | exact Or.inr rfl) (pe_lst pa_nil))
      (pss_cons (ps_for PassesOwn.never rfl (pi_range1 (by rfl) B.range (pa_cons (pv 0) pa_nil)) (pg_name (i := 2) nd rfl (by first | exact Or.inl rfl | exact Or.inr rfl))
      (pss_one (ps_for PassesOwn.never rfl (pi_range1 (by rfl) B.range (pa_cons (pv 0) pa_nil)) (pg_name (i := 3) nd rfl (by first | exact Or.inl rfl | exact Or.inr rfl))
      (pss_one (ps_expr (pe_bm PySem.F.plainAttrs_list PySem.F.slot_list_extend PySem.F.type_list_extend mt_extend (pv 1) (pa_cons (pe_lc (own := [("quarter", 4)]) rfl nd (pi_range1 (by rfl) B.range (pa_cons pe_int pa_nil)) (blkOk_by (N := N_all_triples) (sc := defScope s_all_triples) (by decide +kernel)) (fun _ _ _ _ _ => (pg_name (i := 4) nd rfl (by first | exact Or.inl rfl | exact Or.inr rfl))) (fun _ _ _ _ _ => pts_nil) (fun _ _ _ _ _ => (pe_tup (pa_cons (pv 2) (pa_cons (pv 3) (pa_cons (pv 4) pa_nil)))))) pa_nil)))))))
      (pss_one (ps_ret (pv 1))))), ?_⟩
  refine q_asgL (el_lst ea_nil (Nat.zero_le _)) fun l H1 hl e1 h1 => ?_
  refine q_forR1 (by walk_at "ea") (by omega) (fun i σ' H' => (∃ u1 u2 u3, σ' = [some (.int n), some (.ref l), u1, u2, u3]) ∧ Ex H H' ∧ ∃ ys, H' l = some (.lst ys) ∧ Lst T3 (triples n.toNat i) ys H' ∧ ys.length = 4 * n.toNat * i) (fun H2 e2 => ⟨⟨_, _, _, rfl⟩, e1.trans e2, [], e2 _ _ h1, Lst.nil, by simp⟩) ?_ ?_
  · rintro i σ' H' hi ⟨⟨u1, u2, u3, rfl⟩, e2, ys, hy, hL, hz⟩
    refine s_forR1 (by walk_at "ea") (by omega) (fun j σ' H' => (∃ u2 u3, σ' = [some (.int n), some (.ref l), some (.int (i : Nat)), u2, u3]) ∧ Ex H H' ∧ ∃ ys, H' l = some (.lst ys) ∧ Lst T3 (triples n.toNat i ++ rowsT i j) ys H' ∧ ys.length = 4 * n.toNat * i + 4 * j) (fun H3 e3 => ⟨⟨_, _, rfl⟩, e2.trans e3, ys, e3 _ _ hy, ?_, by omega⟩) ?_ ?_
    · have z : rowsT i 0 = [] := rfl
      rw [z, List.append_nil]
      exact hL.up st_T3 e3
    · rintro j σ' H' hj ⟨⟨u2, u3, rfl⟩, e3, ys, hy, hL, hz⟩
      refine s_ext (R := ListOf T3 (quads i j 4)) hy (by walk_at "ev") ?_ ?_
      · refine ev_lcN (G := fun _ => True) (Y := YFn fun q => .int (0 + (q : Int))) im_T3 (walks_rng1 (n := 4) (by walk_at "ea") (by decide)) walk_range (fun _ _ => trivial) (fun q => quads i j q) rfl (by decide) ?_
        rintro q x H1 H2 hq e4 ⟨rfl, rfl⟩
        refine ⟨Ex.refl _, rfl, true, fun H3 e5 Q' q' => q' H3 (Ex.refl H3), fun _ => ⟨((i : Int), (j : Int), (q : Int)), ?_, ?_⟩, fun z => by cases z⟩
        · unfold quads
          rw [List.range_succ, List.map_append]
          rfl
        · refine fun H4 e6 Q' q' => (eu_tup (by walk_at "ea") (Nat.le_of_ble_eq_true rfl)) H4 e6 _ fun p H5 hp e7 h7 => q' _ H5 e7 ⟨p, rfl, ?_⟩
          rw [h7]
          show some (HO.tup [.int (i : Int), .int (j : Int), .int (0 + (q : Int))]) = _
          rw [Int.zero_add]
      · rintro v H4 e4 ⟨b, zs, rfl, hb, hLz⟩
        have hzl : zs.length = 4 := by rw [hLz.1, quads_len]
        have hi' : i < n.toNat := by omega
        have hj' : j < n.toNat := by omega
        have small : 4 * n.toNat * i ≤ 4 * 6 * 6 := Nat.mul_le_mul (by omega) (by omega)
        have hl4 := e4 _ _ hy
        refine ⟨b, zs, rfl, hb, by omega, ⟨_, _, rfl⟩, Ex.mut (e3.trans e4) hl, ys ++ zs, upd_same, ?_, by rw [List.length_append]; omega⟩
        rw [rowsT_succ, ← List.append_assoc]
        exact Lst.append (hL.tups im_T3 ((Tups.of e4).trans (Tups.lst hl4))) (hLz.tups im_T3 (Tups.lst hl4))
    · rintro σ' H' ⟨⟨u2, u3, rfl⟩, e3, ys, hy, hL, hz⟩
      refine ⟨⟨_, _, _, rfl⟩, e3, ys, hy, ?_, ?_⟩
      · rw [triples_succ]
        exact hL
      · rw [hz, Nat.mul_add]
        omega
  · rintro σ' H' ⟨⟨u1, u2, u3, rfl⟩, e2, ys, hy, hL, hz⟩
    exact s_ret (by walk_at "ev") fun H4 e4 => k _ H4 (e2.trans e4) ⟨l, ys, rfl, e4 _ _ hy, hL.up st_T3 e4⟩
theorem use_triples {n : Int} {H : Hp} (hn : SideOk n) : SpP spTriples [.int n] H (ListOf T3 (triples n.toNat n.toNat)) := spg fun _ e => ⟨n, rfl, hn, rfl⟩
def spAtts (C : Addr) : Sp := SpG 1 fun vs H R => ∃ S v, vs = [v] ∧ SkyAt C S v H ∧ SideOk S.n ∧ R = ListOf T3 (triples S.n.toNat S.n.toNat)
abbrev s_attitudes : Stmt := top 12
abbrev N_attitudes : List PySem.Str := ["sky"]
theorem sc_attitudes : FnScope N_attitudes ["sky"] (defScope s_attitudes) := ⟨rfl, rfl, rfl, by decide +kernel, rfl, by decide +kernel, by decide +kernel⟩
theorem ok_attitudes {C : Addr} (P_side : KnP P w K mg base C "side" (prSide C)) (G_all_triples : Kn P w K mg base "all_triples" 1 ["side"] spTriples) (D : Df K mg "attitudes" s_attitudes) : Kn P w K mg base "attitudes" 3 ["sky"] (spAtts C) := by
  obtain ⟨f, fd, F, hm⟩ := D
  refine kn_mk F hm (F.binds (ps := ["sky"]) fun _ _ _ _ _ _ us hl => match us, hl with | [_], _ => rfl) ?_
  refine F.ok sc_attitudes (fun vs H Q E h => h.1) (fun cdv A outer s H vs Q E hr h => ?_)
  have hu := hu_of hr
  have nd := sc_attitudes.nd
  obtain ⟨_, R, ⟨S, v, rfl, ⟨p, sa, ca, xs, rfl, hS⟩, hn, rfl⟩, k⟩ := h
  refine ⟨_, (pss_one (ps_ret (pe_own G_all_triples hr (pa_cons (pe_prp P_side hr (pv 0)) pa_nil)))), ?_⟩
  exact s_retP (evp_call (by walk_at "ea") (use_triples hn)) fun v H1 e r => k v H1 e r
theorem use_atts {C : Addr} {S : Sk} {v : V} {H : Hp} (hS : SkyAt C S v H) (hn : SideOk S.n) : SpP (spAtts C) [v] H (ListOf T3 (triples S.n.toNat S.n.toNat)) := spg fun _ e => ⟨S, v, rfl, hS.up e, hn, rfl⟩
end
end K77
end

section
set_option maxRecDepth 100000
set_option maxHeartbeats 4000000
namespace K77
open PySem L2 Evl PyProof.Rows
section
variable {X : Cx}
/-- name = {k: v for ..} on one line, the name a local -/
theorem ps_setDc {i : Nat} {y : PySem.Str} {py : Pos} {kx vx tg iter : Expr} {ifs : List Expr} {scope : Scope} {own : List (PySem.Str × Nat)} {pos spos : Pos} {wi : TI} {g : TG} {tt : TT} {tk tv : TE} (hc : X.calm = true) (hN : X.N.Nodup) (hy : X.N[i]? = some y) (hyl : X.env.scope.names.lookup y = some .local)
    (hsw : swapsWith (.DictComp kx vx [⟨tg, iter, ifs, 0⟩] scope pos) (some (.Name y py)) spos.line X.env = pure true) (hi : PI X tg iter wi) (ok : BlkOk X.N X.env.scope scope own)
    (hg : ∀ (s : Shared) (H : Hp) (C : Addr) (cl : List (PySem.Str × Addr)) (fp : List Addr), PG (X.blk s H scope (compEnvC scope cl C X.env) fp) tg g) (ht : ∀ (s : Shared) (H : Hp) (C : Addr) (cl : List (PySem.Str × Addr)) (fp : List Addr), PTs (X.blk s H scope (compEnvC scope cl C X.env) fp) ifs tt)
    (hk : ∀ (s : Shared) (H : Hp) (C : Addr) (cl : List (PySem.Str × Addr)) (fp : List Addr), PE (X.blk s H scope (compEnvC scope cl C X.env) fp) kx tk)
    (he : ∀ (s : Shared) (H : Hp) (C : Addr) (cl : List (PySem.Str × Addr)) (fp : List Addr), PE (X.blk s H scope (compEnvC scope cl C X.env) fp) vx tv) (hs : ∀ x, foldedSetIterable iter X.env x = pure x := by intro _; rfl) :
    PS X (.Assign [.Name y py] (.DictComp kx vx [⟨tg, iter, ifs, 0⟩] scope pos) spos) (tAsg (tDc wi g tt tk tv (own.map (·.2))) (gName i)) := by
  refine ⟨fun pins s σ H D I h => ?_⟩
  rw [exec_Assign_Name_used _ _ _ _ hsw]
  refine wpAny_bind (wpAny_standAt (wpAny_bind ?_))
  show wpAny _ X.A (do let _ ← comprehension (.DictComp kx vx [⟨tg, iter, ifs, 0⟩] scope pos) scope X.env (firstIterPos [⟨tg, iter, ifs, 0⟩] pos) newDict false (eval iter X.env) (some (assign (.Name y py) X.env))) _ _ s
  have h : tDc wi g tt tk tv (own.map (·.2)) σ H (fun x H1 => gName i x σ H1 D.nx) := h
  refine wpAny_bind (thn (dc_core (Qf := fun _ s' => SP X pins D .next s') hc hN I hi ok hg ht hk he hs h fun L C s' m H' I' q hn f => ?_) fun _ s' hq => wpAny_pure (wpAny_pure hq))
  show wpAny _ _ (assign (.Name y py) X.env (.ref L)) _ _ _
  refine wpAny_assign_Name (store_ok2 (v := V.ref L) I' hN hy (.inl hyl) rfl (fun s2 I2 ⟨a, sb, ha⟩ => ?_) (.inr hyl))
  obtain ⟨f0, f1, f2, f3, f4, f5⟩ := f
  have haC : C ≠ a := by
    rcases ha with z | z
    · rw [z]; exact f1
    · exact fun e => f4 y a z e.symm
  exact ⟨m, hn.sameBut sb haC, fun h3 sb3 => ⟨_, H', I2.turned (t' := s2.toks) (fun b o hb e => (sb3.2 b hb).trans e) f0 f1 f3 f4 f5, q⟩⟩
theorem sw_trueD {kx vx : Expr} {gs : List Comprehension} {scope : Scope} {pos py : Pos} {y : PySem.Str} {l : Nat} {env : Env} (hk : env.scope.kind = .function) (hy : env.scope.names.lookup y = some .local) (hl : (py.line == pos.line) = true)
    (ha : (scope.names.any fun (n, k) => n == y && (k == .local || k == .cell)) = false) : swapsWith (.DictComp kx vx gs scope pos) (some (.Name y py)) l env = pure true := by
  have ky : env.kindOf y = some .local := hy
  have hb : env.blockKind = .function := by unfold Env.blockKind; rw [hk]; rfl
  unfold swapsWith
  simp only [hb, ky, ha, Expr.pos, hl]
  rfl
end
/-! ### readings in a block, the frag named -/
theorem ix_tupK {X : Cx} {K : PySem.W.Frag} (h : X.K = K) : IxR X (rIxT K) := h ▸ ix_tup
theorem ix_listK {X : Cx} {K : PySem.W.Frag} (h : X.K = K) : IxR X (rIxL K) := h ▸ ix_list
theorem sl_listK {X : Cx} {K : PySem.W.Frag} (h : X.K = K) : SlR X (rSlL K) := h ▸ sl_list
theorem pi_listK {X : Cx} {K : PySem.W.Frag} {tg l : Expr} {tl : TE} (h : X.K = K) (hl : PE X l tl) : PI X tg l (iList K tl) := h ▸ pi_list hl
theorem pg_tupK {X : Cx} {K : PySem.W.Frag} {es : List Expr} {k : Nat} {t : TGs} {n : Nat} {pos : Pos} (h : X.K = K) (hc : X.calm = true) (hp : PGs X es t) (hn : (assignEach es X.env).length = n) (hst : (assignEach es X.env).findIdx? (·.1) = none := by rfl) : PG X (.Tuple es k pos) (gTup K n t) := h ▸ pg_tup hc hp hn hst
/-! ### a dict comprehension with numbers as keys, all different -/
def DictL (R : Nat → PH) (cs : List Nat) (kvs : List (Key × V)) (H : Hp) : Prop := kvs.length = cs.length ∧ ∀ (i : Nat) (p : Key × V), kvs[i]? = some p → ∃ c, cs[i]? = some c ∧ p.1 = Sum.inl (c : Int) ∧ R c p.2 H
theorem DictL.tups {R : Nat → PH} {cs : List Nat} {kvs : List (Key × V)} {H H' : Hp} (hR : ∀ c, Imm (R c)) (e : Tups H H') (h : DictL R cs kvs H) : DictL R cs kvs H' := ⟨h.1, fun i p hp => let ⟨c, a, b, d⟩ := h.2 i p hp; ⟨c, a, b, hR c _ _ _ e d⟩⟩
theorem DictL.up {R : Nat → PH} {cs : List Nat} {kvs : List (Key × V)} {H H' : Hp} (hR : ∀ c, Imm (R c)) (e : Ex H H') (h : DictL R cs kvs H) : DictL R cs kvs H' := h.tups hR (.of e)
theorem DictL.new {R : Nat → PH} {cs : List Nat} {kvs : List (Key × V)} {H : Hp} {c : Nat} (h : DictL R cs kvs H) (hc : c ∉ cs) : valV kvs (Sum.inl (c : Int)) = none := by
  cases q : valV kvs (Sum.inl (c : Int) : Key) with
  | none => rfl
  | some v =>
    have := valV_in q
    obtain ⟨p, hp, e⟩ := List.mem_map.mp this
    obtain ⟨i, h1, h2⟩ := List.mem_iff_getElem.mp hp
    obtain ⟨c', a, b, _⟩ := h.2 i p (by rw [List.getElem?_eq_getElem h1, h2])
    rw [e] at b
    injection b with b
    have : c = c' := by omega
    rw [this] at hc
    exact absurd (List.mem_of_getElem? a) hc
theorem DictL.snoc {R : Nat → PH} {cs : List Nat} {kvs : List (Key × V)} {H : Hp} {c : Nat} {v : V} (h : DictL R cs kvs H) (hv : R c v H) : DictL R (cs ++ [c]) (kvs ++ [(Sum.inl (c : Int), v)]) H := by
  refine ⟨by rw [List.length_append, List.length_append, h.1] <;> rfl, fun i p hp => ?_⟩
  by_cases q : i < kvs.length
  · rw [List.getElem?_append_left q] at hp
    obtain ⟨c', a, b⟩ := h.2 i p hp
    exact ⟨c', by rw [List.getElem?_append_left (by rw [← h.1]; exact q)]; exact a, b⟩
  · rw [List.getElem?_append_right (by omega)] at hp
    have ci : i - kvs.length = 0 := by
      have := (List.getElem?_eq_some_iff.mp hp).1
      simp at this
      omega
    rw [ci] at hp
    have e : (Sum.inl (c : Int), v) = p := Option.some.inj hp
    rw [← e]
    refine ⟨c, ?_, rfl, hv⟩
    rw [List.getElem?_append_right (by rw [← h.1]; omega), ← h.1, ci]
    rfl
theorem Tups.dk {H : Hp} {D : Addr} {xs ys : List (Key × V)} (h : H D = some (.dK xs)) : Tups H (L2.upd H D (.dK ys)) := Tups.upd h fun _ z => by cases z
theorem ev_dcN {n : Nat} {Y : Nat → Hp → V → Hp → Prop} {wi : TI} {σ : St} {H : Hp} {j : Nat} {tk tv : TE} {vs : List Nat} {R : Nat → PH} (hR : ∀ c, Imm (R c)) (hw : ∀ H1, Ex H H1 → ∀ Rk : It → Hp → Prop, (∀ J G H2, Walk J n G Y → G H2 → (∀ H3, Ex H2 H3 → G H3) → Ex H1 H2 → Rk J H2) → wi σ H1 Rk)
    (cs : List Nat) (hn : cs.length = n) (hcs : cs.Nodup) (hz : n ≤ 50000)
    (turn : ∀ i c x H1 H2, cs[i]? = some c → Ex H H1 → Y i H1 x H2 → Ex H1 H2 ∧ wipe ((wipe σ vs).set j (some x)) vs = wipe σ vs ∧ Ev tk ((wipe σ vs).set j (some x)) H2 (nV c) ∧ EvP tv ((wipe σ vs).set j (some x)) H2 (R c)) :
    EvP (tDc wi (gName j) tYes tk tv vs) σ H (fun v H' => ∃ D kvs, v = .ref D ∧ H D = none ∧ H' D = some (.dK kvs) ∧ DictL R cs kvs H') := fun H1 e1 Q q => hw H1 e1 _ fun J G H2 w g0 gs e2 D hD => by
  refine ⟨fun i m H' => m = n - i ∧ i ≤ n ∧ Ex H2 H' ∧ ∃ kvs, H' D = some (.dK kvs) ∧ DictL R (cs.take i) kvs H', ⟨n, by simp, Nat.zero_le _, Ex.new hD, [], upd_same, rfl, fun i p h => by cases h⟩, ?_⟩
  rintro i m H' ⟨rfl, hi, e3, kvs, hk, hl⟩
  by_cases hlt : i < n
  · refine .inr ⟨w.goes i H' hlt (gs H' e3), fun H4 => i + 1 ≤ n ∧ Ex H2 H4 ∧ ∃ kvs, H4 D = some (.dK kvs) ∧ DictL R (cs.take (i + 1)) kvs H4, fun H4 ⟨h1, h2⟩ => ⟨n - (i + 1), by omega, rfl, h1, h2⟩, fun x H3 y => ?_⟩
    have hci : cs[i]? = some cs[i] := List.getElem?_eq_getElem (by omega)
    obtain ⟨e4, hwp, h1, h2⟩ := turn i cs[i] x H' H3 hci ((e1.trans e2).trans e3) (w.yields i H' x H3 hlt (gs H' e3) y)
    refine ⟨hwp, ?_⟩
    unfold tYes
    refine iteT ?_
    refine h1 H3 (Ex.refl H3) _ fun H4 e5 => h2 H4 e5 _ fun v H5 e6 r => ?_
    have e46 := (e4.trans e5).trans e6
    have hk5 := e46 _ _ hk
    have hl5 := hl.up hR e46
    have tk : cs.take (i + 1) = cs.take i ++ [cs[i]] := by
      rw [List.take_succ, hci]
      rfl
    have hnew : cs[i] ∉ cs.take i := fun hm => by
      have h2 : (cs.take (i + 1)).Nodup := hcs.sublist (List.take_sublist _ _)
      rw [tk] at h2
      exact absurd rfl ((List.nodup_append.mp h2).2.2 _ hm _ (List.mem_singleton.mpr rfl))
    have hlen : kvs.length ≤ i := by
      rw [hl.1, List.length_take]
      omega
    refine ⟨kvs, Sum.inl (cs[i] : Int), rfl, hk5, sz_lt (by omega), hlt, Ex.mut (e3.trans e46) hD, _, upd_same, ?_⟩
    rw [putK_new v (hl5.new hnew), tk]
    exact (hl5.snoc r).tups hR (Tups.dk hk5)
  · have e : i = n := by omega
    subst e
    refine .inl ⟨w.stops H' (gs H' e3), q _ H' (e2.trans e3) ⟨D, kvs, rfl, fresh_back (e1.trans e2) hD, hk, ?_⟩⟩
    rw [List.take_of_length_le (by omega)] at hl
    exact hl
end K77
end

section
set_option maxRecDepth 100000
set_option maxHeartbeats 4000000
namespace K77
open PySem L2 Evl
/-! ### dicts of numbers: pairs (key, value) -/
abbrev kN (c : Nat) : Key := Sum.inl (c : Int)
def dN (l : List (Nat × Nat)) : List (Key × V) := l.map fun p => (kN p.1, nV p.2)
def lk (l : List (Nat × Nat)) (c : Nat) : Option Nat := (l.find? fun p => decide (p.1 = c)).map (·.2)
def putN (l : List (Nat × Nat)) (c r : Nat) : List (Nat × Nat) := if (l.any fun p => decide (p.1 = c)) = true then l.map (fun p => if p.1 = c then (p.1, r) else p) else l ++ [(c, r)]
theorem kN_inj {a b : Nat} : (kN a = kN b) ↔ a = b := ⟨fun h => by injection h with h; omega, fun h => by rw [h]⟩
theorem kN_dec (a b : Nat) : decide (kN a = kN b) = decide (a = b) := decide_eq_decide.mpr kN_inj
theorem lk_nil {c : Nat} : lk [] c = none := rfl
theorem lk_cons (p : Nat × Nat) (l : List (Nat × Nat)) (c : Nat) : lk (p :: l) c = if p.1 = c then some p.2 else lk l c := by
  unfold lk
  rw [List.find?_cons]
  by_cases h : p.1 = c
  · rw [decide_eq_true h, if_pos h] <;> rfl
  · rw [decide_eq_false h, if_neg h]
theorem valV_dN (c : Nat) : ∀ l : List (Nat × Nat), valV (dN l) (kN c) = (lk l c).map nV
  | [] => rfl
  | p :: l => by
    rw [lk_cons]
    show valV ((kN p.1, nV p.2) :: dN l) (kN c) = _
    by_cases h : p.1 = c
    · rw [if_pos h]
      exact valV_pos (p := (kN p.1, nV p.2)) (kN_inj.mpr h)
    · rw [if_neg h, valV_neg (p := (kN p.1, nV p.2)) (fun z => h (kN_inj.mp z)), valV_dN c l]
theorem any_dN (c : Nat) : ∀ l : List (Nat × Nat), ((dN l).any fun kv => decide (kv.1 = kN c)) = l.any fun p => decide (p.1 = c)
  | [] => rfl
  | p :: l => by
    show (((kN p.1, nV p.2) :: dN l).any fun kv => decide (kv.1 = kN c)) = _
    rw [List.any_cons, List.any_cons, any_dN c l, kN_dec]
theorem dN_map (c r : Nat) : ∀ l : List (Nat × Nat), (dN l).map (fun kv => if kv.1 = kN c then (kv.1, nV r) else kv) = dN (l.map fun p => if p.1 = c then (p.1, r) else p)
  | [] => rfl
  | p :: l => by
    show ((kN p.1, nV p.2) :: dN l).map _ = dN ((p :: l).map _)
    rw [List.map_cons, List.map_cons, dN_map c r l]
    by_cases h : p.1 = c
    · rw [if_pos (kN_inj.mpr h), if_pos h] <;> rfl
    · rw [if_neg (fun z => h (kN_inj.mp z)), if_neg h] <;> rfl
theorem putK_dN (l : List (Nat × Nat)) (c r : Nat) : putK (dN l) (kN c) (nV r) = dN (putN l c r) := by
  unfold putK putN
  rw [any_dN]
  by_cases h : (l.any fun p => decide (p.1 = c)) = true
  · rw [if_pos h, if_pos h, dN_map]
  · rw [if_neg h, if_neg h]
    unfold dN
    rw [List.map_append] <;> rfl
theorem lk_any (c : Nat) : ∀ l : List (Nat × Nat), (l.any fun p => decide (p.1 = c)) = (lk l c).isSome
  | [] => rfl
  | p :: l => by
    rw [List.any_cons, lk_cons, lk_any c l]
    by_cases h : p.1 = c
    · rw [decide_eq_true h, if_pos h] <;> rfl
    · rw [decide_eq_false h, if_neg h, Bool.false_or]
theorem lk_map (c r c' : Nat) : ∀ l : List (Nat × Nat), lk (l.map fun p => if p.1 = c then (p.1, r) else p) c' = (lk l c').map fun x => if c' = c then r else x
  | [] => rfl
  | p :: l => by
    rw [List.map_cons, lk_cons, lk_cons, lk_map c r c' l]
    by_cases h : p.1 = c
    · rw [if_pos h]
      by_cases e : p.1 = c'
      · rw [if_pos (show (p.1, r).1 = c' from e), if_pos e, Option.map_some, if_pos (e.symm.trans h)]
      · rw [if_neg (show ¬ (p.1, r).1 = c' from e), if_neg e]
    · rw [if_neg h]
      by_cases e : p.1 = c'
      · rw [if_pos e, if_pos e, Option.map_some, if_neg (fun z => h (e.trans z))]
      · rw [if_neg e, if_neg e]
theorem lk_snoc (c r c' : Nat) : ∀ l : List (Nat × Nat), lk (l ++ [(c, r)]) c' = (lk l c').or (if c' = c then some r else none)
  | [] => by
    show lk [(c, r)] c' = _
    rw [lk_cons]
    by_cases h : c = c'
    · rw [if_pos (show (c, r).1 = c' from h), if_pos h.symm] <;> rfl
    · rw [if_neg (show ¬ (c, r).1 = c' from h), if_neg (fun z => h z.symm)] <;> rfl
  | p :: l => by
    rw [List.cons_append, lk_cons, lk_cons, lk_snoc c r c' l]
    by_cases e : p.1 = c'
    · rw [if_pos e, if_pos e] <;> rfl
    · rw [if_neg e, if_neg e]
theorem lk_put (l : List (Nat × Nat)) (c r c' : Nat) : lk (putN l c r) c' = if c' = c then some r else lk l c' := by
  unfold putN
  rw [lk_any]
  by_cases h : (lk l c).isSome = true
  · rw [if_pos h, lk_map]
    by_cases e : c' = c
    · subst e
      obtain ⟨x, hx⟩ := Option.isSome_iff_exists.mp h
      rw [hx, if_pos rfl, Option.map_some, if_pos rfl]
    · rw [if_neg e]
      cases lk l c' with
      | none => rfl
      | some x => rw [Option.map_some, if_neg e]
  · rw [if_neg h, lk_snoc]
    by_cases e : c' = c
    · subst e
      have : lk l c' = none := by
        cases q : lk l c' with
        | none => rfl
        | some x => rw [q] at h; exact absurd rfl h
      rw [this, if_pos rfl] <;> rfl
    · rw [if_neg e, if_neg e, Option.or_none]
def Nd (l : List (Nat × Nat)) : Prop := (l.map (·.1)).Nodup
theorem lk_mem {l : List (Nat × Nat)} (h : Nd l) {c r : Nat} : (c, r) ∈ l ↔ lk l c = some r := by
  induction l with
  | nil => simp [lk]
  | cons p l ih =>
    have h' := List.nodup_cons.mp (show (p.1 :: l.map (·.1)).Nodup from h)
    rw [lk_cons, List.mem_cons]
    by_cases e : p.1 = c
    · rw [if_pos e]
      constructor
      · rintro (q | q)
        · rw [← q]
        · exact absurd (by rw [e]; exact List.mem_map_of_mem (f := (·.1)) q) h'.1
      · intro q
        left
        rw [← e, ← Option.some.inj q]
    · rw [if_neg e, ← ih h'.2]
      constructor
      · rintro (q | q)
        · exact absurd (by rw [← q]) e
        · exact q
      · exact Or.inr
theorem lk_key {l : List (Nat × Nat)} {c : Nat} : c ∈ l.map (·.1) ↔ (lk l c).isSome = true := by
  rw [← lk_any, List.any_eq_true]
  constructor
  · intro h
    obtain ⟨p, hp, e⟩ := List.mem_map.mp h
    exact ⟨p, hp, decide_eq_true e⟩
  · rintro ⟨p, hp, e⟩
    exact List.mem_map.mpr ⟨p, hp, of_decide_eq_true e⟩
theorem Nd.put {l : List (Nat × Nat)} (h : Nd l) (c r : Nat) : Nd (putN l c r) := by
  unfold putN
  split
  · unfold Nd
    rw [List.map_map]
    have e : ((·.1) ∘ fun p : Nat × Nat => if p.1 = c then (p.1, r) else p) = (·.1) := by
      funext p
      show (if p.1 = c then (p.1, r) else p).1 = p.1
      split <;> rfl
    rw [e]
    exact h
  · rename_i hn
    unfold Nd
    rw [List.map_append]
    refine List.nodup_append.mpr ⟨h, by simp, fun a ha b hb e => ?_⟩
    have hb' : b = c := by simpa using hb
    subst hb'
    subst e
    rw [lk_any] at hn
    exact hn (lk_key.mp ha)
theorem len_putN (l : List (Nat × Nat)) (c r : Nat) : (putN l c r).length ≤ l.length + 1 := by
  unfold putN
  split
  · rw [List.length_map]; omega
  · rw [List.length_append]; simp
theorem dN_len (l : List (Nat × Nat)) : (dN l).length = l.length := by
  unfold dN
  rw [List.length_map]

/-! ### a matching and its turned table -/
/-- O: columns to rows, I: rows to columns, one the other way round -/
def Twin (O I : Nat → Option Nat) : Prop := ∀ c r, O c = some r ↔ I r = some c
def Closed (L : Nat → Nat → Prop) (O : Nat → Option Nat) (D : List Nat) : Prop := ∀ r ∈ D, ∀ c, L r c → ∃ r' ∈ D, O c = some r'
/-- the columns that a closed lot sees keep their rows -/
def Keeps (L : Nat → Nat → Prop) (O O' : Nat → Option Nat) : Prop := ∀ D, Closed L O D → ∀ r ∈ D, ∀ c, L r c → O' c = O c
theorem Closed.keep {L : Nat → Nat → Prop} {O O' : Nat → Option Nat} {D : List Nat} (h : Closed L O D) (k : Keeps L O O') : Closed L O' D := fun r hr c hc => by
  obtain ⟨r', h1, h2⟩ := h r hr c hc
  exact ⟨r', h1, (k D h r hr c hc).trans h2⟩
/-- the start gets a column, the other rows keep one -/
structure Grown (L : Nat → Nat → Prop) (O I : Nat → Option Nat) (r0 : Nat) (O' I' : Nat → Option Nat) : Prop where
  twin : Twin O' I'
  link : ∀ c r, O' c = some r → L r c
  rows : ∀ r, (I' r).isSome = true ↔ (I r).isSome = true ∨ r = r0
  keep : Keeps L O O'
abbrev setF (f : Nat → Option Nat) (a b : Nat) : Nat → Option Nat := fun x => if x = a then some b else f x

/-- what came: pairs (column, row), each row the start or the owner of a column that came ahead -/
structure Came (L : Nat → Nat → Prop) (O : Nat → Option Nat) (r0 : Nat) (cm : List (Nat × Nat)) : Prop where
  nd : Nd cm
  link : ∀ p ∈ cm, L p.2 p.1
  back : ∀ (j : Nat) (p : Nat × Nat), cm[j]? = some p → p.2 = r0 ∨ ∃ (j' : Nat) (q : Nat × Nat), j' < j ∧ cm[j']? = some q ∧ O q.1 = some p.2
/-- between two turns of give: O1, I1 are twins but at the column c, the j-th that came -/
structure Give (L : Nat → Nat → Prop) (O I : Nat → Option Nat) (r0 : Nat) (cm : List (Nat × Nat)) (O1 I1 : Nat → Option Nat) (j : Nat) (c r : Nat) : Prop where
  at_ : cm[j]? = some (c, r)
  twin : ∀ c' r', c' ≠ c → (O1 c' = some r' ↔ I1 r' = some c')
  out : ∀ r', I1 r' ≠ some c
  link : ∀ c' r', c' ≠ c → O1 c' = some r' → L r' c'
  rows : ∀ r', (I1 r').isSome = true ↔ (I r').isSome = true
  early : ∀ (j' : Nat) (q : Nat × Nat), j' < j → cm[j']? = some q → O1 q.1 = O q.1
  free : I r0 = none
  keep : ∀ D, Closed L O D → (∀ x ∈ D, ¬ L x c) ∧ ∀ x ∈ D, ∀ c', L x c' → O1 c' = O c'
theorem nd_index {cm : List (Nat × Nat)} (h : Nd cm) {i j : Nat} {p q : Nat × Nat} (hi : cm[i]? = some p) (hj : cm[j]? = some q) (e : p.1 = q.1) : i = j := by
  have hi' : (cm.map (·.1))[i]? = some p.1 := by rw [List.getElem?_map, hi] <;> rfl
  have hj' : (cm.map (·.1))[j]? = some p.1 := by rw [List.getElem?_map, hj, e] <;> rfl
  exact (List.getElem?_inj (List.getElem?_eq_some_iff.mp hi').1 h).mp (hi'.trans hj'.symm)
/-- a turn at a row that is not the start: on to the column that it had -/
theorem Give.next {L : Nat → Nat → Prop} {O I : Nat → Option Nat} {r0 : Nat} {cm : List (Nat × Nat)} {O1 I1 : Nat → Option Nat} {j c r c2 : Nat} (C : Came L O r0 cm) (T : Twin O I) (g : Give L O I r0 cm O1 I1 j c r) (hb : I1 r = some c2) :
    ∃ j' r', j' < j ∧ Give L O I r0 cm (setF O1 c r) (setF I1 r c) j' c2 r' := by
  have hr : r ≠ r0 := fun e => by
    have h1 := (g.rows r).mp (by rw [hb] <;> rfl)
    rw [e, g.free] at h1
    cases h1
  rcases C.back j (c, r) g.at_ with e | ⟨j', q, hj, hq, hO⟩
  · exact absurd e hr
  have hO' : O q.1 = some r := hO
  have ne : q.1 ≠ c := fun e => by
    have := nd_index C.nd hq g.at_ e
    omega
  have h1 : O1 q.1 = some r := (g.early j' q hj hq).trans hO'
  have h2 : I1 r = some q.1 := (g.twin q.1 r ne).mp h1
  have e2 : q.1 = c2 := by
    rw [hb] at h2
    exact (Option.some.inj h2).symm
  rw [e2] at ne hO' h1
  have lrc : L r c := C.link (c, r) (List.mem_of_getElem? g.at_)
  refine ⟨j', q.2, hj, ⟨by rw [hq, ← e2], fun c' r' hc => ?_, fun r' h => ?_, fun c' r' hc h => ?_, fun r' => ?_, fun i p hi hp => ?_, g.free, fun D hD => ?_⟩⟩
  · show (if c' = c then some r else O1 c') = some r' ↔ (if r' = r then some c else I1 r') = some c'
    by_cases h : c' = c
    · subst h
      rw [if_pos rfl]
      constructor
      · intro e
        cases e
        rw [if_pos rfl]
      · intro e
        by_cases hr' : r' = r
        · rw [hr']
        · rw [if_neg hr'] at e
          exact absurd e (g.out r')
    · rw [if_neg h]
      by_cases hr' : r' = r
      · subst hr'
        rw [if_pos rfl]
        constructor
        · intro e
          have := (g.twin c' r' h).mp e
          rw [hb] at this
          exact absurd (Option.some.inj this).symm hc
        · intro e
          exact absurd (Option.some.inj e).symm h
      · rw [if_neg hr']
        exact g.twin c' r' h
  · by_cases hr' : r' = r
    · have h' : (if r' = r then some c else I1 r') = some c2 := h
      rw [if_pos hr'] at h'
      exact ne (Option.some.inj h').symm
    · have h' : (if r' = r then some c else I1 r') = some c2 := h
      rw [if_neg hr'] at h'
      have := (g.twin c2 r' ne).mpr h'
      rw [h1] at this
      exact hr' (Option.some.inj this).symm
  · have h' : (if c' = c then some r else O1 c') = some r' := h
    by_cases e : c' = c
    · subst e
      rw [if_pos rfl] at h'
      cases h'
      exact lrc
    · rw [if_neg e] at h'
      exact g.link c' r' e h'
  · show (if r' = r then some c else I1 r').isSome = true ↔ _
    by_cases hr' : r' = r
    · subst hr'
      rw [if_pos rfl, ← g.rows r', hb]
      exact ⟨fun _ => rfl, fun _ => rfl⟩
    · rw [if_neg hr']
      exact g.rows r'
  · show (if p.1 = c then some r else O1 p.1) = _
    have hne : p.1 ≠ c := fun e => by
      have := nd_index C.nd hp g.at_ e
      omega
    rw [if_neg hne]
    exact g.early i p (by omega) hp
  · obtain ⟨k1, k2⟩ := g.keep D hD
    have rD : r ∉ D := fun h => k1 r h lrc
    refine ⟨fun x hx hl => ?_, fun x hx c' hl => ?_⟩
    · obtain ⟨r', h3, h4⟩ := hD x hx c2 hl
      rw [hO'] at h4
      exact rD (by rw [Option.some.inj h4]; exact h3)
    · show (if c' = c then some r else O1 c') = _
      rw [if_neg (fun (e : c' = c) => k1 x hx (by rw [← e]; exact hl))]
      exact k2 x hx c' hl
/-- the last turn: the row had no column -/
theorem Give.last {L : Nat → Nat → Prop} {O I : Nat → Option Nat} {r0 : Nat} {cm : List (Nat × Nat)} {O1 I1 : Nat → Option Nat} {j c r : Nat} (C : Came L O r0 cm) (T : Twin O I) (g : Give L O I r0 cm O1 I1 j c r) (hb : I1 r = none) :
    Grown L O I r0 (setF O1 c r) (setF I1 r c) := by
  have er : r = r0 := by
    rcases C.back j (c, r) g.at_ with e | ⟨j', q, hj, hq, hO⟩
    · exact e
    · have h1 : I r = some q.1 := (T q.1 r).mp hO
      have h2 := (g.rows r).mpr (by rw [h1] <;> rfl)
      rw [hb] at h2
      cases h2
  have lrc : L r c := C.link (c, r) (List.mem_of_getElem? g.at_)
  refine ⟨fun c' r' => ?_, fun c' r' h => ?_, fun r' => ?_, fun D hD x hx c' hl => ?_⟩
  · show (if c' = c then some r else O1 c') = some r' ↔ (if r' = r then some c else I1 r') = some c'
    by_cases h : c' = c
    · subst h
      rw [if_pos rfl]
      constructor
      · intro e
        cases e
        rw [if_pos rfl]
      · intro e
        by_cases hr' : r' = r
        · rw [hr']
        · rw [if_neg hr'] at e
          exact absurd e (g.out r')
    · rw [if_neg h]
      by_cases hr' : r' = r
      · subst hr'
        rw [if_pos rfl]
        constructor
        · intro e
          have := (g.twin c' r' h).mp e
          rw [hb] at this
          cases this
        · intro e
          exact absurd (Option.some.inj e).symm h
      · rw [if_neg hr']
        exact g.twin c' r' h
  · have h' : (if c' = c then some r else O1 c') = some r' := h
    by_cases e : c' = c
    · subst e
      rw [if_pos rfl] at h'
      cases h'
      exact lrc
    · rw [if_neg e] at h'
      exact g.link c' r' e h'
  · show (if r' = r then some c else I1 r').isSome = true ↔ _
    by_cases hr' : r' = r
    · rw [if_pos hr']
      exact ⟨fun _ => .inr (hr'.trans er), fun _ => rfl⟩
    · rw [if_neg hr', g.rows r']
      exact ⟨.inl, fun h => h.elim id fun e => absurd (e.trans er.symm) hr'⟩
  · obtain ⟨k1, k2⟩ := g.keep D hD
    show (if c' = c then some r else O1 c') = _
    rw [if_neg (fun (e : c' = c) => k1 x hx (by rw [← e]; exact hl))]
    exact k2 x hx c' hl
/-- give begins at a column that no row has -/
theorem Give.first {L : Nat → Nat → Prop} {O I : Nat → Option Nat} {r0 : Nat} {cm : List (Nat × Nat)} {j c r : Nat} (T : Twin O I) (hl : ∀ c r, O c = some r → L r c) (hf : I r0 = none) (hj : cm[j]? = some (c, r)) (hc : O c = none) : Give L O I r0 cm O I j c r where
  at_ := hj
  twin := fun c' r' _ => T c' r'
  out := fun r' h => by
    have := (T c r').mpr h
    rw [hc] at this
    cases this
  link := fun c' r' _ h => hl c' r' h
  rows := fun _ => Iff.rfl
  early := fun _ _ _ _ => rfl
  free := hf
  keep := fun D hD => by
    refine ⟨fun x hx hl => ?_, fun _ _ _ _ => rfl⟩
    obtain ⟨r', _, h⟩ := hD x hx c hl
    rw [hc] at h
    cases h
theorem putN_new {l : List (Nat × Nat)} {c : Nat} (r : Nat) (h : lk l c = none) : putN l c r = l ++ [(c, r)] := by
  unfold putN
  rw [lk_any, h]
  rfl
theorem lk_in {l : List (Nat × Nat)} (hn : Nd l) {p : Nat × Nat} (h : p ∈ l) : lk l p.1 = some p.2 := (lk_mem hn).mp h
theorem key_of_lk {l : List (Nat × Nat)} {c : Nat} (h : lk l c ≠ none) : ∃ p ∈ l, p.1 = c := by
  have : c ∈ l.map (·.1) := lk_key.mpr (by
    cases q : lk l c with
    | none => exact absurd q h
    | some x => rfl)
  obtain ⟨p, hp, e⟩ := List.mem_map.mp this
  exact ⟨p, hp, e⟩
theorem Came.nil {L : Nat → Nat → Prop} {O : Nat → Option Nat} {r0 : Nat} : Came L O r0 [] := ⟨List.nodup_nil, nofun, fun j p h => by cases h⟩
theorem Came.snoc {L : Nat → Nat → Prop} {O : Nat → Option Nat} {r0 : Nat} {cm : List (Nat × Nat)} {c r : Nat} (C : Came L O r0 cm) (hn : lk cm c = none) (hl : L r c) (hb : r = r0 ∨ ∃ p ∈ cm, O p.1 = some r) : Came L O r0 (cm ++ [(c, r)]) := by
  refine ⟨?_, fun p hp => ?_, fun j p hj => ?_⟩
  · have := C.nd.put c r
    rw [putN_new r hn] at this
    exact this
  · rcases List.mem_append.mp hp with h | h
    · exact C.link p h
    · rw [List.mem_singleton.mp h]
      exact hl
  · by_cases h : j < cm.length
    · rw [List.getElem?_append_left h] at hj
      rcases C.back j p hj with e | ⟨j', q, h1, h2, h3⟩
      · exact .inl e
      · exact .inr ⟨j', q, h1, by rw [List.getElem?_append_left (by omega)]; exact h2, h3⟩
    · rw [List.getElem?_append_right (by omega)] at hj
      have hj0 : j - cm.length = 0 := by
        have := (List.getElem?_eq_some_iff.mp hj).1
        simp at this
        omega
      rw [hj0] at hj
      have e : (c, r) = p := Option.some.inj hj
      rw [← e]
      rcases hb with e | ⟨q, hq, hO⟩
      · exact .inl e
      · obtain ⟨j', h1, h2⟩ := List.mem_iff_getElem.mp hq
        exact .inr ⟨j', q, by omega, by rw [List.getElem?_append_left h1, List.getElem?_eq_getElem h1, h2], hO⟩
/-- the search between two turns: ro the rows that are reached, the first k of them done -/
structure Bfs (L : Nat → Nat → Prop) (O : Nat → Option Nat) (r0 : Nat) (ro : List Nat) (cm : List (Nat × Nat)) (k : Nat) : Prop where
  came : Came L O r0 cm
  len : ro.length = cm.length + 1
  owned : ∀ p ∈ cm, ∃ r ∈ ro, O p.1 = some r
  back : ∀ r ∈ ro, r = r0 ∨ ∃ p ∈ cm, O p.1 = some r
  done : ∀ (i r : Nat), i < k → ro[i]? = some r → ∀ c, L r c → lk cm c ≠ none
  start : r0 ∈ ro
  le : k ≤ ro.length
theorem Bfs.zero {L : Nat → Nat → Prop} {O : Nat → Option Nat} {r0 : Nat} : Bfs L O r0 [r0] [] 0 :=
  ⟨.nil, rfl, nofun, fun r h => .inl (List.mem_singleton.mp h), fun i r h => by omega, List.mem_singleton.mpr rfl, Nat.zero_le _⟩
/-- an owned column comes -/
theorem Bfs.more {L : Nat → Nat → Prop} {O : Nat → Option Nat} {r0 : Nat} {ro : List Nat} {cm : List (Nat × Nat)} {k c h r : Nat} (B : Bfs L O r0 ro cm k) (hn : lk cm c = none) (hl : L h c) (hh : h ∈ ro) (hO : O c = some r) : Bfs L O r0 (ro ++ [r]) (cm ++ [(c, h)]) k := by
  refine ⟨B.came.snoc hn hl (B.back h hh), by rw [List.length_append, List.length_append, B.len] <;> rfl, fun p hp => ?_, fun x hx => ?_, fun i x hi hx c' hc' => ?_, List.mem_append_left _ B.start, by rw [List.length_append]; have := B.le; omega⟩
  · rcases List.mem_append.mp hp with q | q
    · obtain ⟨x, h1, h2⟩ := B.owned p q
      exact ⟨x, List.mem_append_left _ h1, h2⟩
    · rw [List.mem_singleton.mp q]
      exact ⟨r, List.mem_append_right _ (List.mem_singleton.mpr rfl), hO⟩
  · rcases List.mem_append.mp hx with q | q
    · rcases B.back x q with e | ⟨p, h1, h2⟩
      · exact .inl e
      · exact .inr ⟨p, List.mem_append_left _ h1, h2⟩
    · rw [List.mem_singleton.mp q]
      exact .inr ⟨(c, h), List.mem_append_right _ (List.mem_singleton.mpr rfl), hO⟩
  · have := B.le
    rw [List.getElem?_append_left (by omega)] at hx
    rw [lk_snoc]
    intro z
    have h1 := B.done i x hi hx c' hc'
    cases q : lk cm c' with
    | none => exact h1 q
    | some y => rw [q] at z; cases z
/-- nothing waits: the reached rows are a closed lot -/
theorem Bfs.closed {L : Nat → Nat → Prop} {O : Nat → Option Nat} {r0 : Nat} {ro : List Nat} {cm : List (Nat × Nat)} (B : Bfs L O r0 ro cm ro.length) : Closed L O ro := fun r hr c hc => by
  obtain ⟨i, h1, h2⟩ := List.mem_iff_getElem.mp hr
  obtain ⟨p, hp, e⟩ := key_of_lk (B.done i r h1 (by rw [List.getElem?_eq_getElem h1, h2]) c hc)
  obtain ⟨x, hx, hO⟩ := B.owned p hp
  exact ⟨x, hx, by rw [← e]; exact hO⟩
/-- not more came than have an owner -/
theorem Bfs.few {L : Nat → Nat → Prop} {r0 : Nat} {ro : List Nat} {ow cm : List (Nat × Nat)} {k : Nat} (B : Bfs L (lk ow) r0 ro cm k) : ro.length ≤ ow.length + 1 := by
  have h := len_le (cm.map (fun p : Nat × Nat => p.1)) (ow.map (fun p : Nat × Nat => p.1)) B.came.nd fun c hc => by
    obtain ⟨p, hp, rfl⟩ := List.mem_map.mp hc
    obtain ⟨r, _, hO⟩ := B.owned p hp
    exact lk_key.mpr (by rw [hO] <;> rfl)
  rw [List.length_map, List.length_map] at h
  rw [B.len]
  omega
end K77
end

section
set_option maxRecDepth 100000
set_option maxHeartbeats 4000000
namespace K77
open PySem L2 Evl
local macro_rules | `(tactic| walk_at "at") => `(tactic| first | assumption | exact Ex.get (by assumption) (by assumption))
local macro_rules | `(tactic| walk_at "sk") => `(tactic| first | assumption | exact SkyA.up (by assumption) (by assumption))
local macro_rules | `(tactic| walk_at "rv") => `(tactic| first
  | with_reducible exact rv_I0
  | with_reducible exact rv_isN
  | with_reducible exact rv_notN
  | (with_reducible show RV (rI (fun _ j => 0 < j) fun i j => .int (i % j)) _ _ _ _; exact rv_mod (by first | assumption | omega))
  | (with_reducible show RV (rI CMul _) _ _ _ _; exact rv_mul (by first | exact mul_l (by omega) | exact mul_r (by omega)))
  | (with_reducible show RV (rI CDiv _) _ _ _ _; exact rv_fdiv (div_ok (by omega)))
  | (with_reducible show RV (rIxT _) _ _ _ _; exact rv_tup (by walk_at "at") rfl)
  | (with_reducible show RV rEq _ _ _ _; exact rv_eq rfl)
  | (with_reducible show RV rNe _ _ _ _; exact rv_ne rfl))
local macro_rules | `(tactic| walk_at "ev") => `(tactic| first
  | (with_reducible show Ev (tVar _) _ _ _; exact ev_var rfl)
  | (with_reducible show Ev (tC _) _ _ _; exact ev_c)
  | (with_reducible show Ev (tOp _ _ _) _ _ _; exact ev_op (by walk_at "ev") (by walk_at "ev") (by walk_at "rv"))
  | (with_reducible show Ev (tProp _ _ _ _ _) _ _ _; exact ev_sky (by walk_at "ev") (by walk_at "sk"))
  | (with_reducible show Ev (tCB rAbs _) _ _ _; exact ev_abs (by walk_at "ev"))
  | (with_reducible show Ev (tCB rMax _) _ _ _; exact ev_max (by walk_at "ev") (by walk_at "ev"))
  | (with_reducible show Ev (tCB rMin _) _ _ _; exact ev_min (by walk_at "ev") (by walk_at "ev"))
  | (with_reducible show Ev (tCB rInt _) _ _ _; exact ev_int (by walk_at "ev"))
  | (with_reducible show Ev (tCB rInt _) _ _ _; exact ev_intB (by walk_at "ev"))
  | (with_reducible show Ev (tChain _ _ _ _ _) _ _ _; exact ev_chain (by walk_at "ev") (by walk_at "ev") (by walk_at "ev"))
  | (with_reducible show Ev (tAndV _ _) _ _ _; exact ev_andV (by walk_at "ev") (fun _ => by walk_at "ev"))
  | (with_reducible show Ev (tOrV _ _) _ _ _; exact ev_orV (by walk_at "ev") (fun _ => by walk_at "ev"))
  | (with_reducible show Ev (tCB (rLenQ _) _) _ _ _; exact ev_lenL (by walk_at "ev") (by walk_at "at"))
  | (with_reducible show Ev (tCB (rLenQ _) _) _ _ _; exact ev_lenT (by walk_at "ev") (by walk_at "at"))
  | (with_reducible show Ev (tUn _ _) _ _ _; exact ev_un (by walk_at "ev") ru_neg))
local macro_rules | `(tactic| walk_at "et") => `(tactic| first
  | (with_reducible show EvT (tTest _) _ _ _; exact et_test (by walk_at "ev"))
  | (with_reducible show EvT (tB _) _ _ _; exact et_B (by walk_at "ev"))
  | (with_reducible show EvT (tNot _) _ _ _; exact et_not (by walk_at "et"))
  | (with_reducible show EvT (tAnd _ _) _ _ _; exact et_and (by walk_at "et") (fun _ => by walk_at "et"))
  | (with_reducible show EvT (tOr _ _) _ _ _; exact et_or (by walk_at "et") (fun _ => by walk_at "et"))
  | exact et_tru (by walk_at "ev") (by walk_at "at"))
local macro_rules | `(tactic| walk_at "ea") => `(tactic| first
  | (with_reducible show EvA tNil _ _ _; exact ea_nil)
  | (with_reducible show EvA (tCons _ _) _ _ _; exact ea_cons (by walk_at "ev") (by walk_at "ea")))
/-! ### dicts of numbers, read and written -/
def optN : Option Nat → V
  | none => .non
  | some r => nV r
section
variable {σ : St} {H : Hp} {td ty tx tv : TE} {a : Addr} {c r : Nat} {l : List (Nat × Nat)} {D : Ends} {tz : TS}
theorem ev_dget (hd : Ev td σ H (.ref a)) (hk : Ev ty σ H (nV c)) (h : H a = some (.dK (dN l))) (hl : lk l c = some r) : Ev (tDGet td ty) σ H (nV r) := fun H1 e Q q =>
  hd H1 e _ fun H2 e2 => hk H2 (e.trans e2) _ fun H3 e3 => by
    refine ⟨a, nV r, rfl, ?_, q H3 (e2.trans e3)⟩
    have g : DGet H3 a (kV (kN c)) (valV (dN l) (kN c)) := DGet.k (k := kN c) (((e.trans e2).trans e3) _ _ h)
    rw [valV_dN, hl] at g
    exact g
theorem ev_dget2 (hd : Ev td σ H (.ref a)) (hk : Ev ty σ H (nV c)) (hx : Ev tx σ H .non) (h : H a = some (.dK (dN l))) : Ev (tDGet2 td ty tx) σ H (optN (lk l c)) := fun H1 e Q q =>
  hd H1 e _ fun H2 e2 => ⟨a, rfl, .inl ⟨_, .inl ((e.trans e2) _ _ h)⟩, hk H2 (e.trans e2) _ fun H3 e3 => hx H3 ((e.trans e2).trans e3) _ fun H4 e4 => by
    refine ⟨valV (dN l) (kN c), DGet.k (k := kN c) ((((e.trans e2).trans e3).trans e4) _ _ h), ?_⟩
    have q' := q H4 ((e2.trans e3).trans e4)
    rw [valV_dN]
    cases z : lk l c with
    | none =>
      rw [z] at q'
      exact q'
    | some r =>
      rw [z] at q'
      exact q'⟩
theorem et_din (hk : Ev ty σ H (nV c)) (hd : Ev td σ H (.ref a)) (h : H a = some (.dK (dN l))) : EvT (tB (tDIn ty td)) σ H (lk l c).isSome := fun H1 e Q q =>
  hk H1 e _ fun H2 e2 => hd H2 (e.trans e2) _ fun H3 e3 => by
    refine ⟨a, valV (dN l) (kN c), rfl, DGet.k (k := kN c) (((e.trans e2).trans e3) _ _ h), (lk l c).isSome, ?_, q H3 (e2.trans e3)⟩
    rw [valV_dN, Option.isSome_map]
theorem et_dnotin (hk : Ev ty σ H (nV c)) (hd : Ev td σ H (.ref a)) (h : H a = some (.dK (dN l))) : EvT (tB (tDNotIn ty td)) σ H (!(lk l c).isSome) := fun H1 e Q q =>
  hk H1 e _ fun H2 e2 => hd H2 (e.trans e2) _ fun H3 e3 => by
    refine ⟨a, valV (dN l) (kN c), rfl, DGet.k (k := kN c) (((e.trans e2).trans e3) _ _ h), !(lk l c).isSome, ?_, q H3 (e2.trans e3)⟩
    rw [valV_dN, Option.isSome_map]
theorem s_dput (hv : Ev tv σ H (nV r)) (hd : Ev td σ H (.ref a)) (hk : Ev ty σ H (nV c)) (h : H a = some (.dK (dN l))) (hz : l.length < 100000) (k : ∀ H1, Ex H H1 → D.nx σ (upd H1 a (.dK (dN (putN l c r))))) : sDPut td ty tv D σ H :=
  hv H (Ex.refl H) _ fun H1 e1 => hd H1 e1 _ fun H2 e2 => hk H2 (e1.trans e2) _ fun H3 e3 => by
    have k' := k H3 ((e1.trans e2).trans e3)
    rw [← putK_dN] at k'
    exact ⟨a, _, rfl, DPut.k (k := kN c) (((e1.trans e2).trans e3) _ _ h) (by rw [dN_len]; exact sz_lt hz), k'⟩
theorem q_dput (hv : Ev tv σ H (nV r)) (hd : Ev td σ H (.ref a)) (hk : Ev ty σ H (nV c)) (h : H a = some (.dK (dN l))) (hz : l.length < 100000) (k : ∀ H1, Ex H H1 → tz D σ (upd H1 a (.dK (dN (putN l c r))))) : tSeq (sDPut td ty tv) tz D σ H := s_dput (D := { D with nx := tz D }) hv hd hk h hz k
end
/-- d = {} -/
theorem q_dnew {σ : St} {H : Hp} {D : Ends} {tz : TS} {i : Nat} (k : ∀ p, H p = none → tz D (σ.set i (some (.ref p))) (upd H p (.dK []))) : tSeq (tAsg tDNewK (gName i)) tz D σ H := fun p hp => k p hp
/-- a call, its value dropped -/
theorem s_dropC {σ : St} {H : Hp} {D : Ends} {sp : Sp} {ta : TA} {vs : List V} (ha : EvA ta σ H vs) (k : ∀ H1, Ex H H1 → sp vs H1 (fun _ H2 => D.nx σ H2) E0) : tDrop (tCall sp [] E0 ta) D σ H := ha H (Ex.refl H) _ fun H1 e => by
  show sp (vs ++ []) H1 (fun _ H2 => D.nx σ H2) E0
  rw [List.append_nil]
  exact k H1 e
theorem q_dropC {σ : St} {H : Hp} {D : Ends} {tz : TS} {sp : Sp} {ta : TA} {vs : List V} (ha : EvA ta σ H vs) (k : ∀ H1, Ex H H1 → sp vs H1 (fun _ H2 => tz D σ H2) E0) : tSeq (tDrop (tCall sp [] E0 ta)) tz D σ H := s_dropC (D := { D with nx := tz D }) ha k
theorem cpsC {σ : St} {H : Hp} {sp : Sp} {ta : TA} {vs : List V} {Q : VK} (ha : EvA ta σ H vs) (k : ∀ H1, Ex H H1 → sp vs H1 Q E0) : tCall sp [] E0 ta σ H Q := ha H (Ex.refl H) _ fun H1 e => by
  show sp (vs ++ []) H1 Q E0
  rw [List.append_nil]
  exact k H1 e
/-- all but two objects stand as they stood -/
def Fr2 (a b : Addr) (H H' : Hp) : Prop := ∀ x o, H x = some o → x ≠ a → x ≠ b → H' x = some o
theorem Fr2.of {a b : Addr} {H H' : Hp} (e : Ex H H') : Fr2 a b H H' := fun x o h _ _ => e x o h
theorem Fr2.trans {a b : Addr} {H H1 H2 : Hp} (h1 : Fr2 a b H H1) (h2 : Fr2 a b H1 H2) : Fr2 a b H H2 := fun x o h n1 n2 => h2 x o (h1 x o h n1 n2) n1 n2
theorem Fr2.a {a b : Addr} {H H1 : Hp} {o : HO} (h : Fr2 a b H H1) : Fr2 a b H (upd H1 a o) := fun x u hx n1 n2 => by
  rw [upd_ne n1]
  exact h x u hx n1 n2
theorem Fr2.b {a b : Addr} {H H1 : Hp} {o : HO} (h : Fr2 a b H H1) : Fr2 a b H (upd H1 b o) := fun x u hx n1 n2 => by
  rw [upd_ne n2]
  exact h x u hx n1 n2
/-- the pair of dicts: own at a, held at b -/
structure Two (H : Hp) (a b : Addr) (ow he : List (Nat × Nat)) : Prop where
  ne : a ≠ b
  own : H a = some (.dK (dN ow))
  held : H b = some (.dK (dN he))
  ndO : Nd ow
  ndH : Nd he
theorem Two.up {H H' : Hp} {a b : Addr} {ow he : List (Nat × Nat)} (e : Ex H H') (h : Two H a b ow he) : Two H' a b ow he := ⟨h.ne, e _ _ h.own, e _ _ h.held, h.ndO, h.ndH⟩
section
variable {P : Program} {w : World} {K : PySem.W.Frag} {mg : PySem.Str → Option Value} {base : Heap}
def spGive : Sp := fun vs H Q _ => vs.length = 4 ∧ ∃ (L : Nat → Nat → Prop) (a b m : Addr) (ow he cm : List (Nat × Nat)) (r0 j c r : Nat), vs = [.ref a, .ref b, .ref m, nV c] ∧ Two H a b ow he ∧ H m = some (.dK (dN cm)) ∧ m ≠ a ∧ m ≠ b ∧
  Came L (lk ow) r0 cm ∧ Twin (lk ow) (lk he) ∧ (∀ c r, lk ow c = some r → L r c) ∧ lk he r0 = none ∧ cm[j]? = some (c, r) ∧ lk ow c = none ∧ ow.length ≤ 1000 ∧ he.length ≤ 1000 ∧ j ≤ 1000 ∧
  ∀ H' ow' he', Fr2 a b H H' → Two H' a b ow' he' → Grown L (lk ow) (lk he) r0 (lk ow') (lk he') → Q .non H'
abbrev s_give : Stmt := top 24
abbrev N_give : List PySem.Str := ["own", "held", "came", "other", "here", "before"]
theorem sc_give : FnScope N_give ["own", "held", "came", "other"] (defScope s_give) := ⟨rfl, rfl, rfl, by decide +kernel, rfl, by decide +kernel, by decide +kernel⟩
theorem ok_give (D : Df K mg "give" s_give) : Kn P w K mg base "give" 1 ["own", "held", "came", "other"] spGive := by
  obtain ⟨f, fd, F, hm⟩ := D
  refine kn_mk F hm (F.binds (ps := ["own", "held", "came", "other"]) fun _ _ _ _ _ _ us hl => match us, hl with | [_, _, _, _], _ => rfl) ?_
  refine F.ok sc_give (fun vs H Q E h => h.1) (fun cdv A outer s H vs Q E hr h => ?_)
  have hu := hu_of hr
  have nd := sc_give.nd
  obtain ⟨_, L, a, b, m, ow, he, cm, r0, j, c, r, rfl, h2, hm0, nma, nmb, hC, hT, hL, hf, hj, hc, l1, l2, l3, k⟩ := h
  refine ⟨_, (pss_cons (ps_if (pt_cmp (pc_din hu (pv 3) (pv 0))) (pss_one (ps_expr (pe_dpop1 (pv 1) (pe_dget hu (pv 0) (pv 3) (fun _ _ => rfl)) ⟨rfl, rfl, rfl, rfl⟩))) pss_nil)
      (pss_one (ps_while PassesOwn.never (pt_cmpR op_notN (pv 3) pe_non (nomark _)) (pss_cons (ps_set (i := 4) nd rfl (by first | exact Or.inl rfl | exact Or.inr rfl) (pe_dget hu (pv 2) (pv 3) (fun _ _ => rfl)))
      (pss_cons (ps_set (i := 5) nd rfl (by first | exact Or.inl rfl | exact Or.inr rfl) (pe_dget2 hu (pv 1) (pv 4) pe_non ⟨rfl, rfl, rfl, rfl⟩))
      (pss_cons (ps_dput hu (pv 0) (pv 3) (pv 4) rfl)
      (pss_cons (ps_dput hu (pv 1) (pv 4) (pv 3) rfl)
      (pss_one (ps_set (i := 3) nd rfl (by first | exact Or.inl rfl | exact Or.inr rfl) (pv 5)))))))))), ?_⟩
  have fi := funext (fun x => lk_put ow c r x)
  refine q_when (b := (lk ow c).isSome) (et_din (by walk_at "ev") (by walk_at "ev") h2.own) (fun z => by rw [hc] at z; cases z) fun z H1 e1 => ?_
  refine s_while (fun n σ' H' => (∃ u v, n = 0 ∧ σ' = [some (.ref a), some (.ref b), some (.ref m), some .non, u, v] ∧ Fr2 a b H H' ∧ ∃ ow' he', Two H' a b ow' he' ∧ Grown L (lk ow) (lk he) r0 (lk ow') (lk he')) ∨
    (∃ j c r ow1 he1 u v, n = j + 1 ∧ σ' = [some (.ref a), some (.ref b), some (.ref m), some (nV c), u, v] ∧ Fr2 a b H H' ∧ Two H' a b ow1 he1 ∧ Give L (lk ow) (lk he) r0 cm (lk ow1) (lk he1) j c r ∧ ow1.length + j ≤ 2000 ∧ he1.length + j ≤ 2000)) (j + 1) ?_ ?_
  · exact .inr ⟨j, c, r, ow, he, _, _, rfl, rfl, .of e1, h2.up e1, Give.first hT hL hf hj hc, by omega, by omega⟩
  · rintro n σ' H' (⟨u, v, rfl, rfl, fr, ow', he', t, g⟩ | ⟨j, c, r, ow1, he1, u, v, rfl, rfl, fr, t, g, l4, l5⟩)
    · refine ⟨false, et_is (a := !decide (V.non = V.non)) (by walk_at "et") rfl, (fun z => by cases z), fun _ H2 e2 => k H2 ow' he' (fr.trans (.of e2)) (t.up e2) g⟩
    · refine ⟨true, et_is (a := !decide (nV c = V.non)) (by walk_at "et") rfl, fun _ H2 e2 => ?_, (fun z => by cases z)⟩
      have hm2 : H2 m = some (.dK (dN cm)) := e2 _ _ (fr _ _ hm0 nma nmb)
      have hcm : lk cm c = some r := (lk_mem hC.nd).mp (List.mem_of_getElem? g.at_)
      refine ⟨fun σ2 H3 => ∃ m' < j + 1, _, fun σ2 H3 ⟨m', h1, h2⟩ => ⟨m', h1, h2⟩, ?_⟩
      refine q_asg (ev_dget (by walk_at "ev") (by walk_at "ev") hm2 hcm) fun H3 e3 => ?_
      have t3 := t.up (e2.trans e3)
      refine q_asg (ev_dget2 (c := r) (by walk_at "ev") (by walk_at "ev") (by walk_at "ev") t3.held) fun H4 e4 => ?_
      have t4 := t3.up e4
      refine q_dput (r := r) (c := c) (by walk_at "ev") (by walk_at "ev") (by walk_at "ev") t4.own (by omega) fun H5 e5 => ?_
      have t5 := t4.up e5
      refine q_dput (r := c) (c := r) (by walk_at "ev") (by walk_at "ev") (by walk_at "ev") (l := he1) (by rw [upd_ne t.ne.symm]; exact t5.held) (by omega) fun H6 e6 => ?_
      refine s_asg (v := optN (lk he1 r)) (ev_var rfl) fun H7 e7 => ?_
      have fr7 : Fr2 a b H H7 := by
        have f5 : Fr2 a b H (upd H5 a (.dK (dN (putN ow1 c r)))) := (fr.trans (.of (((e2.trans e3).trans e4).trans e5))).a
        exact ((f5.trans (.of e6)).b).trans (.of e7)
      have tw : Two H7 a b (putN ow1 c r) (putN he1 r c) := by
        refine ⟨t.ne, e7 _ _ ?_, e7 _ _ upd_same, t.ndO.put c r, t.ndH.put r c⟩
        rw [upd_ne t.ne]
        exact e6 _ _ upd_same
      have f1 : lk (putN ow1 c r) = setF (lk ow1) c r := funext fun x => lk_put ow1 c r x
      have f2 : lk (putN he1 r c) = setF (lk he1) r c := funext fun x => lk_put he1 r c x
      have b1 := len_putN ow1 c r
      have b2 := len_putN he1 r c
      cases hb : lk he1 r with
      | none =>
        refine ⟨0, Nat.succ_pos _, .inl ⟨_, _, rfl, rfl, fr7, putN ow1 c r, putN he1 r c, tw, ?_⟩⟩
        rw [f1, f2]
        exact g.last hC hT hb
      | some c2 =>
        obtain ⟨j', r', hjj, g'⟩ := g.next hC hT hb
        refine ⟨j' + 1, by omega, .inr ⟨j', c2, r', putN ow1 c r, putN he1 r c, _, _, rfl, rfl, fr7, tw, ?_, by omega, by omega⟩⟩
        rw [f1, f2]
        exact g'
/-! ### extend -/
/-- a table: a list of lists of numbers -/
def Tab (T : Nat → List Nat) (n t : Nat) (H : Hp) : Prop := ∃ xs, H t = some (.lst xs) ∧ xs.length = n ∧ ∀ r, r < n → ∃ q, xs[r]? = some (.ref q) ∧ H q = some (.lst ((T r).map nV))
theorem Tab.up {T : Nat → List Nat} {n t : Nat} {H H' : Hp} (e : Ex H H') (h : Tab T n t H) : Tab T n t H' := by
  obtain ⟨xs, h1, h2, h3⟩ := h
  exact ⟨xs, e _ _ h1, h2, fun r hr => let ⟨q, a, b⟩ := h3 r hr; ⟨q, a, e _ _ b⟩⟩
theorem Tab.fr {T : Nat → List Nat} {n t a b : Nat} {H H' : Hp} {ow he : List (Nat × Nat)} (t2 : Two H a b ow he) (e : Fr2 a b H H') (h : Tab T n t H) : Tab T n t H' := by
  obtain ⟨xs, h1, h2, h3⟩ := h
  have ne : ∀ {x : Nat} {ys : List V}, H x = some (.lst ys) → x ≠ a ∧ x ≠ b := fun hx => ⟨ne_of hx t2.own (fun z => nomatch z), ne_of hx t2.held (fun z => nomatch z)⟩
  exact ⟨xs, e _ _ h1 (ne h1).1 (ne h1).2, h2, fun r hr => let ⟨q, u, v⟩ := h3 r hr; ⟨q, u, e _ _ v (ne v).1 (ne v).2⟩⟩
/-- the links of a table -/
def tabL (T : Nat → List Nat) (r c : Nat) : Prop := c ∈ T r
theorem inV_nV {r : Nat} {rows : List Nat} (h : r ∈ rows) : inV (nV r) (rows.map nV) = true := by
  unfold inV
  rw [List.any_eq_true]
  refine ⟨nV r, List.mem_map_of_mem h, ?_⟩
  show ((r : Int) == (r : Int)) = true
  exact beq_self_eq_true _
theorem flat_nV (rows : List Nat) : (rows.map nV).all flatV = true := by
  rw [List.all_eq_true]
  intro x hx
  obtain ⟨r, _, rfl⟩ := List.mem_map.mp hx
  rfl
/-- xs.pop(0) -/
theorem ev_pop0 {σ : St} {H : Hp} {ta tb : TE} {l : Addr} {x : V} {xs : List V} {Q : VK} (hl : H l = some (.lst (x :: xs))) (ha : Ev ta σ H (.ref l)) (hb : Ev tb σ H (.int 0)) (k : ∀ H1, Ex H H1 → Q x (upd H1 l (.lst xs))) : tBM K "list" rPopAt ta (tCons tb tNil) σ H Q :=
  ha H (Ex.refl H) _ fun H1 e1 => ⟨.inl ⟨rfl, _, sq_of (e1 _ _ hl)⟩, hb H1 e1 _ fun H2 e2 => by
    refine ⟨l, x :: xs, 0, 0, x, rfl, rfl, e2 _ _ (e1 _ _ hl), by decide, by decide, ?_, rfl, k H2 (e1.trans e2)⟩
    unfold seqIndex?
    simp⟩
/-- what extend is given -/
structure ExtPre (T : Nat → List Nat) (n : Nat) (rows : List Nat) (ow he : List (Nat × Nat)) (r0 : Nat) : Prop where
  few : n ≤ 100
  cols : ∀ r, ∀ c ∈ T r, c < n
  rown : ∀ r ∈ rows, r < n
  twin : Twin (lk ow) (lk he)
  link : ∀ c r, lk ow c = some r → tabL T r c
  inr : ∀ c r, lk ow c = some r → r ∈ rows
  free : lk he r0 = none
  r0in : r0 ∈ rows
  l1 : ow.length ≤ 100
  l2 : he.length ≤ 100
def spExtend : Sp := fun vs H Q _ => vs.length = 5 ∧ ∃ (T : Nat → List Nat) (n t a b kp : Nat) (ow he : List (Nat × Nat)) (r0 : Nat) (rows : List Nat), vs = [.ref t, .ref a, .ref b, nV r0, .ref kp] ∧ Tab T n t H ∧ Two H a b ow he ∧ H kp = some (.lst (rows.map nV)) ∧ ExtPre T n rows ow he r0 ∧
  ∀ (res : Bool) H' ow' he', Fr2 a b H H' → Two H' a b ow' he' → (res = true → Grown (tabL T) (lk ow) (lk he) r0 (lk ow') (lk he')) → (res = false → ow' = ow ∧ he' = he ∧ ∃ R, r0 ∈ R ∧ (∀ r ∈ R, r = r0 ∨ ∃ c, lk ow c = some r) ∧ Closed (tabL T) (lk ow) R) → Q (.bl res) H'
theorem Fr2.mut {a b l : Addr} {H H' : Hp} {o : HO} (e : Ex H H') (hl : H l = none) : Ex H (upd H' l o) := Ex.mut e hl
abbrev s_extend : Stmt := top 25
abbrev N_extend : List PySem.Str := ["links", "own", "held", "start", "kept", "came", "waiting", "here", "other"]
theorem sc_extend : FnScope N_extend ["links", "own", "held", "start", "kept"] (defScope s_extend) := ⟨rfl, rfl, rfl, by decide +kernel, rfl, by decide +kernel, by decide +kernel⟩
theorem ok_extend (G_give : Kn P w K mg base "give" 1 ["own", "held", "came", "other"] spGive) (D : Df K mg "extend" s_extend) : Kn P w K mg base "extend" 2 ["links", "own", "held", "start", "kept"] spExtend := by
  obtain ⟨f, fd, F, hm⟩ := D
  refine kn_mk F hm (F.binds (ps := ["links", "own", "held", "start", "kept"]) fun _ _ _ _ _ _ us hl => match us, hl with | [_, _, _, _, _], _ => rfl) ?_
  refine F.ok sc_extend (fun vs H Q E h => h.1) (fun cdv A outer s H vs Q E hr h => ?_)
  have hu := hu_of hr
  have nd := sc_extend.nd
  obtain ⟨_, T, n, t, a, b, kp, ow, he, r0, rows, rfl, hTab, h2, hkp, hp, k⟩ := h
  refine ⟨_, (pss_cons (ps_set (i := 5) nd rfl (by first | exact Or.inl rfl | exact Or.inr rfl) pe_dnewK)
      (pss_cons (ps_set (i := 6) nd rfl (by first | exact Or.inl rfl | exact Or.inr rfl) (pe_lst (pa_cons (pv 3) pa_nil)))
      (pss_cons (ps_while PassesOwn.never (pt_truth (pv 6) (by intro _; rfl)) (pss_cons (ps_set (i := 7) nd rfl (by first | exact Or.inl rfl | exact Or.inr rfl) (pe_bm PySem.F.plainAttrs_list PySem.F.slot_list_pop PySem.F.type_list_pop mt_popAt (pv 6) (pa_cons pe_int pa_nil)))
      (pss_one (ps_for PassesOwn.never rfl (pi_list (pe_ix ix_list (pv 0) (pv 7) (fun _ _ => rfl))) (pg_name (i := 8) nd rfl (by first | exact Or.inl rfl | exact Or.inr rfl))
      (pss_one (ps_if (pt_cmp (pc_dnotin hu (pv 8) (pv 5))) (pss_cons (ps_dput hu (pv 5) (pv 8) (pv 7) rfl)
      (pss_cons (ps_if (PW.pt (pw_or (pt_cmp (pc_dnotin hu (pv 8) (pv 1))) (pw_or1 (pt_cmpR op_notIn_seq (pe_dget hu (pv 1) (pv 8) (fun _ _ => rfl)) (pv 4) (by rfl))))) (pss_cons (ps_expr (pe_own G_give hr (pa_cons (pv 1) (pa_cons (pv 2) (pa_cons (pv 5) (pa_cons (pv 8) pa_nil))))))
      (pss_one (ps_ret pe_bl))) pss_nil)
      (pss_one (ps_expr (pe_bm PySem.F.plainAttrs_list PySem.F.slot_list_append PySem.F.type_list_append mt_append (pv 6) (pa_cons (pe_dget hu (pv 1) (pv 8) (fun _ _ => rfl)) pa_nil)))))) pss_nil))))))
      (pss_one (ps_ret pe_bl))))), ?_⟩
  -- came = {}; waiting = [start]
  intro m hm0
  have e1 : Ex H (upd H m (.dK [])) := Ex.new hm0
  refine q_asgL (el_lst (ea_cons (ev_var rfl) ea_nil) (Nat.le_of_ble_eq_true rfl)) fun wl H2 hwl e2 h2w => ?_
  have hwl0 : H wl = none := fresh_back e1 hwl
  have nmw : m ≠ wl := fun z => by
    rw [← z, upd_same] at hwl
    cases hwl
  have hm2 : H2 m = some (.dK (dN [])) := e2 _ _ upd_same
  have ee := e1.trans e2
  -- while waiting
  refine q_while (fun x σ' H' => ∃ ro cm j u7 u8, x + j = ow.length + 2 ∧ σ' = [some (.ref t), some (.ref a), some (.ref b), some (nV r0), some (.ref kp), some (.ref m), some (.ref wl), u7, u8] ∧ Ex H H' ∧ H' m = some (.dK (dN cm)) ∧ H' wl = some (.lst ((ro.drop j).map nV)) ∧ Bfs (tabL T) (lk ow) r0 ro cm j) (ow.length + 2)
    ⟨[r0], [], 0, _, _, rfl, rfl, ee, hm2, h2w, Bfs.zero⟩ ?_
  rintro x σ' H' ⟨ro, cm, j, u7, u8, hx, rfl, e3, hm3, hw3, B⟩
  have hfew := B.few
  have hle := B.le
  by_cases hj : j < ro.length
  · have hd : ro.drop j = ro[j] :: ro.drop (j + 1) := (List.drop_eq_getElem_cons hj)
    generalize hgj : ro[j] = h at hd
    have hroj : ro[j]? = some h := by rw [List.getElem?_eq_getElem hj, hgj]
    have hin : h ∈ ro := List.mem_of_getElem? hroj
    rw [hd, List.map_cons] at hw3
    refine ⟨true, et_is (et_tru (by walk_at "ev") hw3) rfl, fun _ H3 e4 => ?_, (fun z => by cases z)⟩
    refine ⟨_, fun σ2 H2 h => h, ?_⟩
    -- here = waiting.pop(0)
    refine ev_pop0 (σ := _) (e4 _ _ hw3) (ev_var rfl) ev_c fun H4 e5 => ?_
    have e6 : Ex H (upd H4 wl (.lst ((ro.drop (j + 1)).map nV))) := Ex.mut ((e3.trans e4).trans e5) hwl0
    have hm4 : (upd H4 wl (.lst ((ro.drop (j + 1)).map nV))) m = some (.dK (dN cm)) := by
      rw [upd_ne nmw]
      exact e5 _ _ (e4 _ _ hm3)
    have hhn : h < n := by
      rcases B.back h hin with e | ⟨p, _, hO⟩
      · rw [e]; exact hp.rown r0 hp.r0in
      · exact hp.rown h (hp.inr _ _ hO)
    obtain ⟨xs, hx1, hx2, hx3⟩ := hTab
    obtain ⟨q, hq1, hq2⟩ := hx3 h hhn
    -- for other in links[here]
    refine cps (σ := _) (v := .ref q) (ev_op (ev_var rfl) (ev_var rfl) (rv_lst (e6 _ _ hx1) (atI_nth hq1))) fun H5 e7 => ?_
    refine ⟨q, rfl, ⟨_, sq_of (e7 _ _ (e6 _ _ hq2))⟩, for_list (xs := (T h).map nV) (fun i σ' H' => ∃ ro' cm' u8, σ' = [some (.ref t), some (.ref a), some (.ref b), some (nV r0), some (.ref kp), some (.ref m), some (.ref wl), some (nV h), u8] ∧ Ex H H' ∧ H' m = some (.dK (dN cm')) ∧ H' wl = some (.lst ((ro'.drop (j + 1)).map nV)) ∧ Bfs (tabL T) (lk ow) r0 ro' cm' j ∧ ro'[j]? = some h ∧ ∀ i' c, i' < i → (T h)[i']? = some c → lk cm' c ≠ none) ?_ ?_ ?_ ?_⟩
    · exact ⟨ro, cm, _, rfl, e6.trans e7, e7 _ _ hm4, e7 _ _ upd_same, B, hroj, fun i' c hi => by omega⟩
    · rintro i σ' H6 _ ⟨_, _, _, _, e8, _⟩
      exact sq_of (e8 _ _ hq2)
    · rintro i y σ' H6 hi ⟨ro', cm', u8, rfl, e8, hm6, hw6, B', hro', hd'⟩
      obtain ⟨c, hc, rfl⟩ : ∃ c, (T h)[i]? = some c ∧ y = nV c := by
        rw [List.getElem?_map] at hi
        obtain ⟨c, h1, h2⟩ := Option.map_eq_some_iff.mp hi
        exact ⟨c, h1, h2.symm⟩
      have hlc : tabL T h c := List.mem_of_getElem? hc
      have hcn : c < n := hp.cols h c hlc
      have hin' : h ∈ ro' := List.mem_of_getElem? hro'
      have hjl : j < ro'.length := (List.getElem?_eq_some_iff.mp hro').1
      refine s_if (b := !(lk cm' c).isSome) (et_dnotin (c := c) (ev_var rfl) (ev_var rfl) hm6) (fun hb H7 e9 => ?_) (fun hb H7 e9 => ?_)
      · have hnone : lk cm' c = none := by
          cases z : lk cm' c with
          | none => rfl
          | some v => rw [z] at hb; cases hb
        -- came[other] = here
        refine q_dput (r := h) (c := c) (ev_var rfl) (ev_var rfl) (ev_var rfl) (e9 _ _ hm6) (by have := B'.few; rw [B'.len] at this; have := hp.l1; omega) fun H8 e10 => ?_
        rw [putN_new h hnone]
        have e11 : Ex H (upd H8 m (.dK (dN (cm' ++ [(c, h)])))) := Ex.mut ((e8.trans e9).trans e10) hm0
        have hw8 : (upd H8 m (.dK (dN (cm' ++ [(c, h)])))) wl = some (.lst ((ro'.drop (j + 1)).map nV)) := by
          rw [upd_ne nmw.symm]
          exact e10 _ _ (e9 _ _ hw6)
        have t8 := h2.up e11
        cases hO : lk ow c with
        | none =>
          refine q_if (b := true) (et_is (et_or (a := !(lk ow c).isSome) (b := false) (et_dnotin (c := c) (ev_var rfl) (ev_var rfl) t8.own) (fun z => by rw [hO] at z; cases z)) (by rw [hO]; rfl)) (fun _ H9 e12 => ?_) (fun z => by cases z)
          have e13 := e11.trans e12
          refine q_dropC (by walk_at "ea") fun H10 e14 => ?_
          have e15 := e13.trans e14
          have hm10 : H10 m = some (.dK (dN (cm' ++ [(c, h)]))) := e14 _ _ (e12 _ _ upd_same)
          refine ⟨rfl, tabL T, a, b, m, ow, he, cm' ++ [(c, h)], r0, cm'.length, c, h, rfl, h2.up e15, hm10, (ne_of_none h2.own hm0).symm, (ne_of_none h2.held hm0).symm, ?_, hp.twin, hp.link, hp.free, ?_, hO, by have := hp.l1; omega, by have := hp.l2; omega, ?_, fun H11 ow' he' fr tw g => ?_⟩
          · exact B'.came.snoc hnone hlc (B'.back h hin')
          · rw [List.getElem?_append_right (Nat.le_refl _), Nat.sub_self]
            rfl
          · have := B'.few
            rw [B'.len] at this
            have := hp.l1
            omega
          · exact s_ret ev_c fun H12 e16 => k true H12 ow' he' (((Fr2.of e15).trans fr).trans (.of e16)) (tw.up e16) (fun _ => g) (fun z => by cases z)
        | some r =>
          have hkp8 := e11 _ _ hkp
          refine q_if (b := false) (et_is (et_or (a := !(lk ow c).isSome) (b := !inV (nV r) (rows.map nV)) (et_dnotin (c := c) (ev_var rfl) (ev_var rfl) t8.own) (fun _ => et_test (ev_op (ev_dget (c := c) (ev_var rfl) (ev_var rfl) t8.own hO) (ev_var rfl) (rv_niL (sq_of hkp8) rfl (flat_nV rows))))) (by rw [hO, inV_nV (hp.inr c r hO)]; rfl)) (fun z => by cases z) (fun _ H9 e12 => ?_)
          refine s_app (e12 _ _ hw8) (ev_var rfl) (ev_dget (c := c) (ev_var rfl) (ev_var rfl) (t8.up e12).own hO) (by
            rw [List.length_map, List.length_drop]
            have := B'.few
            have := hp.l1
            omega) fun H10 e13 => ?_
          have hm10 : H10 m = some (.dK (dN (cm' ++ [(c, h)]))) := e13 _ _ (e12 _ _ upd_same)
          refine ⟨ro' ++ [r], cm' ++ [(c, h)], _, rfl, Ex.mut ((e11.trans e12).trans e13) hwl0, ?_, ?_, B'.more hnone hlc hin' hO, ?_, fun i' c' hi' hc' => ?_⟩
          · rw [upd_ne nmw]
            exact hm10
          · rw [upd_same, List.drop_append_of_le_length (by omega), List.map_append]
            rfl
          · rw [List.getElem?_append_left hjl]
            exact hro'
          · rw [lk_snoc]
            by_cases ec : c' = c
            · rw [if_pos ec]
              cases lk cm' c' <;> exact fun z => by cases z
            · rw [if_neg ec, Option.or_none]
              refine hd' i' c' ?_ hc'
              rcases Nat.lt_succ_iff_lt_or_eq.mp hi' with z | z
              · exact z
              · rw [z, hc] at hc'
                exact absurd (Option.some.inj hc').symm ec
      · refine ⟨ro', cm', _, rfl, e8.trans e9, e9 _ _ hm6, e9 _ _ hw6, B', hro', fun i' c' hi' hc' => ?_⟩
        rcases Nat.lt_succ_iff_lt_or_eq.mp hi' with z | z
        · exact hd' i' c' z hc'
        · rw [z, hc] at hc'
          cases hc'
          intro z'
          rw [z'] at hb
          cases hb
    · rintro σ' H6 ⟨ro', cm', u8, rfl, e8, hm6, hw6, B', hro', hd'⟩
      have hjl : j < ro'.length := (List.getElem?_eq_some_iff.mp hro').1
      refine ⟨x - 1, by omega, ro', cm', j + 1, _, _, by omega, rfl, e8, hm6, hw6, ⟨B'.came, B'.len, B'.owned, B'.back, fun i r hi hr c hc => ?_, B'.start, hjl⟩⟩
      rcases Nat.lt_succ_iff_lt_or_eq.mp hi with z | z
      · exact B'.done i r z hr c hc
      · rw [z, hro'] at hr
        cases hr
        obtain ⟨i', h1, h2⟩ := List.mem_iff_getElem.mp (show c ∈ T h from hc)
        refine hd' i' c ?_ (by rw [List.getElem?_eq_getElem h1, h2])
        rw [List.length_map]
        exact h1
  · have hjr : j = ro.length := by omega
    subst hjr
    rw [List.drop_length] at hw3
    refine ⟨false, et_is (et_tru (by walk_at "ev") hw3) rfl, (fun z => by cases z), fun _ H3 e4 => ?_⟩
    refine s_ret ev_c fun H4 e5 => k false H4 ow he (.of ((e3.trans e4).trans e5)) (h2.up ((e3.trans e4).trans e5)) (fun z => by cases z) fun _ => ⟨rfl, rfl, ro, B.start, fun r hr => ?_, B.closed⟩
    rcases B.back r hr with e | ⟨p, _, hO⟩
    · exact .inl e
    · exact .inr ⟨p.1, hO⟩
end
end K77
end

section
set_option maxRecDepth 100000
set_option maxHeartbeats 4000000
namespace K77
open PySem L2 Evl
local macro_rules | `(tactic| walk_at "at") => `(tactic| first | assumption | exact Ex.get (by assumption) (by assumption))
local macro_rules | `(tactic| walk_at "sk") => `(tactic| first | assumption | exact SkyA.up (by assumption) (by assumption))
local macro_rules | `(tactic| walk_at "rv") => `(tactic| first
  | with_reducible exact rv_I0
  | with_reducible exact rv_isN
  | with_reducible exact rv_notN
  | (with_reducible show RV (rI (fun _ j => 0 < j) fun i j => .int (i % j)) _ _ _ _; exact rv_mod (by first | assumption | omega))
  | (with_reducible show RV (rI CMul _) _ _ _ _; exact rv_mul (by first | exact mul_l (by omega) | exact mul_r (by omega)))
  | (with_reducible show RV (rI CDiv _) _ _ _ _; exact rv_fdiv (div_ok (by omega)))
  | (with_reducible show RV (rIxT _) _ _ _ _; exact rv_tup (by walk_at "at") rfl)
  | (with_reducible show RV rEq _ _ _ _; exact rv_eq rfl)
  | (with_reducible show RV rNe _ _ _ _; exact rv_ne rfl))
local macro_rules | `(tactic| walk_at "ev") => `(tactic| first
  | (with_reducible show Ev (tVar _) _ _ _; exact ev_var rfl)
  | (with_reducible show Ev (tC _) _ _ _; exact ev_c)
  | (with_reducible show Ev (tOp _ _ _) _ _ _; exact ev_op (by walk_at "ev") (by walk_at "ev") (by walk_at "rv"))
  | (with_reducible show Ev (tProp _ _ _ _ _) _ _ _; exact ev_sky (by walk_at "ev") (by walk_at "sk"))
  | (with_reducible show Ev (tCB rAbs _) _ _ _; exact ev_abs (by walk_at "ev"))
  | (with_reducible show Ev (tCB rMax _) _ _ _; exact ev_max (by walk_at "ev") (by walk_at "ev"))
  | (with_reducible show Ev (tCB rMin _) _ _ _; exact ev_min (by walk_at "ev") (by walk_at "ev"))
  | (with_reducible show Ev (tCB rInt _) _ _ _; exact ev_int (by walk_at "ev"))
  | (with_reducible show Ev (tCB rInt _) _ _ _; exact ev_intB (by walk_at "ev"))
  | (with_reducible show Ev (tChain _ _ _ _ _) _ _ _; exact ev_chain (by walk_at "ev") (by walk_at "ev") (by walk_at "ev"))
  | (with_reducible show Ev (tAndV _ _) _ _ _; exact ev_andV (by walk_at "ev") (fun _ => by walk_at "ev"))
  | (with_reducible show Ev (tOrV _ _) _ _ _; exact ev_orV (by walk_at "ev") (fun _ => by walk_at "ev"))
  | (with_reducible show Ev (tCB (rLenQ _) _) _ _ _; exact ev_lenL (by walk_at "ev") (by walk_at "at"))
  | (with_reducible show Ev (tCB (rLenQ _) _) _ _ _; exact ev_lenT (by walk_at "ev") (by walk_at "at"))
  | (with_reducible show Ev (tUn _ _) _ _ _; exact ev_un (by walk_at "ev") ru_neg))
local macro_rules | `(tactic| walk_at "et") => `(tactic| first
  | (with_reducible show EvT (tTest _) _ _ _; exact et_test (by walk_at "ev"))
  | (with_reducible show EvT (tB _) _ _ _; exact et_B (by walk_at "ev"))
  | (with_reducible show EvT (tNot _) _ _ _; exact et_not (by walk_at "et"))
  | (with_reducible show EvT (tAnd _ _) _ _ _; exact et_and (by walk_at "et") (fun _ => by walk_at "et"))
  | (with_reducible show EvT (tOr _ _) _ _ _; exact et_or (by walk_at "et") (fun _ => by walk_at "et"))
  | exact et_tru (by walk_at "ev") (by walk_at "at"))
local macro_rules | `(tactic| walk_at "ea") => `(tactic| first
  | (with_reducible show EvA tNil _ _ _; exact ea_nil)
  | (with_reducible show EvA (tCons _ _) _ _ _; exact ea_cons (by walk_at "ev") (by walk_at "ea")))
theorem nodup_map_inj {α β : Type} {f : α → β} {l : List α} (h : l.Nodup) (hi : ∀ x ∈ l, ∀ y ∈ l, f x = f y → x = y) : (l.map f).Nodup := by
  rw [List.nodup_iff_pairwise_ne, List.pairwise_map]
  exact (List.nodup_iff_pairwise_ne.mp h).imp_of_mem (fun {a b} ha hb hne e => hne (hi a ha b hb e))
theorem nodup_of_keys {l : List (Nat × Nat)} (h : Nd l) : l.Nodup := by
  have h' := List.nodup_iff_pairwise_ne.mp h
  rw [List.pairwise_map] at h'
  exact List.nodup_iff_pairwise_ne.mpr (h'.imp fun hne e => hne (by rw [e]))
theorem lk_val {l : List (Nat × Nat)} (h : Nd l) {r : Nat} : r ∈ l.map (·.2) ↔ ∃ c, lk l c = some r := by
  constructor
  · intro hr
    obtain ⟨p, hp, rfl⟩ := List.mem_map.mp hr
    exact ⟨p.1, lk_in h hp⟩
  · rintro ⟨c, hc⟩
    exact List.mem_map.mpr ⟨(c, r), (lk_mem h).mpr hc, rfl⟩
/-- behind i rows -/
structure Cov (T : Nat → List Nat) (rows : List Nat) (ow he : List (Nat × Nat)) (D : List Nat) (i : Nat) : Prop where
  twin : Twin (lk ow) (lk he)
  link : ∀ c r, lk ow c = some r → tabL T r c
  inr : ∀ c r, lk ow c = some r → r ∈ rows.take i
  sub : ∀ r ∈ D, r ∈ rows.take i
  closed : Closed (tabL T) (lk ow) D
  left : ∀ r ∈ rows.take i, lk he r = none → r ∈ D
theorem Cov.zero {T : Nat → List Nat} {rows : List Nat} : Cov T rows [] [] [] 0 :=
  ⟨fun c r => ⟨(fun h => by cases h), (fun h => by cases h)⟩, (fun c r h => by cases h), (fun c r h => by cases h), nofun, nofun, (fun r h => by rw [List.take_zero] at h; cases h)⟩
theorem take_snoc {rows : List Nat} {i r0 : Nat} (h : rows[i]? = some r0) : rows.take (i + 1) = rows.take i ++ [r0] := by
  rw [List.take_succ, h]
  rfl
theorem Cov.free {T : Nat → List Nat} {rows : List Nat} {ow he : List (Nat × Nat)} {D : List Nat} {i r0 : Nat} (hn : rows.Nodup) (C : Cov T rows ow he D i) (h : rows[i]? = some r0) : lk he r0 = none := by
  cases q : lk he r0 with
  | none => rfl
  | some c =>
    have h1 := C.inr c r0 ((C.twin c r0).mpr q)
    have h2 : (rows.take (i + 1)).Nodup := hn.sublist (List.take_sublist _ _)
    rw [take_snoc h] at h2
    have h3 := (List.nodup_append.mp h2).2.2 r0 h1 r0 (List.mem_singleton.mpr rfl)
    exact absurd rfl h3
theorem Cov.yes {T : Nat → List Nat} {rows : List Nat} {ow he ow' he' : List (Nat × Nat)} {D : List Nat} {i r0 : Nat} (C : Cov T rows ow he D i) (h : rows[i]? = some r0) (g : Grown (tabL T) (lk ow) (lk he) r0 (lk ow') (lk he')) : Cov T rows ow' he' D (i + 1) := by
  refine ⟨g.twin, g.link, fun c r hc => ?_, fun r hr => ?_, C.closed.keep g.keep, fun r hr hn => ?_⟩
  · rw [take_snoc h]
    have h1 := (g.rows r).mp (by rw [(g.twin c r).mp hc] <;> rfl)
    rcases h1 with h1 | h1
    · obtain ⟨c', hc'⟩ := Option.isSome_iff_exists.mp h1
      exact List.mem_append_left _ (C.inr c' r ((C.twin c' r).mpr hc'))
    · rw [h1]
      exact List.mem_append_right _ (List.mem_singleton.mpr rfl)
  · rw [take_snoc h]
    exact List.mem_append_left _ (C.sub r hr)
  · have hn' : ¬ ((lk he r).isSome = true ∨ r = r0) := fun z => by
      have := (g.rows r).mpr z
      rw [hn] at this
      cases this
    rw [take_snoc h] at hr
    rcases List.mem_append.mp hr with h1 | h1
    · refine C.left r h1 ?_
      cases q : lk he r with
      | none => rfl
      | some c => exact absurd (.inl (by rw [q] <;> rfl)) hn'
    · exact absurd (.inr (List.mem_singleton.mp h1)) hn'
theorem Cov.no {T : Nat → List Nat} {rows : List Nat} {ow he : List (Nat × Nat)} {D R : List Nat} {i r0 : Nat} (C : Cov T rows ow he D i) (h : rows[i]? = some r0) (h0 : r0 ∈ R) (hR : ∀ r ∈ R, r = r0 ∨ ∃ c, lk ow c = some r) (hc : Closed (tabL T) (lk ow) R) : Cov T rows ow he (D ++ R) (i + 1) := by
  refine ⟨C.twin, C.link, fun c r hc => ?_, fun r hr => ?_, fun r hr c hl => ?_, fun r hr hn => ?_⟩
  · rw [take_snoc h]
    exact List.mem_append_left _ (C.inr c r hc)
  · rw [take_snoc h]
    rcases List.mem_append.mp hr with h1 | h1
    · exact List.mem_append_left _ (C.sub r h1)
    · rcases hR r h1 with e | ⟨c, e⟩
      · rw [e]; exact List.mem_append_right _ (List.mem_singleton.mpr rfl)
      · exact List.mem_append_left _ (C.inr c r e)
  · rcases List.mem_append.mp hr with h1 | h1
    · obtain ⟨r', h2, h3⟩ := C.closed r h1 c hl
      exact ⟨r', List.mem_append_left _ h2, h3⟩
    · obtain ⟨r', h2, h3⟩ := hc r h1 c hl
      exact ⟨r', List.mem_append_right _ h2, h3⟩
  · rw [take_snoc h] at hr
    rcases List.mem_append.mp hr with h1 | h1
    · exact List.mem_append_left _ (C.left r h1 hn)
    · rw [List.mem_singleton.mp h1]
      exact List.mem_append_right _ h0
theorem Cov.cover {T : Nat → List Nat} {rows : List Nat} {ow he : List (Nat × Nat)} {D : List Nat} (hn : rows.Nodup) (hO : Nd ow) (hH : Nd he) (C : Cov T rows ow he D rows.length) :
    Cover rows (tabL T) ow (rows.filter fun r => decide (r ∈ D)) ∧ he.length = ow.length := by
  have inr : ∀ c r, lk ow c = some r → r ∈ rows := fun c r h => by
    have := C.inr c r h
    rwa [List.take_length] at this
  have vn : (ow.map (·.2)).Nodup := nodup_map_inj (nodup_of_keys hO) fun p hp q hq e => by
    have h1 := (C.twin p.1 p.2).mp (lk_in hO hp)
    have h2 := (C.twin q.1 q.2).mp (lk_in hO hq)
    have e' : p.2 = q.2 := e
    rw [e', h2] at h1
    exact Prod.ext (Option.some.inj h1).symm e'
  refine ⟨⟨hO, vn, fun p hp => C.link _ _ (lk_in hO hp), fun p hp => inr _ _ (lk_in hO hp), hn.filter _, fun r hr => (List.mem_filter.mp hr).1, fun r hr c hl => ?_, fun r hr hv => ?_⟩, ?_⟩
  · obtain ⟨r', h1, h2⟩ := C.closed r (of_decide_eq_true (List.mem_filter.mp hr).2) c hl
    exact ⟨r', List.mem_filter.mpr ⟨inr c r' h2, decide_eq_true h1⟩, (lk_mem hO).mpr h2⟩
  · refine List.mem_filter.mpr ⟨hr, decide_eq_true (C.left r (by rw [List.take_length]; exact hr) ?_)⟩
    cases q : lk he r with
    | none => rfl
    | some c => exact absurd ((lk_val hO).mpr ⟨c, (C.twin c r).mpr q⟩) hv
  · have h1 := len_le (he.map (fun p : Nat × Nat => p.1)) (ow.map (fun p : Nat × Nat => p.2)) hH fun r hr => by
      obtain ⟨c, hc⟩ := Option.isSome_iff_exists.mp (lk_key.mp hr)
      exact (lk_val hO).mpr ⟨c, (C.twin c r).mpr hc⟩
    have h2 := len_le (ow.map (fun p : Nat × Nat => p.2)) (he.map (fun p : Nat × Nat => p.1)) vn fun r hr => by
      obtain ⟨c, hc⟩ := (lk_val hO).mp hr
      exact lk_key.mpr (by rw [(C.twin c r).mp hc] <;> rfl)
    rw [List.length_map, List.length_map] at h1 h2
    omega
/-- the lists stay short -/
theorem keys_few {l : List (Nat × Nat)} {n : Nat} (h : Nd l) (hk : ∀ p ∈ l, p.1 < n) : l.length ≤ n := by
  have := len_le (l.map (fun p : Nat × Nat => p.1)) (List.range n) h fun c hc => by
    obtain ⟨p, hp, rfl⟩ := List.mem_map.mp hc
    exact List.mem_range.mpr (hk p hp)
  rwa [List.length_map, List.length_range] at this
section
variable {P : Program} {w : World} {K : PySem.W.Frag} {mg : PySem.Str → Option Value} {base : Heap}
/-- what covering is given -/
structure CovPre (T : Nat → List Nat) (n : Nat) (rows : List Nat) : Prop where
  few : n ≤ 100
  cols : ∀ r, ∀ c ∈ T r, c < n
  rown : ∀ r ∈ rows, r < n
  nd : rows.Nodup
def Covd (T : Nat → List Nat) (rows : List Nat) : PH := fun v H => ∃ p a b ow he D, v = .ref p ∧ H p = some (.tup [.ref a, .ref b]) ∧ H b = some (.dK (dN he)) ∧ Cover rows (tabL T) ow D ∧ he.length = ow.length
def spCovering : Sp := SpG 2 fun vs H R => ∃ T n t kp rows, vs = [.ref t, .ref kp] ∧ Tab T n t H ∧ H kp = some (.lst (rows.map nV)) ∧ CovPre T n rows ∧ R = Covd T rows
abbrev s_covering : Stmt := top 26
abbrev N_covering : List PySem.Str := ["table", "rows", "own", "held", "row"]
theorem sc_covering : FnScope N_covering ["table", "rows"] (defScope s_covering) := ⟨rfl, rfl, rfl, by decide +kernel, rfl, by decide +kernel, by decide +kernel⟩
theorem ok_covering (G_extend : Kn P w K mg base "extend" 2 ["links", "own", "held", "start", "kept"] spExtend) (D : Df K mg "covering" s_covering) : Kn P w K mg base "covering" 3 ["table", "rows"] spCovering := by
  obtain ⟨f, fd, F, hm⟩ := D
  refine kn_mk F hm (F.binds (ps := ["table", "rows"]) fun _ _ _ _ _ _ us hl => match us, hl with | [_, _], _ => rfl) ?_
  refine F.ok sc_covering (fun vs H Q E h => h.1) (fun cdv A outer s H vs Q E hr h => ?_)
  have hu := hu_of hr
  have nd := sc_covering.nd
  obtain ⟨_, R, ⟨T, n, t, kp, rows, rfl, hT, hk, hp, rfl⟩, k⟩ := h
  refine ⟨_, (pss_cons (ps_set (i := 2) nd rfl (by first | exact Or.inl rfl | exact Or.inr rfl) pe_dnewK)
      (pss_cons (ps_set (i := 3) nd rfl (by first | exact Or.inl rfl | exact Or.inr rfl) pe_dnewK)
      (pss_cons (ps_for PassesOwn.never rfl (pi_list (pv 1)) (pg_name (i := 4) nd rfl (by first | exact Or.inl rfl | exact Or.inr rfl))
      (pss_one (ps_expr (pe_own G_extend hr (pa_cons (pv 0) (pa_cons (pv 2) (pa_cons (pv 3) (pa_cons (pv 4) (pa_cons (pv 1) pa_nil)))))))))
      (pss_one (ps_ret (pe_tup (pa_cons (pv 2) (pa_cons (pv 3) pa_nil)))))))), ?_⟩
  refine q_dnew fun a ha => ?_
  have e1 : Ex H (upd H a (.dK [])) := Ex.new ha
  refine q_dnew fun b hb => ?_
  have nab : a ≠ b := fun z => by
    rw [← z, upd_same] at hb
    cases hb
  have hb0 : H b = none := fresh_back e1 hb
  have e2 : Ex H (upd (upd H a (.dK [])) b (.dK [])) := e1.trans (Ex.new hb)
  have t0 : Two (upd (upd H a (.dK [])) b (.dK [])) a b [] [] := ⟨nab, by rw [upd_ne nab, upd_same] <;> rfl, upd_same, List.nodup_nil, List.nodup_nil⟩
  refine q_forL (xs := rows.map nV) (by walk_at "ev") (sq_of (e2 _ _ hk)) (fun i σ' H' => ∃ ow he D u, σ' = [some (.ref t), some (.ref kp), some (.ref a), some (.ref b), u] ∧ Ex H H' ∧ Two H' a b ow he ∧ Cov T rows ow he D i) (fun H1 e3 => ⟨[], [], [], _, rfl, e2.trans e3, t0.up e3, Cov.zero⟩) ?_ ?_ ?_
  · rintro i σ' H' _ ⟨_, _, _, _, _, e, _⟩
    exact sq_of (e _ _ hk)
  · rintro i x σ' H' hi ⟨ow, he, D, u, rfl, e, tw, C⟩
    obtain ⟨r0, hr0, rfl⟩ : ∃ r, rows[i]? = some r ∧ x = nV r := by
      rw [List.getElem?_map] at hi
      obtain ⟨c, h1, h2⟩ := Option.map_eq_some_iff.mp hi
      exact ⟨c, h1, h2.symm⟩
    have hin := List.mem_of_getElem? hr0
    have rin : ∀ c r, lk ow c = some r → r ∈ rows := fun c r h => List.mem_of_mem_take (C.inr c r h)
    refine s_dropC (by walk_at "ea") fun H1 e3 => ⟨rfl, T, n, t, a, b, kp, ow, he, r0, rows, rfl, hT.up (e.trans e3), tw.up e3, (e.trans e3) _ _ hk, ⟨hp.few, hp.cols, hp.rown, C.twin, C.link, rin, C.free hp.nd hr0, hin, ?_, ?_⟩, fun res H2 ow' he' fr tw' hy hn => ?_⟩
    · refine Nat.le_trans (keys_few tw.ndO fun p hq => ?_) hp.few
      exact hp.cols p.2 p.1 (C.link p.1 p.2 (lk_in tw.ndO hq))
    · refine Nat.le_trans (keys_few tw.ndH fun p hq => ?_) hp.few
      exact hp.rown p.1 (rin p.2 p.1 ((C.twin p.2 p.1).mpr (lk_in tw.ndH hq)))
    · have e4 : Ex H H2 := fun y o hy => fr y o ((e.trans e3) y o hy) (fun z => by rw [z, ha] at hy; cases hy) (fun z => by rw [z, hb0] at hy; cases hy)
      cases res with
      | true => exact ⟨ow', he', D, _, rfl, e4, tw', C.yes hr0 (hy rfl)⟩
      | false =>
        obtain ⟨rfl, rfl, R, h1, h2, h3⟩ := hn rfl
        exact ⟨ow', he', D ++ R, _, rfl, e4, tw', C.no hr0 h1 h2 h3⟩
  · rintro σ' H' ⟨ow, he, D, u, rfl, e, tw, C⟩
    rw [List.length_map] at C
    obtain ⟨hc, hl⟩ := C.cover hp.nd tw.ndO tw.ndH
    exact s_retU (eu_tup (by walk_at "ea") (Nat.le_of_ble_eq_true rfl)) fun p H2 hp2 e3 h3 => k _ H2 (e.trans e3) ⟨p, a, b, ow, he, _, rfl, h3, e3 _ _ tw.held, hc, hl⟩
theorem use_covering {T : Nat → List Nat} {n t kp : Nat} {rows : List Nat} {H : Hp} (hT : Tab T n t H) (hk : H kp = some (.lst (rows.map nV))) (hp : CovPre T n rows) : SpP spCovering [.ref t, .ref kp] H (Covd T rows) := spg fun _ e => ⟨T, n, t, kp, rows, rfl, hT.up e, e _ _ hk, hp, rfl⟩
/-! ### most -/
def Most (T : Nat → List Nat) (rows : List Nat) : PH := fun v _ => ∃ ow D, Cover rows (tabL T) ow D ∧ v = .int (ow.length : Int)
def spMost : Sp := SpG 2 fun vs H R => ∃ T n t kp rows, vs = [.ref t, .ref kp] ∧ Tab T n t H ∧ H kp = some (.lst (rows.map nV)) ∧ CovPre T n rows ∧ R = Most T rows
abbrev s_most : Stmt := top 27
abbrev N_most : List PySem.Str := ["table", "rows"]
theorem sc_most : FnScope N_most ["table", "rows"] (defScope s_most) := ⟨rfl, rfl, rfl, by decide +kernel, rfl, by decide +kernel, by decide +kernel⟩
theorem ok_most (B : Bl mg) (G_covering : Kn P w K mg base "covering" 3 ["table", "rows"] spCovering) (D : Df K mg "most" s_most) : Kn P w K mg base "most" 4 ["table", "rows"] spMost := by
  obtain ⟨f, fd, F, hm⟩ := D
  refine kn_mk F hm (F.binds (ps := ["table", "rows"]) fun _ _ _ _ _ _ us hl => match us, hl with | [_, _], _ => rfl) ?_
  refine F.ok sc_most (fun vs H Q E h => h.1) (fun cdv A outer s H vs Q E hr h => ?_)
  have hu := hu_of hr
  have nd := sc_most.nd
  obtain ⟨_, R, ⟨T, n, t, kp, rows, rfl, hT, hk, hp, rfl⟩, k⟩ := h
  refine ⟨_, (pss_one (ps_ret (pe_callB call_lenD (by rfl) B.len (by decide +kernel) (pa_cons (pe_ix ix_tup (pe_own G_covering hr (pa_cons (pv 0) (pa_cons (pv 1) pa_nil))) pe_int (fun _ _ => rfl)) pa_nil)))), ?_⟩
  refine cpsP (σ := _) (evp_call (by walk_at "ea") (use_covering hT hk hp)) fun v H1 e r => ?_
  obtain ⟨p, a, b, ow, he, D, rfl, h1, h2, hc, hl⟩ := r
  refine ⟨p, _, _, _, rfl, rfl, st_of h1, rfl, b, _, rfl, h2, ?_⟩
  refine k _ H1 e ⟨ow, D, hc, ?_⟩
  rw [dN_len, hl]
theorem use_most {T : Nat → List Nat} {n t kp : Nat} {rows : List Nat} {H : Hp} (hT : Tab T n t H) (hk : H kp = some (.lst (rows.map nV))) (hp : CovPre T n rows) : SpP spMost [.ref t, .ref kp] H (Most T rows) := spg fun _ e => ⟨T, n, t, kp, rows, rfl, hT.up e, e _ _ hk, hp, rfl⟩
end
end K77
end

section
set_option maxRecDepth 100000
set_option maxHeartbeats 4000000
namespace K77
open PySem L2 Evl
local macro_rules | `(tactic| walk_at "at") => `(tactic| first | assumption | exact Ex.get (by assumption) (by assumption))
local macro_rules | `(tactic| walk_at "sk") => `(tactic| first | assumption | exact SkyA.up (by assumption) (by assumption))
local macro_rules | `(tactic| walk_at "rv") => `(tactic| first
  | with_reducible exact rv_I0
  | with_reducible exact rv_isN
  | with_reducible exact rv_notN
  | (with_reducible show RV (rI (fun _ j => 0 < j) fun i j => .int (i % j)) _ _ _ _; exact rv_mod (by first | assumption | omega))
  | (with_reducible show RV (rI CMul _) _ _ _ _; exact rv_mul (by first | exact mul_l (by omega) | exact mul_r (by omega)))
  | (with_reducible show RV (rI CDiv _) _ _ _ _; exact rv_fdiv (div_ok (by omega)))
  | (with_reducible show RV (rIxT _) _ _ _ _; exact rv_tup (by walk_at "at") rfl)
  | (with_reducible show RV rEq _ _ _ _; exact rv_eq rfl)
  | (with_reducible show RV rNe _ _ _ _; exact rv_ne rfl))
local macro_rules | `(tactic| walk_at "ev") => `(tactic| first
  | (with_reducible show Ev (tVar _) _ _ _; exact ev_var rfl)
  | (with_reducible show Ev (tC _) _ _ _; exact ev_c)
  | (with_reducible show Ev (tOp _ _ _) _ _ _; exact ev_op (by walk_at "ev") (by walk_at "ev") (by walk_at "rv"))
  | (with_reducible show Ev (tProp _ _ _ _ _) _ _ _; exact ev_sky (by walk_at "ev") (by walk_at "sk"))
  | (with_reducible show Ev (tCB rAbs _) _ _ _; exact ev_abs (by walk_at "ev"))
  | (with_reducible show Ev (tCB rMax _) _ _ _; exact ev_max (by walk_at "ev") (by walk_at "ev"))
  | (with_reducible show Ev (tCB rMin _) _ _ _; exact ev_min (by walk_at "ev") (by walk_at "ev"))
  | (with_reducible show Ev (tCB rInt _) _ _ _; exact ev_int (by walk_at "ev"))
  | (with_reducible show Ev (tCB rInt _) _ _ _; exact ev_intB (by walk_at "ev"))
  | (with_reducible show Ev (tChain _ _ _ _ _) _ _ _; exact ev_chain (by walk_at "ev") (by walk_at "ev") (by walk_at "ev"))
  | (with_reducible show Ev (tAndV _ _) _ _ _; exact ev_andV (by walk_at "ev") (fun _ => by walk_at "ev"))
  | (with_reducible show Ev (tOrV _ _) _ _ _; exact ev_orV (by walk_at "ev") (fun _ => by walk_at "ev"))
  | (with_reducible show Ev (tCB (rLenQ _) _) _ _ _; exact ev_lenL (by walk_at "ev") (by walk_at "at"))
  | (with_reducible show Ev (tCB (rLenQ _) _) _ _ _; exact ev_lenT (by walk_at "ev") (by walk_at "at"))
  | (with_reducible show Ev (tUn _ _) _ _ _; exact ev_un (by walk_at "ev") ru_neg))
local macro_rules | `(tactic| walk_at "et") => `(tactic| first
  | (with_reducible show EvT (tTest _) _ _ _; exact et_test (by walk_at "ev"))
  | (with_reducible show EvT (tB _) _ _ _; exact et_B (by walk_at "ev"))
  | (with_reducible show EvT (tNot _) _ _ _; exact et_not (by walk_at "et"))
  | (with_reducible show EvT (tAnd _ _) _ _ _; exact et_and (by walk_at "et") (fun _ => by walk_at "et"))
  | (with_reducible show EvT (tOr _ _) _ _ _; exact et_or (by walk_at "et") (fun _ => by walk_at "et"))
  | exact et_tru (by walk_at "ev") (by walk_at "at"))
local macro_rules | `(tactic| walk_at "ea") => `(tactic| first
  | (with_reducible show EvA tNil _ _ _; exact ea_nil)
  | (with_reducible show EvA (tCons _ _) _ _ _; exact ea_cons (by walk_at "ev") (by walk_at "ea")))
/-! ### a sight: the pair of the dict of offsets and the list of sure stars -/
structure SightA (S : Sk) (a : Att) (p d s : Addr) (kvs : List (Key × V)) (H : Hp) : Prop where
  tp : H p = some (.tup [.ref d, .ref s])
  di : H d = some (.dK kvs)
  dl : DictL (fun c => T2 (S.off a c)) (S.seenL a) kvs H
  su : H s = some (.lst ((S.sureL a).map nV))
theorem im_off (S : Sk) (a : Att) (c : Nat) : Imm (T2 (S.off a c)) := im_T2 _
theorem SightA.up {S : Sk} {a : Att} {p d s : Addr} {kvs : List (Key × V)} {H H' : Hp} (e : Ex H H') (h : SightA S a p d s kvs H) : SightA S a p d s kvs H' := ⟨e _ _ h.tp, e _ _ h.di, h.dl.up (im_off S a) e, e _ _ h.su⟩
/-- a sight that is new since H -/
def SightF (S : Sk) (a : Att) (H : Hp) : PH := fun v H' => ∃ p d s kvs, v = .ref p ∧ H d = none ∧ SightA S a p d s kvs H'
theorem SightF.back {S : Sk} {a : Att} {H H1 H' : Hp} {v : V} (e : Ex H H1) (h : SightF S a H1 v H') : SightF S a H v H' := let ⟨p, d, s, kvs, h1, h2, h3⟩ := h; ⟨p, d, s, kvs, h1, fresh_back e h2, h3⟩
section
variable {P : Program} {w : World} {K : PySem.W.Frag} {mg : PySem.Str → Option Value} {base : Heap}
def spSight (C : Addr) : Sp := SpG 2 fun vs H R => ∃ S a v1 v2, vs = [v1, v2] ∧ SkyAt C S v1 H ∧ T3 a v2 H ∧ SkOk S ∧ AttOk S.n a ∧ R = SightF S a H
abbrev s_sight : Stmt := top 29
abbrev N_sight : List PySem.Str := ["sky", "attitude", "places", "number"]
theorem sc_sight : FnScope N_sight ["sky", "attitude"] (defScope s_sight) := ⟨rfl, rfl, rfl, by decide +kernel, rfl, by decide +kernel, by decide +kernel⟩
theorem ok_sight {C : Addr} (P_stars : KnP P w K mg base C "stars" (prStars C)) (G_offset_of : Kn P w K mg base "offset_of" 3 ["sky", "attitude", "star"] (spOffset C)) (G_seen_stars : Kn P w K mg base "seen_stars" 5 ["sky", "attitude"] (spSeen C)) (G_sure_stars : Kn P w K mg base "sure_stars" 5 ["sky", "attitude"] (spSure C)) (D : Df K mg "sight" s_sight) : Kn P w K mg base "sight" 6 ["sky", "attitude"] (spSight C) := by
  obtain ⟨f, fd, F, hm⟩ := D
  refine kn_mk F hm (F.binds (ps := ["sky", "attitude"]) fun _ _ _ _ _ _ us hl => match us, hl with | [_, _], _ => rfl) ?_
  refine F.ok sc_sight (fun vs H Q E h => h.1) (fun cdv A outer s H vs Q E hr h => ?_)
  have hu := hu_of hr
  have nd := sc_sight.nd
  obtain ⟨_, R, ⟨S, a, v1, v2, rfl, ⟨p, sa, ca, xs, rfl, hS⟩, ⟨pa, rfl, ha⟩, hok, hat, rfl⟩, k⟩ := h
  refine ⟨_, (pss_cons (ps_setDc (i := 2) (own := [("number", 3)]) rfl nd rfl rfl (sw_trueD rfl rfl rfl (by decide +kernel)) (pi_list (pe_own G_seen_stars hr (pa_cons (pv 0) (pa_cons (pv 1) pa_nil)))) (blkOk_by (N := N_sight) (sc := defScope s_sight) (by decide +kernel)) (fun _ _ _ _ _ => (pg_name (i := 3) nd rfl (by first | exact Or.inl rfl | exact Or.inr rfl))) (fun _ _ _ _ _ => pts_nil) (fun _ _ _ _ _ => (pv 3)) (fun _ _ _ _ _ => (pe_own G_offset_of hr (pa_cons (pv 0) (pa_cons (pv 1) (pa_cons (pe_ix (ix_tupK (K := K) rfl) (pe_prp P_stars hr (pv 0)) (pv 3) (fun _ _ => rfl)) pa_nil))))))
      (pss_one (ps_ret (pe_tup (pa_cons (pv 2) (pa_cons (pe_own G_sure_stars hr (pa_cons (pv 0) (pa_cons (pv 1) pa_nil))) pa_nil)))))), ?_⟩
  have hlen := hok.2.2.1
  have hfew : (S.seenL a).length ≤ 20 := Nat.le_trans (rf_len _ _) hlen
  refine q_asgP (ev_dcN (n := ((S.seenL a).map nV).length) (Y := YAt ((S.seenL a).map nV)) (R := fun c => T2 (S.off a c)) (im_off S a) (fun H1 e1 Rk q => ?_) (S.seenL a) (by rw [List.length_map]) (S.seenL_nd a) (by rw [List.length_map]; omega) ?_) fun v H1 e r => ?_
  · refine evp_call (by walk_at "ea") (use_seen (S := S) (a := a) ⟨p, sa, ca, xs, rfl, hS⟩ ⟨pa, rfl, ha⟩ hok hat) H1 e1 _ fun v H2 e2 r => ?_
    obtain ⟨l, rfl, hl⟩ := r
    refine ⟨l, rfl, ⟨_, sq_of hl⟩, q _ _ _ (walk_list (xs := (S.seenL a).map nV)) (sq_of hl) (fun H3 e3 => sq_of (e3 _ _ hl)) e2⟩
  · rintro i c x H1 H2 hc e1 ⟨rfl, hx⟩
    have hx' : x = nV c := by
      rw [List.getElem?_map, hc] at hx
      exact (Option.some.inj hx).symm
    subst hx'
    have hs := (S.mem_seenL).mp (List.mem_of_getElem? hc)
    obtain ⟨h1, h2, _⟩ := hs
    have hst : S.st[c]? = some (S.starAt c) := by
      unfold Sk.starAt
      rw [List.getElem?_eq_getElem h1, List.getD_eq_getElem?_getD, List.getElem?_eq_getElem h1]
      rfl
    obtain ⟨y, hy, ⟨ps, rfl, hps⟩⟩ := hS.sts.at hst
    refine ⟨Ex.refl _, rfl, ev_var rfl, ?_⟩
    refine (evp_call (ea_cons (ev_var rfl) (ea_cons (ev_var rfl) (ea_cons (ev_op (ev_sky (ev_var rfl) (hS.up e1)) (ev_var rfl) (rv_tup (hS.up e1).st (atI_nth hy))) ea_nil))) (use_offset (S := S) (a := a) (s := S.starAt c) ⟨p, sa, ca, xs, rfl, hS.up e1⟩ ⟨pa, rfl, e1 _ _ ha⟩ ⟨ps, rfl, e1 _ _ hps⟩ hok.pos)).imp fun v H3 e3 r => ?_
    unfold Offs at r
    have h2' : far (offs S.n a (S.starAt c)) ≤ S.cam.r + S.cam.b := h2
    rw [if_pos h2'] at r
    exact r
  · obtain ⟨d, kvs, rfl, hd0, hd, hdl⟩ := r
    refine s_retP (R := SightF S a H) (fun H2 e2 Q' q => ?_) fun v H2 e2 r => k v H2 (e.trans e2) r
    have e' := e.trans e2
    refine ⟨V.ref d, rfl, ?_⟩
    have e3 := Ex.refl H2
    refine evp_call (by walk_at "ea") (use_sure (S := S) (a := a) ⟨p, sa, ca, xs, rfl, hS.up (e'.trans e3)⟩ ⟨pa, rfl, (e'.trans e3) _ _ ha⟩ hok hat) H2 (Ex.refl H2) _ fun v H4 e4 r => ?_
    obtain ⟨s, rfl, hs⟩ := r
    refine ⟨Nat.le_of_ble_eq_true rfl, fun T hT => ?_⟩
    have e5 : Ex H4 (upd H4 T (.tup [.ref d, .ref s])) := Ex.new hT
    have e25 := ((e2.trans e3).trans e4).trans e5
    exact q _ _ ((e3.trans e4).trans e5) ⟨T, d, s, kvs, rfl, hd0, upd_same, e25 _ _ hd, hdl.up (im_off S a) e25, e5 _ _ hs⟩
theorem use_sight {C : Addr} {S : Sk} {a : Att} {v1 v2 : V} {H : Hp} (hS : SkyAt C S v1 H) (ha : T3 a v2 H) (hok : SkOk S) (hat : AttOk S.n a) : SpP (spSight C) [v1, v2] H (SightF S a H) :=
  spg' fun H1 e => ⟨_, ⟨S, a, v1, v2, rfl, hS.up e, ha.up e, hok, hat, rfl⟩, fun v H2 e2 r => r.back e⟩
/-! ### link_table -/
def linkT (S : Sk) (a b : Att) (r : Nat) : List Nat := if r ∈ S.seenL a then (S.seenL b).filter fun c => decide (S.nearBy a b r c) else []
theorem linkT_iff {S : Sk} {a b : Att} {r c : Nat} : tabL (linkT S a b) r c ↔ S.link a b r c := by
  unfold tabL linkT Sk.link
  by_cases h : r ∈ S.seenL a
  · rw [if_pos h, List.mem_filter, decide_eq_true_eq, S.mem_seenL]
    exact ⟨fun q => ⟨(S.mem_seenL).mp h, q⟩, fun q => q.2⟩
  · rw [if_neg h]
    exact ⟨(fun q => by cases q), fun q => absurd ((S.mem_seenL).mpr q.1) h⟩
/-- a table of new lists -/
structure Tabs (H0 : Hp) (T : Nat → List Nat) (n t : Nat) (qs : List Nat) (H : Hp) : Prop where
  tb : H t = some (.lst (qs.map V.ref))
  len : qs.length = n
  nd : qs.Nodup
  nt : t ∉ qs
  t0 : H0 t = none
  q0 : ∀ q ∈ qs, H0 q = none
  row : ∀ (r q : Nat), qs[r]? = some q → H q = some (.lst ((T r).map nV))
theorem Tabs.tab {H0 : Hp} {T : Nat → List Nat} {n t : Nat} {qs : List Nat} {H : Hp} (h : Tabs H0 T n t qs H) : Tab T n t H :=
  ⟨qs.map V.ref, h.tb, by rw [List.length_map, h.len], fun r hr => ⟨qs[r]'(by rw [h.len]; exact hr), by rw [List.getElem?_map, List.getElem?_eq_getElem (by rw [h.len]; exact hr)] <;> rfl, h.row r _ (List.getElem?_eq_getElem _)⟩⟩
def Lsts (H H' : Hp) : Prop := ∀ (x : Addr) (l : List V), H x = some (.lst l) → H' x = some (.lst l)
theorem Lsts.of {H H' : Hp} (e : Ex H H') : Lsts H H' := fun x l h => e x _ h
theorem Lsts.upd {H : Hp} {D : Addr} {o o' : HO} (h : H D = some o) (hn : ∀ xs, o ≠ .lst xs) : Lsts H (upd H D o') := fun a xs e => by
  rw [upd_ne (fun z => by
    rw [z, h] at e
    exact hn xs (Option.some.inj e))]
  exact e
theorem Tabs.lsts {H0 : Hp} {T : Nat → List Nat} {n t : Nat} {qs : List Nat} {H H' : Hp} (e : Lsts H H') (h : Tabs H0 T n t qs H) : Tabs H0 T n t qs H' := ⟨e _ _ h.tb, h.len, h.nd, h.nt, h.t0, h.q0, fun r q hq => e _ _ (h.row r q hq)⟩
theorem Tabs.ext {H0 : Hp} {T T' : Nat → List Nat} {n t : Nat} {qs : List Nat} {H : Hp} (e : ∀ r, r < n → T' r = T r) (h : Tabs H0 T n t qs H) : Tabs H0 T' n t qs H := ⟨h.tb, h.len, h.nd, h.nt, h.t0, h.q0, fun r q hq => by
  rw [e r (by rw [← h.len]; exact (List.getElem?_eq_some_iff.mp hq).1)]
  exact h.row r q hq⟩
theorem Tabs.put {H0 : Hp} {T : Nat → List Nat} {n t : Nat} {qs : List Nat} {H : Hp} {r q : Nat} {l : List Nat} (h : Tabs H0 T n t qs H) (hq : qs[r]? = some q) : Tabs H0 (fun x => if x = r then l else T x) n t qs (L2.upd H q (.lst (l.map nV))) := by
  have hm := List.mem_of_getElem? hq
  refine ⟨?_, h.len, h.nd, h.nt, h.t0, h.q0, fun r' q' hq' => ?_⟩
  · rw [upd_ne (fun z : t = q => h.nt (by rw [z]; exact hm))]
    exact h.tb
  · by_cases c : r' = r
    · rw [c, hq] at hq'
      cases hq'
      rw [upd_same, if_pos c]
    · rw [if_neg c]
      have : q' ≠ q := fun z => by
        rw [z] at hq'
        exact c ((List.getElem?_inj (List.getElem?_eq_some_iff.mp hq').1 h.nd).mp (hq'.trans hq.symm))
      rw [upd_ne this]
      exact h.row r' q' hq'
theorem DictL.item {R : Nat → PH} {cs : List Nat} {kvs : List (Key × V)} {H : Hp} (h : DictL R cs kvs H) {i : Nat} {kx vx : V} (hi : i < kvs.length) (hk : kvs[i]?.map (fun kv : Key × V => kV kv.1) = some kx) (hv : kvs[i]?.map Prod.snd = some vx) : ∃ c, cs[i]? = some c ∧ kx = nV c ∧ R c vx H := by
  have hki : kvs[i]? = some kvs[i] := List.getElem?_eq_getElem hi
  rw [hki] at hk hv
  obtain ⟨c, hc, hkey, hR⟩ := h.2 i kvs[i] hki
  refine ⟨c, hc, ?_, ?_⟩
  · have := Option.some.inj hk
    rw [← this]
    show kV kvs[i].1 = nV c
    rw [hkey]
    rfl
  · have := Option.some.inj hv
    rw [← this]
    exact hR
/-- [[] for _ in ..] -/
theorem ev_lcNew {J : It} {n : Nat} {G : Hp → Prop} {Y : Nat → Hp → V → Hp → Prop} {wi : TI} {σ : St} {H : Hp} {j : Nat} {vs : List Nat} (hw : Walks1 wi σ H J) (w : Walk J n G Y) (hG : ∀ H1, Ex H H1 → G H1) (hn : n ≤ 50000)
    (turn : ∀ i x H1 H2, i < n → Ex H H1 → Y i H1 x H2 → Ex H1 H2 ∧ wipe ((wipe σ vs).set j (some x)) vs = wipe σ vs) :
    EvP (tLc wi (gName j) tYes (tLst tNil) vs) σ H (fun v H' => ∃ t qs, v = .ref t ∧ Tabs H (fun _ => []) n t qs H') := fun H1 e1 Q q => hw H1 e1 _ fun H2 e2 D hD => by
  have hD0 : H D = none := fresh_back (e1.trans e2) hD
  refine lc_it w (fun i H' => Ex H2 H' ∧ ∃ qs, Tabs H (fun _ => []) i D qs H') ⟨Ex.new hD, [], upd_same, rfl, List.nodup_nil, nofun, hD0, nofun, (fun r q h => by cases h)⟩ (fun i H' _ p => hG H' ((e1.trans e2).trans p.1)) ?_ ?_
  · rintro i x H' H3 hi ⟨e3, qs, hT⟩ hY
    obtain ⟨e4, hwp⟩ := turn i x H' H3 hi ((e1.trans e2).trans e3) hY
    refine ⟨hwp, ?_⟩
    unfold tYes
    refine iteT ?_
    refine ⟨sz_of (Nat.zero_le _), fun p hp => ?_⟩
    have e5 : Ex H3 (upd H3 p (.lst [])) := Ex.new hp
    have hp0 : H p = none := fresh_back (((e1.trans e2).trans e3).trans e4) hp
    have e45 := e4.trans e5
    have hpD : p ≠ D := fun z => by
      rw [z, e4 _ _ hT.tb] at hp
      cases hp
    have hpq : p ∉ qs := fun z => by
      obtain ⟨i', h1, h2⟩ := List.mem_iff_getElem.mp z
      have := e4 _ _ (hT.row i' p (by rw [List.getElem?_eq_getElem h1, h2]))
      rw [this] at hp
      cases hp
    refine ⟨_, e45 _ _ hT.tb, sz_lt (by rw [List.length_map, hT.len]; omega), Ex.mut (e3.trans e45) hD, qs ++ [p], ?_, ?_, ?_, ?_, hD0, ?_, ?_⟩
    · rw [upd_same, List.map_append]
      rfl
    · rw [List.length_append, hT.len]
      rfl
    · rw [List.nodup_append]
      exact ⟨hT.nd, List.nodup_cons.mpr ⟨nofun, List.nodup_nil⟩, fun a ha b hb => by rw [List.mem_singleton.mp hb]; exact fun z => hpq (z ▸ ha)⟩
    · intro z
      rcases List.mem_append.mp z with z | z
      · exact hT.nt z
      · exact hpD (List.mem_singleton.mp z).symm
    · intro b hb
      rcases List.mem_append.mp hb with z | z
      · exact hT.q0 b z
      · rw [List.mem_singleton.mp z]
        exact hp0
    · intro r b hb
      have hm := List.mem_of_getElem? hb
      have nb : b ≠ D := fun z => by
        rw [z] at hm
        rcases List.mem_append.mp hm with z | z
        · exact hT.nt z
        · exact hpD (List.mem_singleton.mp z).symm
      rw [upd_ne nb]
      by_cases c : r < qs.length
      · rw [List.getElem?_append_left c] at hb
        exact e45 _ _ (hT.row r b hb)
      · rw [List.getElem?_append_right (by omega)] at hb
        have ci : r - qs.length = 0 := by
          have := (List.getElem?_eq_some_iff.mp hb).1
          simp at this
          omega
        rw [ci] at hb
        have e : p = b := Option.some.inj hb
        rw [← e, upd_same]
        rfl
  · rintro H' ⟨e3, qs, hT⟩
    exact q _ _ (e2.trans e3) ⟨D, qs, rfl, hT⟩
theorem g_pair {K : PySem.W.Frag} {σ : St} {H : Hp} {n m i j l : Nat} {a b : Addr} {x y z : V} {Q : St → Hp → Prop} (h : H a = some (.tup [x, .ref b])) (h2 : H b = some (.tup [y, z])) (k : Q (((σ.set i (some x)).set j (some y)).set l (some z)) H) (hn : 2 = n := by rfl) (hm : 2 = m := by rfl) :
    gTup K n (gCons (gName i) (gCons (gTup K m (gCons (gName j) (gCons (gName l) gNil))) gNil)) (.ref a) σ H Q :=
  ⟨a, [x, .ref b], rfl, st_of h, hn, x, [.ref b], rfl, .ref b, [], rfl, b, [y, z], rfl, st_of h2, hm, y, [z], rfl, z, [], rfl, rfl, rfl, k⟩
def spLinks (C : Addr) : Sp := SpG 3 fun vs H R => ∃ S a b v1 p1 d1 s1 k1 p2 d2 s2 k2, vs = [v1, .ref p1, .ref p2] ∧ SkyAt C S v1 H ∧ SightA S a p1 d1 s1 k1 H ∧ SightA S b p2 d2 s2 k2 H ∧ d1 ≠ d2 ∧ SkOk S ∧ R = fun v H' => ∃ t, v = .ref t ∧ Tab (linkT S a b) S.st.length t H'
abbrev s_link_table : Stmt := top 30
abbrev N_link_table : List PySem.Str := ["sky", "here", "there", "room", "shine", "stars", "table", "_", "one", "x", "y", "other", "across", "up"]
theorem sc_link_table : FnScope N_link_table ["sky", "here", "there"] (defScope s_link_table) := ⟨rfl, rfl, rfl, by decide +kernel, rfl, by decide +kernel, by decide +kernel⟩
theorem ok_link_table {C : Addr} (B : Bl mg) (P_stars : KnP P w K mg base C "stars" (prStars C)) (P_blur : KnP P w K mg base C "blur" (prBlur C)) (P_glare : KnP P w K mg base C "glare" (prGlare C)) (D : Df K mg "link_table" s_link_table) : Kn P w K mg base "link_table" 3 ["sky", "here", "there"] (spLinks C) := by
  obtain ⟨f, fd, F, hm⟩ := D
  refine kn_mk F hm (F.binds (ps := ["sky", "here", "there"]) fun _ _ _ _ _ _ us hl => match us, hl with | [_, _, _], _ => rfl) ?_
  refine F.ok sc_link_table (fun vs H Q E h => h.1) (fun cdv A outer s H vs Q E hr h => ?_)
  have hu := hu_of hr
  have nd := sc_link_table.nd
  obtain ⟨_, R, ⟨S, a, b, v1, p1, d1, s1, k1, p2, d2, s2, k2, rfl, ⟨p, sa, ca, xs, rfl, hS⟩, h1, h2, hne, hok, rfl⟩, k⟩ := h
  refine ⟨_, (pss_cons (ps_par3 (i := 3) (j := 4) (l := 5) rfl nd rfl rfl rfl (by decide) (by decide) (by decide) rfl rfl rfl (pa_cons (pe_op op_mul pe_int (pe_prp P_blur hr (pv 0))) (pa_cons (pe_op op_mul pe_int (pe_prp P_glare hr (pv 0))) (pa_cons (pe_prp P_stars hr (pv 0)) pa_nil))) (by rfl))
      (pss_cons (ps_setLc (i := 6) (own := [("_", 7)]) rfl nd rfl rfl (sw_true rfl rfl rfl (by decide +kernel)) (pi_tup (pv 5)) (blkOk_by (N := N_link_table) (sc := defScope s_link_table) (by decide +kernel)) (fun _ _ _ _ _ => (pg_name (i := 7) nd rfl (by first | exact Or.inl rfl | exact Or.inr rfl))) (fun _ _ _ _ _ => pts_nil) (fun _ _ _ _ _ => (pe_lst pa_nil)))
      (pss_cons (ps_lock (ps_for PassesOwn.never rfl (pi_items (pe_ix ix_tup (pv 1) pe_int (fun _ _ => rfl))) (pg_tup rfl (pgs_cons (pg_name (i := 8) nd rfl (by first | exact Or.inl rfl | exact Or.inr rfl)) (pgs_cons (pg_tup rfl (pgs_cons (pg_name (i := 9) nd rfl (by first | exact Or.inl rfl | exact Or.inr rfl)) (pgs_cons (pg_name (i := 10) nd rfl (by first | exact Or.inl rfl | exact Or.inr rfl)) pgs_nil))) pgs_nil)))
      (pss_one (ps_lock (ps_for PassesOwn.never rfl (pi_items (pe_ix ix_tup (pv 2) pe_int (fun _ _ => rfl))) (pg_tup rfl (pgs_cons (pg_name (i := 11) nd rfl (by first | exact Or.inl rfl | exact Or.inr rfl)) (pgs_cons (pg_tup rfl (pgs_cons (pg_name (i := 12) nd rfl (by first | exact Or.inl rfl | exact Or.inr rfl)) (pgs_cons (pg_name (i := 13) nd rfl (by first | exact Or.inl rfl | exact Or.inr rfl)) pgs_nil))) pgs_nil)))
      (pss_one (ps_if (PW.pt (pw_and (pt_cmpR op_le (pe_callB call_abs (by rfl) B.abs (by decide +kernel) (pa_cons (pe_op op_sub (pv 9) (pv 12)) pa_nil)) (pv 3) (nomark _)) (pw_and (pt_cmpR op_le (pe_callB call_abs (by rfl) B.abs (by decide +kernel) (pa_cons (pe_op op_sub (pv 10) (pv 13)) pa_nil)) (pv 3) (nomark _)) (pw_and1 (pt_cmpR op_le (pe_callB call_abs (by rfl) B.abs (by decide +kernel) (pa_cons (pe_op op_sub (pe_ix ix_tup (pe_ix ix_tup (pv 5) (pv 8) (fun _ _ => rfl)) pe_int (fun _ _ => rfl)) (pe_ix ix_tup (pe_ix ix_tup (pv 5) (pv 11) (fun _ _ => rfl)) pe_int (fun _ _ => rfl))) pa_nil)) (pv 4) (nomark _)))))) (pss_one (ps_expr (pe_bm PySem.F.plainAttrs_list PySem.F.slot_list_append PySem.F.type_list_append mt_append (pe_ix ix_list (pv 6) (pv 8) (fun _ _ => rfl)) (pa_cons (pv 11) pa_nil)))) pss_nil)))))))
      (pss_one (ps_ret (pv 6)))))), ?_⟩
  have hlen := hok.2.2.1
  obtain ⟨b0, b2, g0, g2⟩ : 0 ≤ S.cam.b ∧ S.cam.b ≤ 2 ∧ 0 ≤ S.cam.g ∧ S.cam.g ≤ 2 := ⟨hok.2.1.2.2.1, hok.2.1.2.2.2.1, hok.2.1.2.2.2.2.1, hok.2.1.2.2.2.2.2.1⟩
  refine q_par3 (by walk_at "ea") fun H1 e1 => ?_
  refine q_asgP (ev_lcNew (G := fun H => SqT K H sa xs) (Y := YAt xs) (walks_tup (ev_var rfl) (hS.up e1).st) walk_tup (fun H2 e2 => st_of (hS.up (e1.trans e2)).st) (by rw [hS.sts.1]; omega) ?_) fun v H2 e2 r => ?_
  · rintro i x H2 H3 _ _ ⟨rfl, _⟩
    exact ⟨Ex.refl _, rfl⟩
  obtain ⟨t, qs, rfl, hT⟩ := r
  have e12 := e1.trans e2
  have h1' := h1.up e12
  have h2' := h2.up e12
  have hS' := hS.up e12
  have hl1 : k1.length = (S.seenL a).length := h1.dl.1
  have hl2 : k2.length = (S.seenL b).length := h2.dl.1
  have qlen := hT.len
  -- for one, (x, y) in here[0].items()
  refine ⟨d1, .dK k1, h1'.di, trivial, fun od1 => ?_⟩
  have t3 : Tups H2 (upd H2 d1 (.frz od1 (.dK k1))) := Tups.upd h1'.di fun _ z => by cases z
  refine cps (σ := _) (v := .ref d1) (ev_op (ev_var rfl) ev_c (rv_tup (t3 _ _ h1'.tp) rfl)) fun H3 e3 => ?_
  have f3 : Fr2 d1 d2 H1 H3 := fun x o hx n1 n2 => e3 _ _ (by rw [upd_ne n1]; exact e2 _ _ hx)
  have hT3 : Tabs H1 (fun _ => []) xs.length t qs H3 := hT.lsts fun x l hx => e3 _ _ ((Lsts.upd h1'.di fun _ z => by cases z) x l hx)
  refine ⟨d1, od1, k1, rfl, e3 _ _ upd_same, for_it (walk_items (kvs := k1)) (fun i σ' H' => (∃ u7 u8 u9 u10 u11 u12 u13, σ' = [some (.ref p), some (.ref p1), some (.ref p2), some (.int (2 * S.cam.b)), some (.int (2 * S.cam.g)), some (.ref sa), some (.ref t), u7, u8, u9, u10, u11, u12, u13]) ∧
    Fr2 d1 d2 H1 H' ∧ H' d1 = some (.frz od1 (.dK k1)) ∧ H' d2 = some (.dK k2) ∧ Tabs H1 (fun r => if r ∈ (S.seenL a).take i then linkT S a b r else []) xs.length t qs H') ?_ (fun i σ' H' _ q => q.2.2.1) ?_ ?_⟩
  · refine ⟨⟨_, _, _, _, _, _, _, rfl⟩, f3, e3 _ _ upd_same, e3 _ _ (by rw [upd_ne hne.symm]; exact h2'.di), hT3.ext fun r _ => ?_⟩
    rw [if_neg (by rw [List.take_zero]; exact nofun)]
  · rintro i x σ' H4 H5 hi ⟨⟨u7, u8, u9, u10, u11, u12, u13, rfl⟩, f4, hd1, hd2, hT4⟩ ⟨T, kx, vx, rfl, hT0, rfl, hk, hv⟩
    have e5 : Ex H4 (upd H4 T (.tup [kx, vx])) := Ex.new hT0
    obtain ⟨one, hone, rfl, ⟨po, rfl, hpo2⟩⟩ := h1.dl.item hi hk hv
    have fr : ∀ {x : Addr} {ys : List V}, H1 x = some (.tup ys) → x ≠ d1 ∧ x ≠ d2 := fun hx => ⟨ne_of hx (h1.up e1).di (fun z => nomatch z), ne_of hx (h2.up e1).di (fun z => nomatch z)⟩
    have hpo1 := e1 _ _ hpo2
    have hpo5 := e5 _ _ (f4 _ _ hpo1 (fr hpo1).1 (fr hpo1).2)
    refine g_pair upd_same hpo5 ?_
    have hseen1 := (S.mem_seenL).mp (List.mem_of_getElem? hone)
    have hlt1 : one < qs.length := by
      rw [qlen, hS.sts.1]
      exact hseen1.1
    obtain ⟨q1, hq1⟩ : ∃ q, qs[one]? = some q := ⟨_, List.getElem?_eq_getElem hlt1⟩
    have hfresh : one ∉ (S.seenL a).take i := fun z => by
      have h2 : ((S.seenL a).take (i + 1)).Nodup := (S.seenL_nd a).sublist (List.take_sublist _ _)
      rw [take_snoc hone] at h2
      exact absurd rfl ((List.nodup_append.mp h2).2.2 one z one (List.mem_singleton.mpr rfl))
    -- for other, (across, up) in there[0].items()
    generalize hT5g : (upd H4 T (.tup [nV one, .ref po])) = H5 at e5 hpo5
    have hd15 := e5 _ _ hd1
    have hd25 := e5 _ _ hd2
    have hT5 := hT4.lsts (.of e5)
    have f5 : Fr2 d1 d2 H1 H5 := f4.trans (.of e5)
    clear hT5g
    refine ⟨d2, .dK k2, hd25, trivial, fun od2 => ?_⟩
    have t6 : Tups H5 (upd H5 d2 (.frz od2 (.dK k2))) := Tups.upd hd25 fun _ z => by cases z
    have hp21 := e1 _ _ h2.tp
    have hp25 := f5 _ _ hp21 (fr hp21).1 (fr hp21).2
    refine cps (σ := _) (v := .ref d2) (ev_op (ev_var rfl) ev_c (rv_tup (t6 _ _ hp25) rfl)) fun H6 e6 => ?_
    have f6 : Fr2 d1 d2 H1 H6 := f5.b.trans (.of e6)
    have hT6 := hT5.lsts fun x l hx => e6 _ _ ((Lsts.upd hd25 fun _ z => by cases z) x l hx)
    refine ⟨d2, od2, k2, rfl, e6 _ _ upd_same, for_it (walk_items (kvs := k2)) (fun j σ' H' => (∃ u7 u11 u12 u13, σ' = [some (.ref p), some (.ref p1), some (.ref p2), some (.int (2 * S.cam.b)), some (.int (2 * S.cam.g)), some (.ref sa), some (.ref t), u7, some (nV one), some (.int (S.off a one).1), some (.int (S.off a one).2), u11, u12, u13]) ∧
      Fr2 d1 d2 H1 H' ∧ H' d1 = some (.frz od1 (.dK k1)) ∧ H' d2 = some (.frz od2 (.dK k2)) ∧ Tabs H1 (fun r => if r = one then ((S.seenL b).take j).filter (fun c => decide (S.nearBy a b one c)) else if r ∈ (S.seenL a).take i then linkT S a b r else []) xs.length t qs H') ?_ (fun i σ' H' _ q => q.2.2.2.1) ?_ ?_⟩
    · refine ⟨⟨_, _, _, _, rfl⟩, f6, e6 _ _ (by rw [upd_ne hne]; exact hd15), e6 _ _ upd_same, hT6.ext fun r _ => ?_⟩
      by_cases c : r = one
      · rw [if_pos c, c, if_neg hfresh, List.take_zero]
        rfl
      · rw [if_neg c]
    · rintro j x σ' H7 H8 hj ⟨⟨u7, u11, u12, u13, rfl⟩, f7, hd17, hd27, hT7⟩ ⟨T', ky, vy, rfl, hT0', rfl, hk', hv'⟩
      have e8 : Ex H7 (upd H7 T' (.tup [ky, vy])) := Ex.new hT0'
      obtain ⟨other, hother, rfl, ⟨pq, rfl, hpq⟩⟩ := h2.dl.item hj hk' hv'
      have hpq1 := e1 _ _ hpq
      have hpq8 := e8 _ _ (f7 _ _ hpq1 (fr hpq1).1 (fr hpq1).2)
      refine g_pair upd_same hpq8 ?_
      generalize hH8 : (upd H7 T' (.tup [nV other, .ref pq])) = H8 at e8 hpq8
      clear hH8
      have f8 := f7.trans (.of e8)
      have hT8 := hT7.lsts (.of e8)
      have hseen2 := (S.mem_seenL).mp (List.mem_of_getElem? hother)
      have star : ∀ c, c < S.st.length → ∃ y ps, xs[c]? = some y ∧ y = .ref ps ∧ H8 ps = some (.tup [.int (S.starAt c).1, .int (S.starAt c).2.1, .int (S.starAt c).2.2]) := fun c hc => by
        have hst : S.st[c]? = some (S.starAt c) := by
          unfold Sk.starAt
          rw [List.getElem?_eq_getElem hc, List.getD_eq_getElem?_getD, List.getElem?_eq_getElem hc]
          rfl
        obtain ⟨y, hy, ⟨ps, hps, hps2⟩⟩ := hS.sts.at hst
        have h3 := e1 _ _ hps2
        exact ⟨y, ps, hy, hps, f8 _ _ h3 (fr h3).1 (fr h3).2⟩
      obtain ⟨_, ps1, hy1, rfl, hps1⟩ := star one hseen1.1
      obtain ⟨_, ps2, hy2, rfl, hps2⟩ := star other hseen2.1
      have hsa1 := (hS.up e1).st
      have hsa8 := f8 _ _ hsa1 (fr hsa1).1 (fr hsa1).2
      have hrow := hT8.row one q1 hq1
      rw [if_pos rfl] at hrow
      have e1s : ((S.seenL b).take (j + 1)).filter (fun c => decide (S.nearBy a b one c)) = ((S.seenL b).take j).filter (fun c => decide (S.nearBy a b one c)) ++ if S.nearBy a b one other then [other] else [] := by
        rw [take_snoc hother, List.filter_append, List.filter_cons]
        by_cases c : S.nearBy a b one other
        · rw [if_pos (decide_eq_true c), if_pos c]
          rfl
        · rw [if_neg (by simpa using c), if_neg c]
          rfl
      refine s_if (b := decide (S.nearBy a b one other)) ?_ (fun hb H9 e9 => ?_) (fun hb H9 e9 => ?_)
      · refine et_is (a := (decide (iabs ((S.off a one).1 - (S.off b other).1) ≤ 2 * S.cam.b) && (decide (iabs ((S.off a one).2 - (S.off b other).2) ≤ 2 * S.cam.b) && decide (iabs ((S.starAt one).2.2 - (S.starAt other).2.2) ≤ 2 * S.cam.g)))) ?_ ?_
        · refine et_and (by walk_at "et") fun _ => et_and (by walk_at "et") fun _ => ?_
          exact et_test (ev_op (ev_abs (ev_op (ev_op (ev_op (ev_var rfl) (ev_var rfl) (rv_tup hsa8 (atI_nth hy1))) ev_c (rv_tup hps1 rfl)) (ev_op (ev_op (ev_var rfl) (ev_var rfl) (rv_tup hsa8 (atI_nth hy2))) ev_c (rv_tup hps2 rfl)) rv_I0)) (ev_var rfl) rv_I0)
        · rw [Bool.eq_iff_iff, decide_eq_true_eq, Bool.and_eq_true, Bool.and_eq_true, decide_eq_true_eq, decide_eq_true_eq, decide_eq_true_eq]
          exact Iff.rfl
      · have c := of_decide_eq_true hb
        refine s_app (e9 _ _ hrow) (ev_op (ev_var rfl) (ev_var rfl) (rv_lst (e9 _ _ hT8.tb) (atI_nth (by rw [List.getElem?_map, hq1] <;> rfl)))) (ev_var rfl) (by
          rw [List.length_map]
          refine Nat.lt_of_le_of_lt (List.length_filter_le _ _) ?_
          rw [List.length_take]
          have := rf_len (fun i => decide (S.seen b i)) S.st.length
          unfold Sk.seenL
          omega) fun H10 e10 => ?_
        have e910 := e9.trans e10
        have q1m := List.mem_of_getElem? hq1
        have q10 := hT.q0 q1 q1m
        have hrow10 := e910 _ _ hrow
        have hq1d1 : d1 ≠ q1 := fun z => by
          rw [← z, (h1.up e1).di] at q10
          cases q10
        have hq1d2 : d2 ≠ q1 := fun z => by
          rw [← z, (h2.up e1).di] at q10
          cases q10
        refine ⟨⟨_, _, _, _, rfl⟩, fun x o hx n1 n2 => ?_, ?_, ?_, ?_⟩
        · rw [upd_ne (fun z => by rw [z, q10] at hx; cases hx)]
          exact e910 _ _ (f8 x o hx n1 n2)
        · rw [upd_ne hq1d1]
          exact e910 _ _ (e8 _ _ hd17)
        · rw [upd_ne hq1d2]
          exact e910 _ _ (e8 _ _ hd27)
        · have tp := (hT8.lsts (.of e910)).put (l := ((S.seenL b).take (j + 1)).filter (fun c => decide (S.nearBy a b one c))) hq1
          rw [e1s, if_pos c, List.map_append] at tp
          refine tp.ext fun r _ => ?_
          rw [e1s, if_pos c]
          by_cases cr : r = one
          · rw [if_pos cr, if_pos cr]
          · rw [if_neg cr, if_neg cr, if_neg cr]
      · have c := of_decide_eq_false hb
        refine ⟨⟨_, _, _, _, rfl⟩, f8.trans (.of e9), e9 _ _ (e8 _ _ hd17), e9 _ _ (e8 _ _ hd27), (hT8.lsts (.of e9)).ext fun r _ => ?_⟩
        rw [e1s, if_neg c, List.append_nil]
    · rintro σ' H' ⟨⟨u7, u11, u12, u13, rfl⟩, f7, hd17, hd27, hT7⟩
      refine ⟨hd27, ⟨_, _, _, _, _, _, _, rfl⟩, f7.b, by rw [upd_ne hne]; exact hd17, upd_same, (hT7.lsts (Lsts.upd hd27 fun _ z => by cases z)).ext fun r _ => ?_⟩
      rw [take_snoc hone, hl2, List.take_length]
      by_cases c : r = one
      · rw [if_pos c, c, if_pos (List.mem_append_right _ (List.mem_singleton.mpr rfl))]
        unfold linkT
        rw [if_pos (List.mem_of_getElem? hone)]
      · rw [if_neg c]
        by_cases c2 : r ∈ (S.seenL a).take i
        · rw [if_pos c2, if_pos (List.mem_append_left _ c2)]
        · rw [if_neg c2, if_neg (fun z => by
            rcases List.mem_append.mp z with z | z
            · exact c2 z
            · exact c (List.mem_singleton.mp z))]
  · rintro σ' H' ⟨⟨u7, u8, u9, u10, u11, u12, u13, rfl⟩, f4, hd1, hd2, hT4⟩
    refine ⟨hd1, ?_⟩
    have e5 : Ex H1 (upd H' d1 (.dK k1)) := fun x o hx => by
      by_cases c : x = d1
      · subst c
        rw [upd_same, ← (h1.up e1).di]
        exact hx
      · rw [upd_ne c]
        by_cases c2 : x = d2
        · subst c2
          rw [hd2, ← (h2.up e1).di]
          exact hx
        · exact f4 x o hx c c2
    have hT5 : Tabs H1 (linkT S a b) xs.length t qs (upd H' d1 (.dK k1)) := (hT4.lsts (Lsts.upd hd1 fun _ z => by cases z)).ext fun r _ => by
      rw [hl1, List.take_length]
      by_cases c : r ∈ S.seenL a
      · rw [if_pos c]
      · rw [if_neg c]
        unfold linkT
        rw [if_neg c]
    refine s_ret (ev_var rfl) fun H6 e6 => k _ H6 ((e1.trans e5).trans e6) ⟨t, rfl, ?_⟩
    rw [← hS.sts.1]
    exact hT5.tab.up e6
theorem use_links {C : Addr} {S : Sk} {a b : Att} {v1 : V} {p1 d1 s1 p2 d2 s2 : Addr} {k1 k2 : List (Key × V)} {H : Hp} (hS : SkyAt C S v1 H) (h1 : SightA S a p1 d1 s1 k1 H) (h2 : SightA S b p2 d2 s2 k2 H) (hne : d1 ≠ d2) (hok : SkOk S) :
    SpP (spLinks C) [v1, .ref p1, .ref p2] H (fun v H' => ∃ t, v = .ref t ∧ Tab (linkT S a b) S.st.length t H') := spg fun _ e => ⟨S, a, b, v1, p1, d1, s1, k1, p2, d2, s2, k2, rfl, hS.up e, h1.up e, h2.up e, hne, hok, rfl⟩
end
end K77
end

section
set_option maxRecDepth 100000
set_option maxHeartbeats 4000000
namespace K77
open PySem L2 Evl
local macro_rules | `(tactic| walk_at "at") => `(tactic| first | assumption | exact Ex.get (by assumption) (by assumption))
local macro_rules | `(tactic| walk_at "sk") => `(tactic| first | assumption | exact SkyA.up (by assumption) (by assumption))
local macro_rules | `(tactic| walk_at "rv") => `(tactic| first
  | with_reducible exact rv_I0
  | with_reducible exact rv_isN
  | with_reducible exact rv_notN
  | (with_reducible show RV (rI (fun _ j => 0 < j) fun i j => .int (i % j)) _ _ _ _; exact rv_mod (by first | assumption | omega))
  | (with_reducible show RV (rI CMul _) _ _ _ _; exact rv_mul (by first | exact mul_l (by omega) | exact mul_r (by omega)))
  | (with_reducible show RV (rI CDiv _) _ _ _ _; exact rv_fdiv (div_ok (by omega)))
  | (with_reducible show RV (rIxT _) _ _ _ _; exact rv_tup (by walk_at "at") rfl)
  | (with_reducible show RV rEq _ _ _ _; exact rv_eq rfl)
  | (with_reducible show RV rNe _ _ _ _; exact rv_ne rfl))
local macro_rules | `(tactic| walk_at "ev") => `(tactic| first
  | (with_reducible show Ev (tVar _) _ _ _; exact ev_var rfl)
  | (with_reducible show Ev (tC _) _ _ _; exact ev_c)
  | (with_reducible show Ev (tOp _ _ _) _ _ _; exact ev_op (by walk_at "ev") (by walk_at "ev") (by walk_at "rv"))
  | (with_reducible show Ev (tProp _ _ _ _ _) _ _ _; exact ev_sky (by walk_at "ev") (by walk_at "sk"))
  | (with_reducible show Ev (tCB rAbs _) _ _ _; exact ev_abs (by walk_at "ev"))
  | (with_reducible show Ev (tCB rMax _) _ _ _; exact ev_max (by walk_at "ev") (by walk_at "ev"))
  | (with_reducible show Ev (tCB rMin _) _ _ _; exact ev_min (by walk_at "ev") (by walk_at "ev"))
  | (with_reducible show Ev (tCB rInt _) _ _ _; exact ev_int (by walk_at "ev"))
  | (with_reducible show Ev (tCB rInt _) _ _ _; exact ev_intB (by walk_at "ev"))
  | (with_reducible show Ev (tChain _ _ _ _ _) _ _ _; exact ev_chain (by walk_at "ev") (by walk_at "ev") (by walk_at "ev"))
  | (with_reducible show Ev (tAndV _ _) _ _ _; exact ev_andV (by walk_at "ev") (fun _ => by walk_at "ev"))
  | (with_reducible show Ev (tOrV _ _) _ _ _; exact ev_orV (by walk_at "ev") (fun _ => by walk_at "ev"))
  | (with_reducible show Ev (tCB (rLenQ _) _) _ _ _; exact ev_lenL (by walk_at "ev") (by walk_at "at"))
  | (with_reducible show Ev (tCB (rLenQ _) _) _ _ _; exact ev_lenT (by walk_at "ev") (by walk_at "at"))
  | (with_reducible show Ev (tUn _ _) _ _ _; exact ev_un (by walk_at "ev") ru_neg))
local macro_rules | `(tactic| walk_at "et") => `(tactic| first
  | (with_reducible show EvT (tTest _) _ _ _; exact et_test (by walk_at "ev"))
  | (with_reducible show EvT (tB _) _ _ _; exact et_B (by walk_at "ev"))
  | (with_reducible show EvT (tNot _) _ _ _; exact et_not (by walk_at "et"))
  | (with_reducible show EvT (tAnd _ _) _ _ _; exact et_and (by walk_at "et") (fun _ => by walk_at "et"))
  | (with_reducible show EvT (tOr _ _) _ _ _; exact et_or (by walk_at "et") (fun _ => by walk_at "et"))
  | exact et_tru (by walk_at "ev") (by walk_at "at"))
local macro_rules | `(tactic| walk_at "ea") => `(tactic| first
  | (with_reducible show EvA tNil _ _ _; exact ea_nil)
  | (with_reducible show EvA (tCons _ _) _ _ _; exact ea_cons (by walk_at "ev") (by walk_at "ea")))
/-! ### arguments, whole numbers and truths of which something is known -/
def EvAP (ta : TA) (σ : St) (H : Hp) (RA : List V → Hp → Prop) : Prop := ∀ H1, Ex H H1 → ∀ Q : List V → Hp → Prop, (∀ vs H2, Ex H1 H2 → RA vs H2 → Q vs H2) → ta σ H1 Q
def IntP (p : Int → Prop) : PH := fun v _ => ∃ i, v = .int i ∧ p i
def BoolP (p : Bool → Prop) : PH := fun v _ => ∃ b, v = .bl b ∧ p b
section
variable {σ : St} {H : Hp} {ta tb te : TE} {tr : TA} {v : V} {R : PH} {RA : List V → Hp → Prop} {sp : Sp} {vs : List V}
theorem EvP.down {H' : Hp} (e : Ex H H') (h : EvP te σ H R) : EvP te σ H' R := h.mono e
theorem eap_cons (h : EvP ta σ H R) (hr : ∀ v H1, Ex H H1 → R v H1 → EvAP tr σ H1 (fun vs => RA (v :: vs))) : EvAP (tCons ta tr) σ H RA := fun H1 e Q q => h H1 e _ fun v H2 e2 r => hr v H2 (e.trans e2) r H2 (Ex.refl H2) _ fun vs H3 e3 r3 => q _ H3 (e2.trans e3) r3
theorem eap_consV (h : Ev ta σ H v) (hr : ∀ H1, Ex H H1 → EvAP tr σ H1 (fun vs => RA (v :: vs))) : EvAP (tCons ta tr) σ H RA := fun H1 e Q q => h H1 e _ fun H2 e2 => hr H2 (e.trans e2) H2 (Ex.refl H2) _ fun vs H3 e3 r3 => q _ H3 (e2.trans e3) r3
theorem eap_of (h : EvA tr σ H vs) (hr : ∀ H1, Ex H H1 → RA vs H1) : EvAP tr σ H RA := fun H1 e Q q => h H1 e _ fun H2 e2 => q _ H2 e2 (hr H2 (e.trans e2))
theorem evp_callP (ha : EvAP tr σ H (fun vs H1 => SpP sp vs H1 R)) : EvP (tCall sp [] E0 tr) σ H R := fun H1 e Q q => ha H1 e _ fun vs H2 e2 hs => by
  show sp (vs ++ []) H2 Q E0
  rw [List.append_nil]
  exact hs H2 (Ex.refl H2) Q (fun v H3 e3 r => q v H3 (e2.trans e3) r) E0
theorem evp_max {p1 p2 : Int → Prop} (h1 : EvP ta σ H (IntP p1)) (h2 : EvP tb σ H (IntP p2)) : EvP (tCB rMax (tCons ta (tCons tb tNil))) σ H (IntP fun k => ∃ i j, p1 i ∧ p2 j ∧ k = imax i j) := fun H1 e Q q =>
  h1 H1 e _ fun v H2 e2 ⟨i, hv, hi⟩ => h2 H2 (e.trans e2) _ fun u H3 e3 ⟨j, hu, hj⟩ => by
    subst hv hu
    exact ⟨i, j, rfl, q _ H3 (e2.trans e3) ⟨_, rfl, i, j, hi, hj, rfl⟩⟩
theorem evp_opI {p1 p2 : Int → Prop} {f : Int → Int → V} (h1 : EvP ta σ H (IntP p1)) (h2 : EvP tb σ H (IntP p2)) : EvP (tOp (rI0 f) ta tb) σ H (fun v _ => ∃ i j, p1 i ∧ p2 j ∧ v = f i j) := fun H1 e Q q =>
  h1 H1 e _ fun v H2 e2 ⟨i, hv, hi⟩ => h2 H2 (e.trans e2) _ fun u H3 e3 ⟨j, hu, hj⟩ => by
    subst hv hu
    exact rv_I0 H3 (Ex.refl H3) _ fun H4 e4 => q _ H4 ((e2.trans e3).trans e4) ⟨i, j, hi, hj, rfl⟩
theorem evp_int {i : Int} (h : Ev te σ H (.int i)) : EvP te σ H (IntP fun k => k = i) := K77.Ev.p h fun _ _ => ⟨i, rfl, rfl⟩
end
section
variable {P : Program} {w : World} {K : PySem.W.Frag} {mg : PySem.Str → Option Value} {base : Heap}
/-! ### lack_by, unlikeness_by, lack, unlikeness, are_confusable -/
def LackV (S : Sk) (a b : Att) : PH := IntP fun i => ∃ k : Nat, S.Lack a b k ∧ i = (k : Int)
theorem tabL_link (S : Sk) (a b : Att) : tabL (linkT S a b) = S.link a b := funext fun _ => funext fun _ => propext linkT_iff
theorem covPre (S : Sk) (a b : Att) (h : S.st.length ≤ 20) : CovPre (linkT S a b) S.st.length (S.sureL a) := by
  refine ⟨by omega, fun r c hc => ?_, fun r hr => ((S.mem_sureL).mp hr).1, S.sureL_nd a⟩
  exact ((linkT_iff).mp hc).2.1.1
theorem most_le {S : Sk} {a b : Att} {ow : List (Nat × Nat)} {D : List Nat} (h : Cover (S.sureL a) (S.link a b) ow D) : ow.length ≤ (S.sureL a).length := by
  have := len_le (ow.map (fun p : Nat × Nat => p.2)) (S.sureL a) h.vals fun r hr => by
    obtain ⟨p, hp, rfl⟩ := List.mem_map.mp hr
    exact h.inr p hp
  rwa [List.length_map] at this
def spLackBy (C : Addr) : Sp := SpG 3 fun vs H R => ∃ S a b v1 p1 d1 s1 k1 p2 d2 s2 k2, vs = [v1, .ref p1, .ref p2] ∧ SkyAt C S v1 H ∧ SightA S a p1 d1 s1 k1 H ∧ SightA S b p2 d2 s2 k2 H ∧ d1 ≠ d2 ∧ SkOk S ∧ R = LackV S a b
abbrev s_lack_by : Stmt := top 31
abbrev N_lack_by : List PySem.Str := ["sky", "here", "there"]
theorem sc_lack_by : FnScope N_lack_by ["sky", "here", "there"] (defScope s_lack_by) := ⟨rfl, rfl, rfl, by decide +kernel, rfl, by decide +kernel, by decide +kernel⟩
theorem ok_lack_by {C : Addr} (B : Bl mg) (G_link_table : Kn P w K mg base "link_table" 3 ["sky", "here", "there"] (spLinks C)) (G_most : Kn P w K mg base "most" 4 ["table", "rows"] spMost) (D : Df K mg "lack_by" s_lack_by) : Kn P w K mg base "lack_by" 5 ["sky", "here", "there"] (spLackBy C) := by
  obtain ⟨f, fd, F, hm⟩ := D
  refine kn_mk F hm (F.binds (ps := ["sky", "here", "there"]) fun _ _ _ _ _ _ us hl => match us, hl with | [_, _, _], _ => rfl) ?_
  refine F.ok sc_lack_by (fun vs H Q E h => h.1) (fun cdv A outer s H vs Q E hr h => ?_)
  have hu := hu_of hr
  have nd := sc_lack_by.nd
  obtain ⟨_, R, ⟨S, a, b, v1, p1, d1, s1, k1, p2, d2, s2, k2, rfl, hS, h1, h2, hne, hok, rfl⟩, k⟩ := h
  refine ⟨_, (pss_cons (ps_if (pt_not (pt_truth (pe_ix ix_tup (pv 1) pe_int (fun _ _ => rfl)) (by intro _; rfl))) (pss_one (ps_ret pe_int)) pss_nil)
      (pss_one (ps_ret (pe_op op_sub (pe_callB call_len_seq (by rfl) B.len (by decide +kernel) (pa_cons (pe_ix ix_tup (pv 1) pe_int (fun _ _ => rfl)) pa_nil)) (pe_own G_most hr (pa_cons (pe_own G_link_table hr (pa_cons (pv 0) (pa_cons (pv 1) (pa_cons (pv 2) pa_nil)))) (pa_cons (pe_ix ix_tup (pv 1) pe_int (fun _ _ => rfl)) pa_nil))))))), ?_⟩
  refine q_when (b := !!((S.sureL a).map nV).isEmpty) (et_not (et_tru (ev_op (ev_var rfl) ev_c (rv_tup h1.tp rfl)) h1.su)) (fun c H1 e => ?_) fun c H1 e => ?_
  · refine s_ret ev_c fun H2 e2 => k _ H2 (e.trans e2) ⟨0, rfl, 0, ?_, rfl⟩
    have hn : S.sureL a = [] := by
      rw [Bool.not_not, List.isEmpty_iff, List.map_eq_nil_iff] at c
      exact c
    unfold Sk.Lack
    rw [hn]
    exact isLack_nil
  · have h1' := h1.up e
    refine s_retP (EvP.imp (R' := LackV S a b) (evp_opI (p2 := fun j => ∃ ow D, Cover (S.sureL a) (S.link a b) ow D ∧ j = (ow.length : Int)) (evp_int (ev_lenL (ev_op (ev_var rfl) ev_c (rv_tup h1'.tp rfl)) h1'.su)) ?_) fun v H2 e2 r => ?_) fun v H2 e2 r => k v H2 (e.trans e2) r
    · refine evp_callP (eap_cons (evp_call (by walk_at "ea") (use_links (hS.up e) h1' (h2.up e) hne hok)) fun v H2 e2 ⟨t, hv, hT⟩ => ?_)
      subst hv
      refine eap_of (ea_cons (ev_op (ev_var rfl) ev_c (rv_tup (h1'.up e2).tp rfl)) ea_nil) fun H3 e3 => fun H4 e4 Q' q => ?_
      refine use_most (hT.up e3) ((h1'.up (e2.trans e3)).su) (covPre S a b hok.2.2.1) H4 e4 Q' fun v H5 e5 ⟨ow, D, hc, hv⟩ => q v H5 e5 ⟨_, hv, ow, D, ?_, rfl⟩
      rw [← tabL_link]
      exact hc
    · obtain ⟨i, j, hi, ⟨ow, D, hc, hj⟩, rfl⟩ := r
      refine ⟨_, rfl, (S.sureL a).length - ow.length, ⟨ow, D, hc, rfl⟩, ?_⟩
      have := most_le hc
      rw [hi, hj, List.length_map]
      omega
theorem use_lackBy {C : Addr} {S : Sk} {a b : Att} {v1 : V} {p1 d1 s1 p2 d2 s2 : Addr} {k1 k2 : List (Key × V)} {H : Hp} (hS : SkyAt C S v1 H) (h1 : SightA S a p1 d1 s1 k1 H) (h2 : SightA S b p2 d2 s2 k2 H) (hne : d1 ≠ d2) (hok : SkOk S) :
    SpP (spLackBy C) [v1, .ref p1, .ref p2] H (LackV S a b) := spg fun _ e => ⟨S, a, b, v1, p1, d1, s1, k1, p2, d2, s2, k2, rfl, hS.up e, h1.up e, h2.up e, hne, hok, rfl⟩
def Sk.Unl (S : Sk) (a b : Att) (k : Nat) : Prop := ∃ i j, S.Lack a b i ∧ S.Lack b a j ∧ k = max i j
def UnlV (S : Sk) (a b : Att) : PH := IntP fun i => ∃ k : Nat, S.Unl a b k ∧ i = (k : Int)
def spUnlBy (C : Addr) : Sp := SpG 3 fun vs H R => ∃ S a b v1 p1 d1 s1 k1 p2 d2 s2 k2, vs = [v1, .ref p1, .ref p2] ∧ SkyAt C S v1 H ∧ SightA S a p1 d1 s1 k1 H ∧ SightA S b p2 d2 s2 k2 H ∧ d1 ≠ d2 ∧ SkOk S ∧ R = UnlV S a b
theorem imax_nat (i j : Nat) : imax (i : Int) (j : Int) = ((max i j : Nat) : Int) := by
  unfold imax
  split <;> omega
abbrev s_unlikeness_by : Stmt := top 32
abbrev N_unlikeness_by : List PySem.Str := ["sky", "here", "there"]
theorem sc_unlikeness_by : FnScope N_unlikeness_by ["sky", "here", "there"] (defScope s_unlikeness_by) := ⟨rfl, rfl, rfl, by decide +kernel, rfl, by decide +kernel, by decide +kernel⟩
theorem ok_unlikeness_by {C : Addr} (B : Bl mg) (G_lack_by : Kn P w K mg base "lack_by" 5 ["sky", "here", "there"] (spLackBy C)) (D : Df K mg "unlikeness_by" s_unlikeness_by) : Kn P w K mg base "unlikeness_by" 6 ["sky", "here", "there"] (spUnlBy C) := by
  obtain ⟨f, fd, F, hm⟩ := D
  refine kn_mk F hm (F.binds (ps := ["sky", "here", "there"]) fun _ _ _ _ _ _ us hl => match us, hl with | [_, _, _], _ => rfl) ?_
  refine F.ok sc_unlikeness_by (fun vs H Q E h => h.1) (fun cdv A outer s H vs Q E hr h => ?_)
  have hu := hu_of hr
  have nd := sc_unlikeness_by.nd
  obtain ⟨_, R, ⟨S, a, b, v1, p1, d1, s1, k1, p2, d2, s2, k2, rfl, hS, h1, h2, hne, hok, rfl⟩, k⟩ := h
  refine ⟨_, (pss_one (ps_ret (pe_callB (call_max2 rfl) (by rfl) B.max (by decide +kernel) (pa_cons (pe_own G_lack_by hr (pa_cons (pv 0) (pa_cons (pv 1) (pa_cons (pv 2) pa_nil)))) (pa_cons (pe_own G_lack_by hr (pa_cons (pv 0) (pa_cons (pv 2) (pa_cons (pv 1) pa_nil)))) pa_nil))))), ?_⟩
  refine s_retP (evp_max (evp_call (by walk_at "ea") (use_lackBy hS h1 h2 hne hok)) (evp_call (by walk_at "ea") (use_lackBy hS h2 h1 hne.symm hok))) fun v H1 e r => k v H1 e ?_
  obtain ⟨_, rfl, _, _, ⟨i, hi, rfl⟩, ⟨j, hj, rfl⟩, rfl⟩ := r
  exact ⟨_, rfl, _, ⟨i, j, hi, hj, rfl⟩, imax_nat i j⟩
theorem use_unlBy {C : Addr} {S : Sk} {a b : Att} {v1 : V} {p1 d1 s1 p2 d2 s2 : Addr} {k1 k2 : List (Key × V)} {H : Hp} (hS : SkyAt C S v1 H) (h1 : SightA S a p1 d1 s1 k1 H) (h2 : SightA S b p2 d2 s2 k2 H) (hne : d1 ≠ d2) (hok : SkOk S) :
    SpP (spUnlBy C) [v1, .ref p1, .ref p2] H (UnlV S a b) := spg fun _ e => ⟨S, a, b, v1, p1, d1, s1, k1, p2, d2, s2, k2, rfl, hS.up e, h1.up e, h2.up e, hne, hok, rfl⟩
def spLack (C : Addr) : Sp := SpG 3 fun vs H R => ∃ S a b v1 v2 v3, vs = [v1, v2, v3] ∧ SkyAt C S v1 H ∧ T3 a v2 H ∧ T3 b v3 H ∧ SkOk S ∧ AttOk S.n a ∧ AttOk S.n b ∧ R = LackV S a b
def spUnl (C : Addr) : Sp := SpG 3 fun vs H R => ∃ S a b v1 v2 v3, vs = [v1, v2, v3] ∧ SkyAt C S v1 H ∧ T3 a v2 H ∧ T3 b v3 H ∧ SkOk S ∧ AttOk S.n a ∧ AttOk S.n b ∧ R = UnlV S a b
abbrev s_lack : Stmt := top 33
abbrev N_lack : List PySem.Str := ["sky", "one", "other"]
theorem sc_lack : FnScope N_lack ["sky", "one", "other"] (defScope s_lack) := ⟨rfl, rfl, rfl, by decide +kernel, rfl, by decide +kernel, by decide +kernel⟩
theorem ok_lack {C : Addr} (G_lack_by : Kn P w K mg base "lack_by" 5 ["sky", "here", "there"] (spLackBy C)) (G_sight : Kn P w K mg base "sight" 6 ["sky", "attitude"] (spSight C)) (D : Df K mg "lack" s_lack) : Kn P w K mg base "lack" 7 ["sky", "one", "other"] (spLack C) := by
  obtain ⟨f, fd, F, hm⟩ := D
  refine kn_mk F hm (F.binds (ps := ["sky", "one", "other"]) fun _ _ _ _ _ _ us hl => match us, hl with | [_, _, _], _ => rfl) ?_
  refine F.ok sc_lack (fun vs H Q E h => h.1) (fun cdv A outer s H vs Q E hr h => ?_)
  have hu := hu_of hr
  have nd := sc_lack.nd
  obtain ⟨_, R, ⟨S, a, b, v1, v2, v3, rfl, hS, ha, hb, hok, hat, hbt, rfl⟩, k⟩ := h
  refine ⟨_, (pss_one (ps_ret (pe_own G_lack_by hr (pa_cons (pv 0) (pa_cons (pe_own G_sight hr (pa_cons (pv 0) (pa_cons (pv 1) pa_nil))) (pa_cons (pe_own G_sight hr (pa_cons (pv 0) (pa_cons (pv 2) pa_nil))) pa_nil)))))), ?_⟩
  refine s_retP (evp_callP (eap_consV (ev_var rfl) fun H1 e1 => eap_cons (evp_call (by walk_at "ea") (use_sight (hS.up e1) (ha.up e1) hok hat)) fun u1 H2 e2 ⟨p1, d1, s1, k1, hu1, hd1, hs1⟩ => eap_cons (evp_call (by walk_at "ea") (use_sight (hS.up (e1.trans e2)) (hb.up (e1.trans e2)) hok hbt)) fun u2 H3 e3 ⟨p2, d2, s2, k2, hu2, hd2, hs2⟩ => eap_of ea_nil fun H4 e4 => ?_)) k
  subst hu1 hu2
  exact use_lackBy (hS.up (((e1.trans e2).trans e3).trans e4)) (hs1.up (e3.trans e4)) (hs2.up e4) (fun z => by
    rw [← z, hs1.di] at hd2
    cases hd2) hok
abbrev s_unlikeness : Stmt := top 34
abbrev N_unlikeness : List PySem.Str := ["sky", "one", "other"]
theorem sc_unlikeness : FnScope N_unlikeness ["sky", "one", "other"] (defScope s_unlikeness) := ⟨rfl, rfl, rfl, by decide +kernel, rfl, by decide +kernel, by decide +kernel⟩
theorem ok_unlikeness {C : Addr} (G_unlikeness_by : Kn P w K mg base "unlikeness_by" 6 ["sky", "here", "there"] (spUnlBy C)) (G_sight : Kn P w K mg base "sight" 6 ["sky", "attitude"] (spSight C)) (D : Df K mg "unlikeness" s_unlikeness) : Kn P w K mg base "unlikeness" 7 ["sky", "one", "other"] (spUnl C) := by
  obtain ⟨f, fd, F, hm⟩ := D
  refine kn_mk F hm (F.binds (ps := ["sky", "one", "other"]) fun _ _ _ _ _ _ us hl => match us, hl with | [_, _, _], _ => rfl) ?_
  refine F.ok sc_unlikeness (fun vs H Q E h => h.1) (fun cdv A outer s H vs Q E hr h => ?_)
  have hu := hu_of hr
  have nd := sc_unlikeness.nd
  obtain ⟨_, R, ⟨S, a, b, v1, v2, v3, rfl, hS, ha, hb, hok, hat, hbt, rfl⟩, k⟩ := h
  refine ⟨_, (pss_one (ps_ret (pe_own G_unlikeness_by hr (pa_cons (pv 0) (pa_cons (pe_own G_sight hr (pa_cons (pv 0) (pa_cons (pv 1) pa_nil))) (pa_cons (pe_own G_sight hr (pa_cons (pv 0) (pa_cons (pv 2) pa_nil))) pa_nil)))))), ?_⟩
  refine s_retP (evp_callP (eap_consV (ev_var rfl) fun H1 e1 => eap_cons (evp_call (by walk_at "ea") (use_sight (hS.up e1) (ha.up e1) hok hat)) fun u1 H2 e2 ⟨p1, d1, s1, k1, hu1, hd1, hs1⟩ => eap_cons (evp_call (by walk_at "ea") (use_sight (hS.up (e1.trans e2)) (hb.up (e1.trans e2)) hok hbt)) fun u2 H3 e3 ⟨p2, d2, s2, k2, hu2, hd2, hs2⟩ => eap_of ea_nil fun H4 e4 => ?_)) k
  subst hu1 hu2
  exact use_unlBy (hS.up (((e1.trans e2).trans e3).trans e4)) (hs1.up (e3.trans e4)) (hs2.up e4) (fun z => by
    rw [← z, hs1.di] at hd2
    cases hd2) hok
theorem use_lack {C : Addr} {S : Sk} {a b : Att} {v1 v2 v3 : V} {H : Hp} (hS : SkyAt C S v1 H) (ha : T3 a v2 H) (hb : T3 b v3 H) (hok : SkOk S) (hat : AttOk S.n a) (hbt : AttOk S.n b) : SpP (spLack C) [v1, v2, v3] H (LackV S a b) :=
  spg fun _ e => ⟨S, a, b, v1, v2, v3, rfl, hS.up e, ha.up e, hb.up e, hok, hat, hbt, rfl⟩
theorem use_unl {C : Addr} {S : Sk} {a b : Att} {v1 v2 v3 : V} {H : Hp} (hS : SkyAt C S v1 H) (ha : T3 a v2 H) (hb : T3 b v3 H) (hok : SkOk S) (hat : AttOk S.n a) (hbt : AttOk S.n b) : SpP (spUnl C) [v1, v2, v3] H (UnlV S a b) :=
  spg fun _ e => ⟨S, a, b, v1, v2, v3, rfl, hS.up e, ha.up e, hb.up e, hok, hat, hbt, rfl⟩
def ConfV (S : Sk) (a b : Att) (m : Int) : PH := fun v _ => ∃ k : Nat, S.Unl a b k ∧ v = .bl (decide ((k : Int) ≤ m))
def spConf (C : Addr) : Sp := SpG 5 fun vs H R => ∃ S a b v1 v2 v3 m f, vs = [v1, v2, v3, .int m, .int f] ∧ SkyAt C S v1 H ∧ T3 a v2 H ∧ T3 b v3 H ∧ SkOk S ∧ AttOk S.n a ∧ AttOk S.n b ∧ R = ConfV S a b (m + f)
abbrev s_are_confusable : Stmt := top 35
abbrev N_are_confusable : List PySem.Str := ["sky", "one", "other", "missing", "false"]
theorem sc_are_confusable : FnScope N_are_confusable ["sky", "one", "other", "missing", "false"] (defScope s_are_confusable) := ⟨rfl, rfl, rfl, by decide +kernel, rfl, by decide +kernel, by decide +kernel⟩
theorem ok_are_confusable {C : Addr} (G_unlikeness : Kn P w K mg base "unlikeness" 7 ["sky", "one", "other"] (spUnl C)) (D : Df K mg "are_confusable" s_are_confusable) : Kn P w K mg base "are_confusable" 8 ["sky", "one", "other", "missing", "false"] (spConf C) := by
  obtain ⟨f, fd, F, hm⟩ := D
  refine kn_mk F hm (F.binds (ps := ["sky", "one", "other", "missing", "false"]) fun _ _ _ _ _ _ us hl => match us, hl with | [_, _, _, _, _], _ => rfl) ?_
  refine F.ok sc_are_confusable (fun vs H Q E h => h.1) (fun cdv A outer s H vs Q E hr h => ?_)
  have hu := hu_of hr
  have nd := sc_are_confusable.nd
  obtain ⟨_, R, ⟨S, a, b, v1, v2, v3, m, fl, rfl, hS, ha, hb, hok, hat, hbt, rfl⟩, k⟩ := h
  refine ⟨_, (pss_one (ps_ret (pe_cmpR op_le (pe_own G_unlikeness hr (pa_cons (pv 0) (pa_cons (pv 1) (pa_cons (pv 2) pa_nil)))) (pe_op op_add (pv 3) (pv 4)) (nomark _)))), ?_⟩
  refine s_retP (evp_opI (evp_call (by walk_at "ea") (use_unl hS ha hb hok hat hbt)) (evp_int (by walk_at "ev"))) fun v H1 e r => k v H1 e ?_
  obtain ⟨_, _, ⟨i, hi, rfl⟩, rfl, rfl⟩ := r
  exact ⟨i, hi, rfl⟩
theorem use_conf {C : Addr} {S : Sk} {a b : Att} {v1 v2 v3 : V} {m f : Int} {H : Hp} (hS : SkyAt C S v1 H) (ha : T3 a v2 H) (hb : T3 b v3 H) (hok : SkOk S) (hat : AttOk S.n a) (hbt : AttOk S.n b) : SpP (spConf C) [v1, v2, v3, .int m, .int f] H (ConfV S a b (m + f)) :=
  spg fun _ e => ⟨S, a, b, v1, v2, v3, m, f, rfl, hS.up e, ha.up e, hb.up e, hok, hat, hbt, rfl⟩
end
end K77
end

section
set_option maxRecDepth 100000
set_option maxHeartbeats 4000000
namespace K77
open PySem L2 Evl
local macro_rules | `(tactic| walk_at "at") => `(tactic| first | assumption | exact Ex.get (by assumption) (by assumption))
local macro_rules | `(tactic| walk_at "sk") => `(tactic| first | assumption | exact SkyA.up (by assumption) (by assumption))
local macro_rules | `(tactic| walk_at "rv") => `(tactic| first
  | with_reducible exact rv_I0
  | with_reducible exact rv_isN
  | with_reducible exact rv_notN
  | (with_reducible show RV (rI (fun _ j => 0 < j) fun i j => .int (i % j)) _ _ _ _; exact rv_mod (by first | assumption | omega))
  | (with_reducible show RV (rI CMul _) _ _ _ _; exact rv_mul (by first | exact mul_l (by omega) | exact mul_r (by omega)))
  | (with_reducible show RV (rI CDiv _) _ _ _ _; exact rv_fdiv (div_ok (by omega)))
  | (with_reducible show RV (rIxT _) _ _ _ _; exact rv_tup (by walk_at "at") rfl)
  | (with_reducible show RV rEq _ _ _ _; exact rv_eq rfl)
  | (with_reducible show RV rNe _ _ _ _; exact rv_ne rfl))
local macro_rules | `(tactic| walk_at "ev") => `(tactic| first
  | (with_reducible show Ev (tVar _) _ _ _; exact ev_var rfl)
  | (with_reducible show Ev (tC _) _ _ _; exact ev_c)
  | (with_reducible show Ev (tOp _ _ _) _ _ _; exact ev_op (by walk_at "ev") (by walk_at "ev") (by walk_at "rv"))
  | (with_reducible show Ev (tProp _ _ _ _ _) _ _ _; exact ev_sky (by walk_at "ev") (by walk_at "sk"))
  | (with_reducible show Ev (tCB rAbs _) _ _ _; exact ev_abs (by walk_at "ev"))
  | (with_reducible show Ev (tCB rMax _) _ _ _; exact ev_max (by walk_at "ev") (by walk_at "ev"))
  | (with_reducible show Ev (tCB rMin _) _ _ _; exact ev_min (by walk_at "ev") (by walk_at "ev"))
  | (with_reducible show Ev (tCB rInt _) _ _ _; exact ev_int (by walk_at "ev"))
  | (with_reducible show Ev (tCB rInt _) _ _ _; exact ev_intB (by walk_at "ev"))
  | (with_reducible show Ev (tChain _ _ _ _ _) _ _ _; exact ev_chain (by walk_at "ev") (by walk_at "ev") (by walk_at "ev"))
  | (with_reducible show Ev (tAndV _ _) _ _ _; exact ev_andV (by walk_at "ev") (fun _ => by walk_at "ev"))
  | (with_reducible show Ev (tOrV _ _) _ _ _; exact ev_orV (by walk_at "ev") (fun _ => by walk_at "ev"))
  | (with_reducible show Ev (tCB (rLenQ _) _) _ _ _; exact ev_lenL (by walk_at "ev") (by walk_at "at"))
  | (with_reducible show Ev (tCB (rLenQ _) _) _ _ _; exact ev_lenT (by walk_at "ev") (by walk_at "at"))
  | (with_reducible show Ev (tUn _ _) _ _ _; exact ev_un (by walk_at "ev") ru_neg))
local macro_rules | `(tactic| walk_at "et") => `(tactic| first
  | (with_reducible show EvT (tTest _) _ _ _; exact et_test (by walk_at "ev"))
  | (with_reducible show EvT (tB _) _ _ _; exact et_B (by walk_at "ev"))
  | (with_reducible show EvT (tNot _) _ _ _; exact et_not (by walk_at "et"))
  | (with_reducible show EvT (tAnd _ _) _ _ _; exact et_and (by walk_at "et") (fun _ => by walk_at "et"))
  | (with_reducible show EvT (tOr _ _) _ _ _; exact et_or (by walk_at "et") (fun _ => by walk_at "et"))
  | exact et_tru (by walk_at "ev") (by walk_at "at"))
local macro_rules | `(tactic| walk_at "ea") => `(tactic| first
  | (with_reducible show EvA tNil _ _ _; exact ea_nil)
  | (with_reducible show EvA (tCons _ _) _ _ _; exact ea_cons (by walk_at "ev") (by walk_at "ea")))
theorem take_snocG {α : Type} {rows : List α} {i : Nat} {r0 : α} (h : rows[i]? = some r0) : rows.take (i + 1) = rows.take i ++ [r0] := by
  rw [List.take_succ, h]
  rfl
def key3 (a : Att) : List Key := [Sum.inl a.1, Sum.inl a.2.1, Sum.inl a.2.2]
theorem key3_inj {a b : Att} (h : key3 a = key3 b) : a = b := by
  obtain ⟨a1, a2, a3⟩ := a
  obtain ⟨b1, b2, b3⟩ := b
  simp only [key3, List.cons.injEq, Sum.inl.injEq, and_true] at h
  obtain ⟨rfl, rfl, rfl⟩ := h
  rfl
theorem triples_ok {n : Nat} {a : Att} (h : a ∈ triples n n) : AttOk (n : Int) a := by
  unfold triples rowsT quads at h
  simp only [List.mem_flatMap, List.mem_map, List.mem_range] at h
  obtain ⟨x, hx, y, hy, q, hq, rfl⟩ := h
  refine ⟨?_, ?_, ?_, ?_, ?_, ?_⟩ <;> simp only [] <;> omega
def allA (n : Int) : List Att := triples n.toNat n.toNat
theorem allA_ok {n : Int} (hn : SideOk n) {a : Att} (h : a ∈ allA n) : AttOk n a := by
  have e : ((n.toNat : Nat) : Int) = n := by
    rcases hn with e | e | e <;> rw [e] <;> rfl
  rw [← e]
  exact triples_ok h
theorem allA_nd {n : Int} (hn : SideOk n) : (allA n).Nodup := by
  rcases hn with e | e | e <;> rw [e] <;> decide +kernel
theorem allA_len {n : Int} (hn : SideOk n) : (allA n).length ≤ 144 := by
  rcases hn with e | e | e <;> rw [e] <;> decide +kernel
/-! ### all_sights -/
theorem SightA.dT {S : Sk} {a : Att} {p d s : Addr} {kv : List (Key × V)} {H : Hp} {D : Addr} {k1 k2 : List (List Key × V)} (hD : H D = some (.dT k1)) (h : SightA S a p d s kv H) : SightA S a p d s kv (upd H D (.dT k2)) := by
  have t : Tups H (upd H D (.dT k2)) := Tups.upd hD fun _ z => by cases z
  refine ⟨t _ _ h.tp, ?_, h.dl.tups (im_off S a) t, ?_⟩
  · rw [upd_ne (ne_of h.di hD fun z => nomatch z)]
    exact h.di
  · rw [upd_ne (ne_of h.su hD fun z => nomatch z)]
    exact h.su
/-- the dict of all sights; f tells where the dict of a sight stands -/
structure Sgs (S : Sk) (L : List Att) (D : Addr) (f : Att → Addr) (kvs : List (List Key × V)) (H : Hp) : Prop where
  here : H D = some (.dT kvs)
  row : ∀ a ∈ L, ∃ p s kv, valV kvs (key3 a) = some (.ref p) ∧ SightA S a p (f a) s kv H
  inj : ∀ a ∈ L, ∀ b ∈ L, f a = f b → a = b
theorem Sgs.up {S : Sk} {L : List Att} {D : Addr} {f : Att → Addr} {kvs : List (List Key × V)} {H H' : Hp} (e : Ex H H') (h : Sgs S L D f kvs H) : Sgs S L D f kvs H' := ⟨e _ _ h.here, fun a ha => let ⟨p, s, kv, h1, h2⟩ := h.row a ha; ⟨p, s, kv, h1, h2.up e⟩, h.inj⟩
section
variable {P : Program} {w : World} {K : PySem.W.Frag} {mg : PySem.Str → Option Value} {base : Heap}
def spAllSights (C : Addr) : Sp := SpG 1 fun vs H R => ∃ S v1, vs = [v1] ∧ SkyAt C S v1 H ∧ SkOk S ∧ R = fun v H' => ∃ D f kvs, v = .ref D ∧ Sgs S (allA S.n) D f kvs H'
abbrev s_all_sights : Stmt := top 37
abbrev N_all_sights : List PySem.Str := ["sky", "attitude"]
theorem sc_all_sights : FnScope N_all_sights ["sky"] (defScope s_all_sights) := ⟨rfl, rfl, rfl, by decide +kernel, rfl, by decide +kernel, by decide +kernel⟩
theorem ok_all_sights {C : Addr} (G_attitudes : Kn P w K mg base "attitudes" 3 ["sky"] (spAtts C)) (G_sight : Kn P w K mg base "sight" 6 ["sky", "attitude"] (spSight C)) (D : Df K mg "all_sights" s_all_sights) : Kn P w K mg base "all_sights" 7 ["sky"] (spAllSights C) := by
  obtain ⟨f, fd, F, hm⟩ := D
  refine kn_mk F hm (F.binds (ps := ["sky"]) fun _ _ _ _ _ _ us hl => match us, hl with | [_], _ => rfl) ?_
  refine F.ok sc_all_sights (fun vs H Q E h => h.1) (fun cdv A outer s H vs Q E hr h => ?_)
  have hu := hu_of hr
  have nd := sc_all_sights.nd
  obtain ⟨_, R, ⟨S, v1, rfl, hS, hok, rfl⟩, k⟩ := h
  refine ⟨_, (pss_one (ps_ret (pe_dcT (own := [("attitude", 1)]) hu rfl nd (pi_list (pe_own G_attitudes hr (pa_cons (pv 0) pa_nil))) (blkOk_by (N := N_all_sights) (sc := defScope s_all_sights) (by decide +kernel)) (fun _ _ _ _ _ => (pg_name (i := 1) nd rfl (by first | exact Or.inl rfl | exact Or.inr rfl))) (fun _ _ _ _ _ => (pv 1)) (fun _ _ _ _ _ => (pe_own G_sight hr (pa_cons (pv 0) (pa_cons (pv 1) pa_nil))))))), ?_⟩
  refine s_retP (R := fun v H' => ∃ D f kvs, v = .ref D ∧ Sgs S (allA S.n) D f kvs H') (fun H1 e1 Q' q => ?_) k
  refine evp_call (by walk_at "ea") (use_atts (hS.up e1) hok.1) H1 (Ex.refl H1) _ fun v H2 e2 ⟨l, xs, hv, hl, hL⟩ => ⟨l, hv, ⟨xs, sq_of hl⟩, fun D hD => ?_⟩
  have hlen : xs.length = (allA S.n).length := hL.1
  have hn := allA_len hok.1
  refine ⟨fun i m H' => m = xs.length - i ∧ i ≤ xs.length ∧ Ex H2 H' ∧ ∃ f kvs, Sgs S ((allA S.n).take i) D f kvs H' ∧ kvs.length ≤ i, ⟨xs.length, by simp, Nat.zero_le _, Ex.new hD, fun _ => 0, [], ⟨upd_same, (fun a ha => by rw [List.take_zero] at ha; cases ha), (fun a ha => by rw [List.take_zero] at ha; cases ha)⟩, Nat.le_refl _⟩, ?_⟩
  rintro i m H' ⟨rfl, hi, e3, f, kvs, hG, hz⟩
  by_cases hlt : i < xs.length
  · refine .inr ⟨(walk_list (K := K) (a := l) (xs := xs)).goes i H' hlt (sq_of (e3 _ _ hl)), fun H4 => i + 1 ≤ xs.length ∧ Ex H2 H4 ∧ ∃ f kvs, Sgs S ((allA S.n).take (i + 1)) D f kvs H4 ∧ kvs.length ≤ i + 1, fun H4 ⟨h1, h2⟩ => ⟨xs.length - (i + 1), by omega, rfl, h1, h2⟩, fun x H3 y => ?_⟩
    obtain ⟨rfl, hx⟩ := (walk_list (K := K) (a := l) (xs := xs)).yields i H' x H3 hlt (sq_of (e3 _ _ hl)) y
    obtain ⟨a, ha, q1, rfl, hq1⟩ := hL.2 i x hx
    have ha' : (allA S.n)[i]? = some a := ha
    have hin := List.mem_of_getElem? ha'
    refine ⟨rfl, .ref q1, rfl, ?_⟩
    have e123 := (e1.trans e2).trans e3
    refine evp_call (by walk_at "ea") (use_sight (hS.up e123) ⟨q1, rfl, e3 _ _ hq1⟩ hok (allA_ok hok.1 hin)) H3 (Ex.refl H3) _ fun v5 H5 e5 ⟨p, d, s, kv, hv5, hd0, hsg⟩ => ?_
    refine ⟨kvs, key3 a, q1, rfl, e5 _ _ hG.here, (e3.trans e5) _ _ hq1, sz_lt (by omega), hlt, Ex.mut (e3.trans e5) hD, fun b => if b = a then d else f b, putK kvs (key3 a) v5, ⟨upd_same, fun b hb => ?_, fun b hb c hc hf => ?_⟩, Nat.le_trans (length_putK kvs (key3 a) v5) (by omega)⟩
    · have hD5 := e5 _ _ hG.here
      rw [valV_put]
      by_cases cb : b = a
      · rw [cb, if_pos rfl, if_pos rfl]
        exact ⟨p, s, kv, by rw [hv5], hsg.dT hD5⟩
      · rw [if_neg (fun z => cb (key3_inj z)), if_neg cb]
        rw [take_snocG ha'] at hb
        rcases List.mem_append.mp hb with z | z
        · obtain ⟨p', s', kv', h1, h2⟩ := hG.row b z
          exact ⟨p', s', kv', h1, (h2.up e5).dT hD5⟩
        · exact absurd (List.mem_singleton.mp z) cb
    · have old : ∀ b ∈ (allA S.n).take i, f b ≠ d := fun b hb z => by
        obtain ⟨p', s', kv', h1, h2⟩ := hG.row b hb
        have := h2.di
        rw [z, hd0] at this
        cases this
      have mem : ∀ b ∈ (allA S.n).take (i + 1), b ≠ a → b ∈ (allA S.n).take i := fun b hb hne => by
        rw [take_snocG ha'] at hb
        rcases List.mem_append.mp hb with z | z
        · exact z
        · exact absurd (List.mem_singleton.mp z) hne
      by_cases cb : b = a
      · by_cases cc : c = a
        · rw [cb, cc]
        · rw [if_pos cb, if_neg cc] at hf
          exact absurd hf.symm (old c (mem c hc cc))
      · by_cases cc : c = a
        · rw [if_neg cb, if_pos cc] at hf
          exact absurd hf (old b (mem b hb cb))
        · rw [if_neg cb, if_neg cc] at hf
          exact hG.inj b (mem b hb cb) c (mem c hc cc) hf
  · have e : i = xs.length := by omega
    subst e
    rw [hlen, List.take_length] at hG
    exact .inl ⟨(walk_list (K := K) (a := l) (xs := xs)).stops H' (sq_of (e3 _ _ hl)), q _ H' (e2.trans e3) ⟨D, f, kvs, rfl, hG⟩⟩
theorem use_allSights {C : Addr} {S : Sk} {v1 : V} {H : Hp} (hS : SkyAt C S v1 H) (hok : SkOk S) : SpP (spAllSights C) [v1] H (fun v H' => ∃ D f kvs, v = .ref D ∧ Sgs S (allA S.n) D f kvs H') := spg fun _ e => ⟨S, v1, rfl, hS.up e, hok, rfl⟩
/-! ### all_pairs, far_pairs -/
def TP (p : Att × Att) : PH := fun v H => ∃ q u1 u2, v = .ref q ∧ H q = some (.tup [u1, u2]) ∧ T3 p.1 u1 H ∧ T3 p.2 u2 H
theorem im_TP (p : Att × Att) : Imm (TP p) := fun v H H' e ⟨q, u1, u2, h1, h2, h3, h4⟩ => ⟨q, u1, u2, h1, e _ _ h2, im_T3 _ _ _ _ e h3, im_T3 _ _ _ _ e h4⟩
def pairRow (L : List Att) (i j : Nat) : List (Att × Att) := ((L.drop (i + 1)).take j).map fun b => (L.getD i (0, 0, 0), b)
def pairsU (L : List Att) (i : Nat) : List (Att × Att) := (List.range i).flatMap fun i => pairRow L i L.length
theorem pairsU_succ (L : List Att) (i : Nat) : pairsU L (i + 1) = pairsU L i ++ pairRow L i L.length := by
  unfold pairsU
  rw [List.range_succ, List.flatMap_append]
  simp
theorem pairRow_len (L : List Att) (i j : Nat) : (pairRow L i j).length ≤ L.length := by
  unfold pairRow
  rw [List.length_map, List.length_take, List.length_drop]
  omega
theorem pairsU_len (L : List Att) : ∀ i, (pairsU L i).length ≤ i * L.length
  | 0 => Nat.zero_le _
  | i + 1 => by
    rw [pairsU_succ, List.length_append, Nat.succ_mul]
    have := pairsU_len L i
    have := pairRow_len L i L.length
    omega
def allP (n : Int) : List (Att × Att) := pairsU (allA n) (allA n).length
theorem allP_len {n : Int} (hn : SideOk n) : (allP n).length ≤ 20736 := by
  refine Nat.le_trans (pairsU_len _ _) ?_
  exact Nat.mul_le_mul (allA_len hn) (allA_len hn)
theorem mem_pairsU {L : List Att} (hL : L.Nodup) {i : Nat} {p : Att × Att} (hi : i ≤ L.length) (h : p ∈ pairsU L i) : p.1 ∈ L ∧ p.2 ∈ L ∧ p.1 ≠ p.2 := by
  unfold pairsU pairRow at h
  simp only [List.mem_flatMap, List.mem_map, List.mem_range] at h
  obtain ⟨a, ha, b, hb, rfl⟩ := h
  have hb' := List.mem_of_mem_take hb
  have e : L.getD a (0, 0, 0) = L[a]'(by omega) := by
    rw [List.getD_eq_getElem?_getD, List.getElem?_eq_getElem (by omega)]
    rfl
  simp only [e]
  refine ⟨List.getElem_mem _, List.mem_of_mem_drop hb', fun z => ?_⟩
  rw [← z] at hb'
  obtain ⟨j, h1, h2⟩ := List.mem_iff_getElem.mp hb'
  rw [List.getElem_drop] at h2
  have := (List.getElem_inj hL).mp h2
  omega
theorem cutV_from (xs : List V) (i : Nat) : cutV xs (some ((i : Int) + 1)) none = xs.drop (i + 1) := by
  unfold cutV
  have e : HT.sIx xs.length 0 (some ((i : Int) + 1)) = min (i + 1) xs.length := HT.sIx_nat xs.length 0 (i + 1)
  rw [e, HT.sIx_none]
  by_cases c : i + 1 ≤ xs.length
  · rw [Nat.min_eq_left c, List.take_of_length_le (by rw [List.length_drop]; exact Nat.le_refl _)]
  · rw [Nat.min_eq_right (by omega), List.drop_of_length_le (Nat.le_refl _), List.drop_of_length_le (by omega), List.take_nil]
/-- a loop of a comprehension, its turn of any form -/
theorem loop_it {J : It} {n : Nat} {G : Hp → Prop} {Y : Nat → Hp → V → Hp → Prop} (w : Walk J n G Y) {Qd : Hp → Prop} {H0 : Hp} {B : (Hp → Prop) → V → Hp → Prop} (Pv : Nat → Hp → Prop) (h0 : Pv 0 H0) (hG : ∀ i H, i ≤ n → Pv i H → G H)
    (hs : ∀ i x H H', i < n → Pv i H → Y i H x H' → B (Pv (i + 1)) x H') (hd : ∀ H, Pv n H → Qd H) :
    ∃ W : Nat → Nat → Hp → Prop, (∃ m, W 0 m H0) ∧ ∀ i m H, W i m H → (J.stop i H ∧ Qd H) ∨ (J.go i H ∧ ∃ Nx : Hp → Prop, (∀ H', Nx H' → ∃ m', m' < m ∧ W (i + 1) m' H') ∧ ∀ x H', J.yld i H x H' → B Nx x H') := by
  refine ⟨fun i m H => m = n - i ∧ i ≤ n ∧ Pv i H, ⟨n, by simp, Nat.zero_le _, h0⟩, ?_⟩
  rintro i m H ⟨rfl, hi, p⟩
  have q := hG i H hi p
  by_cases hlt : i < n
  · exact .inr ⟨w.goes i H hlt q, Pv (i + 1), fun H' p' => ⟨n - (i + 1), by omega, rfl, hlt, p'⟩, fun x H' y => hs i x H H' hlt p (w.yields i H x H' hlt q y)⟩
  · have e : i = n := by omega
    subst e
    exact .inl ⟨w.stops H q, hd H p⟩
def spAllPairs (C : Addr) : Sp := SpG 1 fun vs H R => ∃ S v1, vs = [v1] ∧ SkyAt C S v1 H ∧ SkOk S ∧ R = ListOf TP (allP S.n)
abbrev s_all_pairs : Stmt := top 38
abbrev N_all_pairs : List PySem.Str := ["sky", "every", "place", "one", "other"]
theorem sc_all_pairs : FnScope N_all_pairs ["sky"] (defScope s_all_pairs) := ⟨rfl, rfl, rfl, by decide +kernel, rfl, by decide +kernel, by decide +kernel⟩
theorem ok_all_pairs {C : Addr} (B : Bl mg) (G_attitudes : Kn P w K mg base "attitudes" 3 ["sky"] (spAtts C)) (D : Df K mg "all_pairs" s_all_pairs) : Kn P w K mg base "all_pairs" 4 ["sky"] (spAllPairs C) := by
  obtain ⟨f, fd, F, hm⟩ := D
  refine kn_mk F hm (F.binds (ps := ["sky"]) fun _ _ _ _ _ _ us hl => match us, hl with | [_], _ => rfl) ?_
  refine F.ok sc_all_pairs (fun vs H Q E h => h.1) (fun cdv A outer s H vs Q E hr h => ?_)
  have hu := hu_of hr
  have nd := sc_all_pairs.nd
  obtain ⟨_, R, ⟨S, v1, rfl, hS, hok, rfl⟩, k⟩ := h
  refine ⟨_, (pss_cons (ps_set (i := 1) nd rfl (by first | exact Or.inl rfl | exact Or.inr rfl) (pe_own G_attitudes hr (pa_cons (pv 0) pa_nil)))
      (pss_one (ps_ret (pe_lc2 (own := [("place", 2), ("one", 3), ("other", 4)]) (vs1 := [4]) rfl nd (pi_enum (by rfl) B.enumerate (pa_cons (pv 1) pa_nil)) (blkOk_by (N := N_all_pairs) (sc := defScope s_all_pairs) (by decide +kernel)) (by decide) (fun _ _ _ _ _ => (pg_tupK (K := K) (n := 2) rfl rfl (pgs_cons (pg_name (i := 2) nd rfl (by first | exact Or.inl rfl | exact Or.inr rfl)) (pgs_cons (pg_name (i := 3) nd rfl (by first | exact Or.inl rfl | exact Or.inr rfl)) pgs_nil)) rfl)) (fun _ _ _ _ _ => pts_nil) (fun _ _ _ _ _ => (pi_listK (K := K) rfl (pe_slice (sl_listK (K := K) rfl) (pv 1) (po_some (pe_op op_add (pv 2) pe_int)) po_none))) (fun _ _ _ _ _ => (pg_name (i := 4) nd rfl (by first | exact Or.inl rfl | exact Or.inr rfl))) (fun _ _ _ _ _ => pts_nil) (fun _ _ _ _ _ => (pe_tup (pa_cons (pv 3) (pa_cons (pv 4) pa_nil)))))))), ?_⟩
  refine q_asgP (evp_call (by walk_at "ea") (use_atts hS hok.1)) fun v H2 e2 ⟨l, xs, hv, hl, hL⟩ => ?_
  subst hv
  have hlen : xs.length = (allA S.n).length := hL.1
  have hn := allA_len hok.1
  refine s_retP (R := ListOf TP (allP S.n)) (fun H3 e3 Q' q => ?_) fun v H3 e3 r => k v H3 (e2.trans e3) r
  have hl3 := e3 _ _ hl
  refine ⟨_, rfl, l, xs, rfl, sq_of hl3, fun D hD => ?_⟩
  refine loop_it (walk_enum (K := K) (a := l) (xs := xs)) (fun i H' => Ex H3 H' ∧ ∃ ys, H' D = some (.lst ys) ∧ Lst TP (pairsU (allA S.n) i) ys H') ⟨Ex.new hD, [], upd_same, Lst.nil⟩ (fun i H' _ p => sq_of (p.1 _ _ hl3)) ?_ ?_
  · rintro i x H' H4 hi ⟨e4, ys, hy, hys⟩ ⟨T, x1, x2, rfl, hT, rfl, e, hx⟩
    cases e
    have e5 : Ex H' (upd H' T (.tup [.int (i : Nat), x2])) := Ex.new hT
    obtain ⟨a, ha, hT3⟩ := hL.2 i x2 hx
    have ha' : (allA S.n)[i]? = some a := ha
    have hga : (allA S.n).getD i (0, 0, 0) = a := by
      rw [List.getD_eq_getElem?_getD, ha']
      rfl
    refine g_tup2 upd_same ?_
    refine ⟨rfl, ?_⟩
    unfold tYes
    refine iteT ?_
    refine ⟨_, rfl, ?_⟩
    refine (eo_some (ev_op (ev_var rfl) ev_c rv_I0)) _ (Ex.refl _) _ fun H6 e6 => ?_
    have e46 := (e4.trans e5).trans e6
    refine ⟨l, xs, rfl, sq_of (e46 _ _ hl3), fun q1 hq1 => ?_⟩
    have e7 : Ex H6 (upd H6 q1 (.lst (cutV xs (some ((i : Int) + 1)) none))) := Ex.new hq1
    refine ⟨q1, rfl, ⟨_, sq_of upd_same⟩, ?_⟩
    have hq : (upd H6 q1 (.lst (cutV xs (some ((i : Int) + 1)) none))) q1 = some (.lst (xs.drop (i + 1))) := by rw [upd_same, cutV_from]
    generalize hH7 : (upd H6 q1 (.lst (cutV xs (some ((i : Int) + 1)) none))) = H7 at e7 hq
    clear hH7
    have e47 := e46.trans e7
    have hlr : (xs.drop (i + 1)).length = ((allA S.n).drop (i + 1)).length := by rw [List.length_drop, List.length_drop, hlen]
    refine loop_it (walk_list (K := K) (a := q1) (xs := xs.drop (i + 1))) (fun j H' => Ex H3 H' ∧ H' q1 = some (.lst (xs.drop (i + 1))) ∧ ∃ ys, H' D = some (.lst ys) ∧ Lst TP (pairsU (allA S.n) i ++ pairRow (allA S.n) i j) ys H') ⟨e47, hq, ys, (((e5.trans e6).trans e7)) _ _ hy, ?_⟩ (fun i H' _ p => sq_of p.2.1) ?_ ?_
    · have z : pairRow (allA S.n) i 0 = [] := by
        unfold pairRow
        rw [List.take_zero]
        rfl
      rw [z, List.append_nil]
      exact hys.tups im_TP (.of ((e5.trans e6).trans e7))
    · rintro j x H8 H9 hj ⟨e8, hq8, zs, hz, hzs⟩ ⟨rfl, hxj⟩
      refine ⟨rfl, ?_⟩
      simp only [↓reduceIte]
      rw [List.getElem?_drop] at hxj
      obtain ⟨b, hb, hT3b⟩ := hL.2 (i + 1 + j) x hxj
      have hb' : ((allA S.n).drop (i + 1))[j]? = some b := by
        rw [List.getElem?_drop]
        exact hb
      refine (eu_tup (ea_cons (ev_var rfl) (ea_cons (ev_var rfl) ea_nil)) (Nat.le_of_ble_eq_true rfl)) H9 (Ex.refl _) _ fun q2 H10 hq2 e10 h10 => ?_
      have hz10 := e10 _ _ hz
      have nq : q1 ≠ D := fun z => by
        rw [z] at hq1
        rw [(e5.trans e6) D _ hy] at hq1
        cases hq1
      have e310 := (e8.trans e10)
      refine ⟨zs, hz10, sz_lt ?_, Ex.mut e310 hD, ?_, zs ++ [.ref q2], upd_same, ?_⟩
      · have b1 := pairsU_len (allA S.n) i
        have b2 := pairRow_len (allA S.n) i j
        have b3 : i * (allA S.n).length ≤ 144 * 144 := Nat.mul_le_mul (by omega) hn
        rw [hzs.1, List.length_append]
        omega
      · rw [upd_ne nq]
        exact e10 _ _ hq8
      · have tz : Tups H10 (upd H10 D (.lst (zs ++ [.ref q2]))) := Tups.lst hz10
        have z : pairRow (allA S.n) i (j + 1) = pairRow (allA S.n) i j ++ [(a, b)] := by
          unfold pairRow
          rw [take_snocG hb', List.map_append, hga]
          rfl
        rw [z, ← List.append_assoc]
        refine Lst.snoc (hzs.tups im_TP ((Tups.of e10).trans tz)) ⟨q2, x2, x, rfl, tz _ _ h10, im_T3 _ _ _ _ tz ?_, im_T3 _ _ _ _ tz ?_⟩
        · exact (T3.up (e3.trans e310) hT3)
        · exact (T3.up (e3.trans e310) hT3b)
    · rintro H8 ⟨e8, hq8, zs, hz, hzs⟩
      refine ⟨e8, zs, hz, ?_⟩
      rw [pairsU_succ]
      have z : pairRow (allA S.n) i (xs.drop (i + 1)).length = pairRow (allA S.n) i (allA S.n).length := by
        unfold pairRow
        rw [hlr, List.take_of_length_le (Nat.le_refl _), List.take_of_length_le (by rw [List.length_drop]; omega)]
      rw [z] at hzs
      exact hzs
  · rintro H' ⟨e4, ys, hy, hys⟩
    rw [hlen] at hys
    exact q _ _ e4 ⟨D, ys, rfl, hy, hys⟩
theorem use_allPairs {C : Addr} {S : Sk} {v1 : V} {H : Hp} (hS : SkyAt C S v1 H) (hok : SkOk S) : SpP (spAllPairs C) [v1] H (ListOf TP (allP S.n)) := spg fun _ e => ⟨S, v1, rfl, hS.up e, hok, rfl⟩
def farP (n slack : Int) : List (Att × Att) := (allP n).filter fun p => farB n p.1 p.2 slack
theorem mem_allP {n : Int} (hn : SideOk n) {p : Att × Att} (h : p ∈ allP n) : p.1 ∈ allA n ∧ p.2 ∈ allA n ∧ p.1 ≠ p.2 := mem_pairsU (allA_nd hn) (Nat.le_refl _) h
def spFarPairs (C : Addr) : Sp := SpG 2 fun vs H R => ∃ S v1 slack, vs = [v1, .int slack] ∧ SkyAt C S v1 H ∧ SkOk S ∧ R = ListOf TP (farP S.n slack)
abbrev s_far_pairs : Stmt := top 39
abbrev N_far_pairs : List PySem.Str := ["sky", "slack", "one", "other"]
theorem sc_far_pairs : FnScope N_far_pairs ["sky", "slack"] (defScope s_far_pairs) := ⟨rfl, rfl, rfl, by decide +kernel, rfl, by decide +kernel, by decide +kernel⟩
theorem ok_far_pairs {C : Addr} (G_all_pairs : Kn P w K mg base "all_pairs" 4 ["sky"] (spAllPairs C)) (G_are_far : Kn P w K mg base "are_far" 5 ["sky", "one", "other", "slack"] (spFar C)) (D : Df K mg "far_pairs" s_far_pairs) : Kn P w K mg base "far_pairs" 6 ["sky", "slack"] (spFarPairs C) := by
  obtain ⟨f, fd, F, hm⟩ := D
  refine kn_mk F hm (F.binds (ps := ["sky", "slack"]) fun _ _ _ _ _ _ us hl => match us, hl with | [_, _], _ => rfl) ?_
  refine F.ok sc_far_pairs (fun vs H Q E h => h.1) (fun cdv A outer s H vs Q E hr h => ?_)
  have hu := hu_of hr
  have nd := sc_far_pairs.nd
  obtain ⟨_, R, ⟨S, v1, slack, rfl, hS, hok, rfl⟩, k⟩ := h
  refine ⟨_, (pss_one (ps_ret (pe_lc (own := [("one", 2), ("other", 3)]) rfl nd (pi_list (pe_own G_all_pairs hr (pa_cons (pv 0) pa_nil))) (blkOk_by (N := N_far_pairs) (sc := defScope s_far_pairs) (by decide +kernel)) (fun _ _ _ _ _ => (pg_tupK (K := K) (n := 2) rfl rfl (pgs_cons (pg_name (i := 2) nd rfl (by first | exact Or.inl rfl | exact Or.inr rfl)) (pgs_cons (pg_name (i := 3) nd rfl (by first | exact Or.inl rfl | exact Or.inr rfl)) pgs_nil)) rfl)) (fun _ _ _ _ _ => (pts_one (pt_val (pe_own G_are_far hr (pa_cons (pv 0) (pa_cons (pv 2) (pa_cons (pv 3) (pa_cons (pv 1) pa_nil)))))))) (fun _ _ _ _ _ => (pe_tup (pa_cons (pv 2) (pa_cons (pv 3) pa_nil))))))), ?_⟩
  refine s_retP (R := ListOf TP (farP S.n slack)) (fun H1 e1 Q' q => ?_) k
  refine evp_call (by walk_at "ea") (use_allPairs (hS.up e1) hok) H1 (Ex.refl H1) _ fun v H2 e2 ⟨l, xs, hv, hl, hL⟩ => ⟨l, hv, ⟨xs, sq_of hl⟩, fun D hD => ?_⟩
  have hlen : xs.length = (allP S.n).length := hL.1
  have hn := allP_len hok.1
  refine lc_it (walk_list (K := K) (a := l) (xs := xs)) (fun i H' => Ex H2 H' ∧ ∃ ys, H' D = some (.lst ys) ∧ Lst TP (((allP S.n).take i).filter fun p => farB S.n p.1 p.2 slack) ys H') ⟨Ex.new hD, [], upd_same, Lst.nil⟩ (fun i H' _ p => sq_of (p.1 _ _ hl)) ?_ ?_
  · rintro i x H' H3 hi ⟨e3, ys, hy, hys⟩ ⟨rfl, hx⟩
    obtain ⟨⟨a, b⟩, hab, ⟨q1, u1, u2, rfl, hq1, hu1, hu2⟩⟩ := hL.2 i x hx
    obtain ⟨ma, mb, _⟩ := mem_allP hok.1 (List.mem_of_getElem? hab)
    refine g_tup2 (e3 _ _ hq1) ⟨rfl, ?_⟩
    have hs := hS.up ((e1.trans e2).trans e3)
    refine cpsT (et_B (ev_callV (by walk_at "ea") (use_far hs (hu1.up e3) (hu2.up e3) hok (allA_ok hok.1 ma) (allA_ok hok.1 mb)))) fun H4 e4 => ?_
    have tk := take_snocG hab
    cases c : farB S.n a b slack with
    | true =>
      refine iteT ((eu_tup (by walk_at "ea") (Nat.le_of_ble_eq_true rfl)) H4 (Ex.refl H4) _ fun q2 H5 _ e5 h5 => ?_)
      have e45 := e4.trans e5
      have hy5 := e45 _ _ hy
      have tz : Tups H5 (upd H5 D (.lst (ys ++ [.ref q2]))) := Tups.lst hy5
      refine ⟨ys, hy5, sz_lt ?_, Ex.mut (e3.trans e45) hD, ys ++ [.ref q2], upd_same, ?_⟩
      · rw [hys.1]
        have := List.length_filter_le (fun p : Att × Att => farB S.n p.1 p.2 slack) ((allP S.n).take i)
        rw [List.length_take] at this
        omega
      · rw [tk, List.filter_append, List.filter_cons, if_pos c]
        exact Lst.snoc (hys.tups im_TP ((Tups.of e45).trans tz)) ⟨q2, u1, u2, rfl, tz _ _ h5, im_T3 _ _ _ _ tz (T3.up (e3.trans e45) hu1), im_T3 _ _ _ _ tz (T3.up (e3.trans e45) hu2)⟩
    | false =>
      refine iteF ⟨e3.trans e4, ys, e4 _ _ hy, ?_⟩
      rw [tk, List.filter_append, List.filter_cons, if_neg (by rw [c]; decide), List.filter_nil, List.append_nil]
      exact hys.tups im_TP (.of e4)
  · rintro H' ⟨e3, ys, hy, hys⟩
    rw [hlen, List.take_length] at hys
    exact q _ _ (e2.trans e3) ⟨D, ys, rfl, hy, hys⟩
theorem use_farPairs {C : Addr} {S : Sk} {v1 : V} {slack : Int} {H : Hp} (hS : SkyAt C S v1 H) (hok : SkOk S) : SpP (spFarPairs C) [v1, .int slack] H (ListOf TP (farP S.n slack)) := spg fun _ e => ⟨S, v1, slack, rfl, hS.up e, hok, rfl⟩
/-! ### least_distance -/
/-- what a far pair says of the bound m -/
def PairOk (S : Sk) (m : Nat) (p : Att × Att) : Prop := (∃ i, S.Lack p.1 p.2 i ∧ m ≤ i) ∨ (∃ k, S.Unl p.1 p.2 k ∧ m ≤ k)
theorem PairOk.le {S : Sk} {m m' : Nat} {p : Att × Att} (h : PairOk S m p) (hm : m' ≤ m) : PairOk S m' p := by
  rcases h with ⟨i, a, b⟩ | ⟨i, a, b⟩
  · exact .inl ⟨i, a, by omega⟩
  · exact .inr ⟨i, a, by omega⟩
/-- m: the bound, from one of the pairs -/
def Least (S : Sk) (ps all : List (Att × Att)) (m : Nat) : Prop := (∃ p ∈ all, S.Unl p.1 p.2 m) ∧ ∀ p ∈ ps, PairOk S m p
def LeastV (S : Sk) (slack : Int) : PH := fun v H => ∃ (q : Addr) (m : Nat) (u1 u2 : V), v = .ref q ∧ H q = some (.tup [nV m, u1, u2]) ∧ (∃ p ∈ farP S.n slack, S.Unl p.1 p.2 m) ∧ (m = 0 ∨ ∀ p ∈ farP S.n slack, PairOk S m p)
def spLeast (C : Addr) : Sp := SpG 2 fun vs H R => ∃ S v1 slack, vs = [v1, .int slack] ∧ SkyAt C S v1 H ∧ SkOk S ∧ farP S.n slack ≠ [] ∧ R = LeastV S slack
theorem ev_dgetT {σ : St} {H : Hp} {td ty : TE} {D q : Addr} {a : Att} {kvs : List (List Key × V)} {v : V} (hd : Ev td σ H (.ref D)) (hk : Ev ty σ H (.ref q)) (h : H D = some (.dT kvs)) (hq : H q = some (.tup [.int a.1, .int a.2.1, .int a.2.2])) (hl : valV kvs (key3 a) = some v) : Ev (tDGet td ty) σ H v := fun H1 e Q k =>
  hd H1 e _ fun H2 e2 => hk H2 (e.trans e2) _ fun H3 e3 => by
    have e' := (e.trans e2).trans e3
    refine ⟨D, v, rfl, ?_, k H3 (e2.trans e3)⟩
    have g : DGet H3 D (.ref q) (valV kvs (key3 a)) := DGet.t (e' _ _ h) (e' _ _ hq)
    rw [hl] at g
    exact g
def EvTP (tt : TT) (σ : St) (H : Hp) (p : Bool → Prop) : Prop := ∀ H1, Ex H H1 → ∀ Q : Bool → Hp → Prop, (∀ b H2, Ex H1 H2 → p b → Q b H2) → tt σ H1 Q
theorem s_ifP {σ : St} {H : Hp} {D : Ends} {t : TT} {tu tw : TS} {p : Bool → Prop} (h : EvTP t σ H p) (h1 : p true → ∀ H1, Ex H H1 → tu D σ H1) (h2 : p false → ∀ H1, Ex H H1 → tw D σ H1) : tIfS t tu tw D σ H := h H (Ex.refl H) _ fun b H1 e hp => by
  cases b with
  | true => exact iteT (h1 hp H1 e)
  | false => exact iteF (h2 hp H1 e)
theorem etp_test {σ : St} {H : Hp} {te : TE} {p : Bool → Prop} (h : EvP te σ H (BoolP p)) : EvTP (tTest te) σ H p := fun H1 e Q q => h H1 e _ fun v H2 e2 ⟨b, hv, hp⟩ => by
  subst hv
  exact ⟨b, rfl, q b H2 e2 hp⟩
theorem etp_or0 {σ : St} {H : Hp} {t u : TT} {p : Bool → Prop} (h1 : EvT t σ H false) (h2 : EvTP u σ H p) : EvTP (tOr t u) σ H p := fun H1 e Q q => h1 H1 e _ fun H2 e2 => iteF (h2 H2 (e.trans e2) Q fun b H3 e3 hp => q b H3 (e2.trans e3) hp)
/-- best, if any -/
def Best (S : Sk) (slack : Int) (ps : List (Att × Att)) (v : V) (H : Hp) : Prop := (v = .non ∧ ps = []) ∨ ∃ (q : Addr) (m : Nat) (u1 u2 : V), v = .ref q ∧ H q = some (.tup [nV m, u1, u2]) ∧ (∃ p ∈ farP S.n slack, S.Unl p.1 p.2 m) ∧ ∀ p ∈ ps, PairOk S m p
abbrev s_least_distance : Stmt := top 40
abbrev N_least_distance : List PySem.Str := ["sky", "slack", "sights", "best", "one", "other", "number"]
theorem sc_least_distance : FnScope N_least_distance ["sky", "slack"] (defScope s_least_distance) := ⟨rfl, rfl, rfl, by decide +kernel, rfl, by decide +kernel, by decide +kernel⟩
theorem ok_least_distance {C : Addr} (G_all_sights : Kn P w K mg base "all_sights" 7 ["sky"] (spAllSights C)) (G_far_pairs : Kn P w K mg base "far_pairs" 6 ["sky", "slack"] (spFarPairs C)) (G_lack_by : Kn P w K mg base "lack_by" 5 ["sky", "here", "there"] (spLackBy C)) (G_unlikeness_by : Kn P w K mg base "unlikeness_by" 6 ["sky", "here", "there"] (spUnlBy C)) (D : Df K mg "least_distance" s_least_distance) : Kn P w K mg base "least_distance" 8 ["sky", "slack"] (spLeast C) := by
  obtain ⟨f, fd, F, hm⟩ := D
  refine kn_mk F hm (F.binds (ps := ["sky", "slack"]) fun _ _ _ _ _ _ us hl => match us, hl with | [_, _], _ => rfl) ?_
  refine F.ok sc_least_distance (fun vs H Q E h => h.1) (fun cdv A outer s H vs Q E hr h => ?_)
  have hu := hu_of hr
  have nd := sc_least_distance.nd
  obtain ⟨_, R, ⟨S, v1, slack, rfl, hS, hok, hne, rfl⟩, k⟩ := h
  refine ⟨_, (pss_cons (ps_set (i := 2) nd rfl (by first | exact Or.inl rfl | exact Or.inr rfl) (pe_own G_all_sights hr (pa_cons (pv 0) pa_nil)))
      (pss_cons (ps_set (i := 3) nd rfl (by first | exact Or.inl rfl | exact Or.inr rfl) pe_non)
      (pss_cons (ps_for PassesOwn.never rfl (pi_list (pe_own G_far_pairs hr (pa_cons (pv 0) (pa_cons (pv 1) pa_nil)))) (pg_tup rfl (pgs_cons (pg_name (i := 4) nd rfl (by first | exact Or.inl rfl | exact Or.inr rfl)) (pgs_cons (pg_name (i := 5) nd rfl (by first | exact Or.inl rfl | exact Or.inr rfl)) pgs_nil)))
      (pss_cut (ps_if (PW.pt (pw_or (pt_cmpR op_isN (pv 3) pe_non (nomark _)) (pw_or1 (pt_cmpR op_lt (pe_own G_lack_by hr (pa_cons (pv 0) (pa_cons (pe_dget hu (pv 2) (pv 4) (fun _ _ => rfl)) (pa_cons (pe_dget hu (pv 2) (pv 5) (fun _ _ => rfl)) pa_nil)))) (pe_ix ix_tup (pv 3) pe_int (fun _ _ => rfl)) (nomark _))))) (pss_cons (ps_set (i := 6) nd rfl (by first | exact Or.inl rfl | exact Or.inr rfl) (pe_own G_unlikeness_by hr (pa_cons (pv 0) (pa_cons (pe_dget hu (pv 2) (pv 4) (fun _ _ => rfl)) (pa_cons (pe_dget hu (pv 2) (pv 5) (fun _ _ => rfl)) pa_nil)))))
      (pss_one (ps_if (PW.pt (pw_or (pt_cmpR op_isN (pv 3) pe_non (nomark _)) (pw_or1 (pt_cmpR op_lt (pv 6) (pe_ix ix_tup (pv 3) pe_int (fun _ _ => rfl)) (nomark _))))) (pss_one (ps_set (i := 3) nd rfl (by first | exact Or.inl rfl | exact Or.inr rfl) (pe_tup (pa_cons (pv 6) (pa_cons (pv 4) (pa_cons (pv 5) pa_nil)))))) pss_nil))) pss_nil)
      (pss_one (ps_if (pt_cmpR op_eq (pe_ix ix_tup (pv 3) pe_int (fun _ _ => rfl)) pe_int (nomark _)) (pss_one ps_break) pss_nil))))
      (pss_one (ps_ret (pv 3)))))), ?_⟩
  refine q_asgP (evp_call (by walk_at "ea") (use_allSights hS hok)) fun vD H1 e1 ⟨D, f, kvs, hvD, hG⟩ => ?_
  subst hvD
  refine q_asg ev_c fun H2 e2 => ?_
  have e12 := e1.trans e2
  refine evp_call (σ := _) (by walk_at "ea") (use_farPairs (slack := slack) (hS.up e12) hok) H2 (Ex.refl H2) _ fun vl H3 e3 ⟨l, xs, hv, hl, hL⟩ => ⟨l, hv, ⟨xs, sq_of hl⟩, ?_⟩
  have e13 := e12.trans e3
  have hG3 := hG.up (e2.trans e3)
  have hlen : xs.length = (farP S.n slack).length := hL.1
  refine for_list (xs := xs) (fun i σ' H' => ∃ best u4 u5 u6, σ' = [some v1, some (.int slack), some (.ref D), some best, u4, u5, u6] ∧ Ex H3 H' ∧ Best S slack ((farP S.n slack).take i) best H') ?_ ?_ ?_ ?_
  · exact ⟨.non, _, _, _, rfl, Ex.refl _, .inl ⟨rfl, rfl⟩⟩
  · rintro i σ' H' _ ⟨_, _, _, _, _, e, _⟩
    exact sq_of (e _ _ hl)
  · rintro i x σ' H' hi ⟨best, u4, u5, u6, rfl, e, hB⟩
    obtain ⟨⟨a, b⟩, hab, ⟨q1, u1, u2, rfl, hq1, ⟨qa, rfl, hqa⟩, ⟨qb, rfl, hqb⟩⟩⟩ := hL.2 i x hi
    have hmem := List.mem_of_getElem? hab
    obtain ⟨ma, mb, nab⟩ := mem_allP hok.1 (List.mem_filter.mp hmem).1
    have tk := take_snocG hab
    refine g_tup2 (e _ _ hq1) ?_
    obtain ⟨p1, s1, kv1, hk1, hs1⟩ := hG3.row a ma
    obtain ⟨p2, s2, kv2, hk2, hs2⟩ := hG3.row b mb
    have nd12 : f a ≠ f b := fun z => nab (hG3.inj a ma b mb z)
    refine q_cutI (fun σ' H' => ∃ q m u1 u2 u6, σ' = [some v1, some (.int slack), some (.ref D), some (.ref q), some (.ref qa), some (.ref qb), u6] ∧ Ex H3 H' ∧ H' q = some (.tup [nV m, u1, u2]) ∧ (∃ p ∈ farP S.n slack, S.Unl p.1 p.2 m) ∧ ∀ p ∈ (farP S.n slack).take (i + 1), PairOk S m p) ?_ ?_
    · -- number = unlikeness_by(..), then best told anew
      have num : ∀ {H4 : Hp} {u6 : Option V} {best : V}, Ex H3 H4 → EvP (tCall (spUnlBy C) [] E0 (tCons (tVar 0) (tCons (tDGet (tVar 2) (tVar 4)) (tCons (tDGet (tVar 2) (tVar 5)) tNil)))) [some v1, some (.int slack), some (.ref D), some best, some (.ref qa), some (.ref qb), u6] H4 (UnlV S a b) := fun e4 =>
        evp_call (ea_cons (ev_var rfl) (ea_cons (ev_dgetT (ev_var rfl) (ev_var rfl) (e4 _ _ hG3.here) (e4 _ _ hqa) hk1) (ea_cons (ev_dgetT (ev_var rfl) (ev_var rfl) (e4 _ _ hG3.here) (e4 _ _ hqb) hk2) ea_nil))) (use_unlBy (hS.up (e13.trans e4)) (hs1.up e4) (hs2.up e4) nd12 hok)
      rcases hB with ⟨rfl, hnil⟩ | ⟨q, m, w1, w2, rfl, hq, hm, hp⟩
      · refine s_if (b := true) (et_or (a := true) (b := true) (et_is (a := decide (V.non = V.non)) (by walk_at "et") rfl) (fun z => by cases z)) (fun _ H4 e4 => ?_) (fun z => by cases z)
        refine q_asgP (num (e.trans e4)) fun v H5 e5 ⟨_, hv, k, hk, hk'⟩ => ?_
        subst hv hk'
        refine s_if (b := true) (et_or (a := true) (b := true) (et_is (a := decide (V.non = V.non)) (by walk_at "et") rfl) (fun z => by cases z)) (fun _ H6 e6 => ?_) (fun z => by cases z)
        refine s_asgU (eu_tup (by walk_at "ea") (Nat.le_of_ble_eq_true rfl)) fun q H7 _ e7 h7 => ?_
        refine ⟨q, k, _, _, _, rfl, (((e.trans e4).trans e5).trans e6).trans e7, h7, ⟨(a, b), hmem, hk⟩, fun p hp => ?_⟩
        rw [tk, hnil] at hp
        rw [List.mem_singleton.mp hp]
        exact .inr ⟨k, hk, Nat.le_refl _⟩
      · have lb : EvP (tCall (spLackBy C) [] E0 (tCons (tVar 0) (tCons (tDGet (tVar 2) (tVar 4)) (tCons (tDGet (tVar 2) (tVar 5)) tNil)))) [some v1, some (.int slack), some (.ref D), some (.ref q), some (.ref qa), some (.ref qb), u6] H' (LackV S a b) :=
          evp_call (ea_cons (ev_var rfl) (ea_cons (ev_dgetT (ev_var rfl) (ev_var rfl) (e _ _ hG3.here) (e _ _ hqa) hk1) (ea_cons (ev_dgetT (ev_var rfl) (ev_var rfl) (e _ _ hG3.here) (e _ _ hqb) hk2) ea_nil))) (use_lackBy (hS.up (e13.trans e)) (hs1.up e) (hs2.up e) nd12 hok)
        refine s_ifP (p := fun c => ∃ k : Nat, S.Lack a b k ∧ c = decide ((k : Int) < (m : Int))) (etp_or0 (et_is (a := decide (V.ref q = V.non)) (by walk_at "et") rfl) (etp_test (EvP.imp (evp_opI lb (evp_int (ev_op (ev_var rfl) ev_c (rv_tup hq rfl)))) fun v H4 e4 r => ?_))) (fun _ H4 e4 => ?_) (fun ⟨k, hk, hkm⟩ H4 e4 => ?_)
        · obtain ⟨_, _, ⟨k, hk, rfl⟩, rfl, rfl⟩ := r
          exact ⟨_, rfl, k, hk, rfl⟩
        · refine q_asgP (num (e.trans e4)) fun v H5 e5 ⟨_, hv, k, hk, hk'⟩ => ?_
          subst hv hk'
          have hq5 := (e4.trans e5) _ _ hq
          refine s_if (b := decide ((k : Int) < (m : Int))) (et_or (a := false) (b := decide ((k : Int) < (m : Int))) (et_is (a := decide (V.ref q = V.non)) (by walk_at "et") rfl) (fun _ => et_test (ev_op (ev_var rfl) (ev_op (ev_var rfl) ev_c (rv_tup hq5 rfl)) rv_I0))) (fun c H6 e6 => ?_) (fun c H6 e6 => ?_)
          · have c' := of_decide_eq_true c
            refine s_asgU (eu_tup (by walk_at "ea") (Nat.le_of_ble_eq_true rfl)) fun q' H7 _ e7 h7 => ?_
            refine ⟨q', k, _, _, _, rfl, (((e.trans e4).trans e5).trans e6).trans e7, h7, ⟨(a, b), hmem, hk⟩, fun p hp' => ?_⟩
            rw [tk] at hp'
            rcases List.mem_append.mp hp' with z | z
            · exact (hp p z).le (by omega)
            · rw [List.mem_singleton.mp z]
              exact .inr ⟨k, hk, Nat.le_refl _⟩
          · have c' := of_decide_eq_false c
            refine ⟨q, m, _, _, _, rfl, ((e.trans e4).trans e5).trans e6, e6 _ _ hq5, hm, fun p hp' => ?_⟩
            rw [tk] at hp'
            rcases List.mem_append.mp hp' with z | z
            · exact hp p z
            · rw [List.mem_singleton.mp z]
              exact .inr ⟨k, hk, by omega⟩
        · have c' := of_decide_eq_false hkm.symm
          refine ⟨q, m, _, _, _, rfl, e.trans e4, e4 _ _ hq, hm, fun p hp' => ?_⟩
          rw [tk] at hp'
          rcases List.mem_append.mp hp' with z | z
          · exact hp p z
          · rw [List.mem_singleton.mp z]
            exact .inl ⟨k, hk, by omega⟩
    · rintro σ' H4 ⟨q, m, w1, w2, u6', rfl, e4, hq, hm, hp⟩
      refine s_if (b := decide (V.int (m : Int) = V.int 0)) (et_test (ev_op (ev_op (ev_var rfl) ev_c (rv_tup hq rfl)) ev_c (rv_eq rfl))) (fun c H5 e5 => ?_) (fun c H5 e5 => ?_)
      · have c' := of_decide_eq_true c
        have m0 : m = 0 := by
          injection c' with c'
          omega
        exact s_ret (ev_var rfl) fun H6 e6 => k _ H6 (((e13.trans e4).trans e5).trans e6) ⟨q, m, _, _, rfl, (e5.trans e6) _ _ hq, hm, .inl m0⟩
      · exact ⟨.ref q, _, _, _, rfl, e4.trans e5, .inr ⟨q, m, _, _, rfl, e5 _ _ hq, hm, hp⟩⟩
  · rintro σ' H' ⟨best, u4, u5, u6, rfl, e, hB⟩
    rw [hlen, List.take_length] at hB
    rcases hB with ⟨_, z⟩ | ⟨q, m, u1, u2, rfl, hq, hm, hp⟩
    · exact absurd z hne
    · exact s_ret (ev_var rfl) fun H4 e4 => k _ H4 ((e13.trans e).trans e4) ⟨q, m, u1, u2, rfl, e4 _ _ hq, hm, .inr hp⟩
theorem use_least {C : Addr} {S : Sk} {v1 : V} {slack : Int} {H : Hp} (hS : SkyAt C S v1 H) (hok : SkOk S) (hne : farP S.n slack ≠ []) : SpP (spLeast C) [v1, .int slack] H (LeastV S slack) := spg fun _ e => ⟨S, v1, slack, rfl, hS.up e, hok, hne, rfl⟩
/-- THE LAW OF THE LEAST DISTANCE -/
theorem least_worse {n : Int} {st : List Star} {w b : Cam} (hw : Worse w b) {slack : Int} {mw mb : Nat} (h1 : mw = 0 ∨ ∀ p ∈ farP n slack, PairOk ⟨n, st, w⟩ mw p) (h2 : ∃ p ∈ farP n slack, (Sk.mk n st b).Unl p.1 p.2 mb) : mw ≤ mb := by
  rcases h1 with h1 | h1
  · omega
  · obtain ⟨p, hp, i, j, hi, hj, rfl⟩ := h2
    rcases h1 p hp with ⟨k, hk, hm⟩ | ⟨_, ⟨k, l, hk, hl, rfl⟩, hm⟩
    · have := lack_worse hw hk hi
      omega
    · have := lack_worse hw hk hi
      have := lack_worse hw hl hj
      omega
theorem unl_worse {n : Int} {st : List Star} {w b : Cam} (hw : Worse w b) {a c : Att} {i j : Nat} (h1 : (Sk.mk n st w).Unl a c i) (h2 : (Sk.mk n st b).Unl a c j) : i ≤ j := by
  obtain ⟨k, l, hk, hl, rfl⟩ := h1
  obtain ⟨k', l', hk', hl', rfl⟩ := h2
  have := lack_worse hw hk hk'
  have := lack_worse hw hl hl'
  omega
end
end K77
end

section
set_option maxRecDepth 100000
set_option maxHeartbeats 4000000
namespace K77
open PySem L2 Evl
local macro_rules | `(tactic| walk_at "at") => `(tactic| first | assumption | exact Ex.get (by assumption) (by assumption))
local macro_rules | `(tactic| walk_at "sk") => `(tactic| first | assumption | exact SkyA.up (by assumption) (by assumption))
local macro_rules | `(tactic| walk_at "rv") => `(tactic| first
  | with_reducible exact rv_I0
  | with_reducible exact rv_isN
  | with_reducible exact rv_notN
  | (with_reducible show RV (rI (fun _ j => 0 < j) fun i j => .int (i % j)) _ _ _ _; exact rv_mod (by first | assumption | omega))
  | (with_reducible show RV (rI CMul _) _ _ _ _; exact rv_mul (by first | exact mul_l (by omega) | exact mul_r (by omega)))
  | (with_reducible show RV (rI CDiv _) _ _ _ _; exact rv_fdiv (div_ok (by omega)))
  | (with_reducible show RV (rIxT _) _ _ _ _; exact rv_tup (by walk_at "at") rfl)
  | (with_reducible show RV rEq _ _ _ _; exact rv_eq rfl)
  | (with_reducible show RV rNe _ _ _ _; exact rv_ne rfl))
local macro_rules | `(tactic| walk_at "ev") => `(tactic| first
  | (with_reducible show Ev (tVar _) _ _ _; exact ev_var rfl)
  | (with_reducible show Ev (tC _) _ _ _; exact ev_c)
  | (with_reducible show Ev (tOp _ _ _) _ _ _; exact ev_op (by walk_at "ev") (by walk_at "ev") (by walk_at "rv"))
  | (with_reducible show Ev (tProp _ _ _ _ _) _ _ _; exact ev_sky (by walk_at "ev") (by walk_at "sk"))
  | (with_reducible show Ev (tCB rAbs _) _ _ _; exact ev_abs (by walk_at "ev"))
  | (with_reducible show Ev (tCB rMax _) _ _ _; exact ev_max (by walk_at "ev") (by walk_at "ev"))
  | (with_reducible show Ev (tCB rMin _) _ _ _; exact ev_min (by walk_at "ev") (by walk_at "ev"))
  | (with_reducible show Ev (tCB rInt _) _ _ _; exact ev_int (by walk_at "ev"))
  | (with_reducible show Ev (tCB rInt _) _ _ _; exact ev_intB (by walk_at "ev"))
  | (with_reducible show Ev (tChain _ _ _ _ _) _ _ _; exact ev_chain (by walk_at "ev") (by walk_at "ev") (by walk_at "ev"))
  | (with_reducible show Ev (tAndV _ _) _ _ _; exact ev_andV (by walk_at "ev") (fun _ => by walk_at "ev"))
  | (with_reducible show Ev (tOrV _ _) _ _ _; exact ev_orV (by walk_at "ev") (fun _ => by walk_at "ev"))
  | (with_reducible show Ev (tCB (rLenQ _) _) _ _ _; exact ev_lenL (by walk_at "ev") (by walk_at "at"))
  | (with_reducible show Ev (tCB (rLenQ _) _) _ _ _; exact ev_lenT (by walk_at "ev") (by walk_at "at"))
  | (with_reducible show Ev (tUn _ _) _ _ _; exact ev_un (by walk_at "ev") ru_neg))
local macro_rules | `(tactic| walk_at "et") => `(tactic| first
  | (with_reducible show EvT (tTest _) _ _ _; exact et_test (by walk_at "ev"))
  | (with_reducible show EvT (tB _) _ _ _; exact et_B (by walk_at "ev"))
  | (with_reducible show EvT (tNot _) _ _ _; exact et_not (by walk_at "et"))
  | (with_reducible show EvT (tAnd _ _) _ _ _; exact et_and (by walk_at "et") (fun _ => by walk_at "et"))
  | (with_reducible show EvT (tOr _ _) _ _ _; exact et_or (by walk_at "et") (fun _ => by walk_at "et"))
  | exact et_tru (by walk_at "ev") (by walk_at "at"))
local macro_rules | `(tactic| walk_at "ea") => `(tactic| first
  | (with_reducible show EvA tNil _ _ _; exact ea_nil)
  | (with_reducible show EvA (tCons _ _) _ _ _; exact ea_cons (by walk_at "ev") (by walk_at "ea")))
/-! ### stars read from the heap; their order -/
open Classical in
noncomputable def rd (H : Hp) (x : V) : Star := if h : ∃ d, T3 d x H then h.choose else (0, 0, 0)
theorem T3.same {a b : Star} {x : V} {H : Hp} (h1 : T3 a x H) (h2 : T3 b x H) : a = b := by
  obtain ⟨p, rfl, hp⟩ := h1
  obtain ⟨q, e, hq⟩ := h2
  cases e
  rw [hp] at hq
  obtain ⟨a1, a2, a3⟩ := a
  obtain ⟨b1, b2, b3⟩ := b
  simp only [Option.some.injEq, HO.tup.injEq, List.cons.injEq, V.int.injEq, and_true] at hq
  obtain ⟨rfl, rfl, rfl⟩ := hq
  rfl
theorem rd_eq {d : Star} {x : V} {H : Hp} (h : T3 d x H) : rd H x = d := by
  have hx : ∃ d, T3 d x H := ⟨d, h⟩
  unfold rd
  rw [dif_pos hx]
  exact hx.choose_spec.same h
theorem Lst.rd {l : List Star} {xs : List V} {H : Hp} (h : Lst T3 l xs H) : l = xs.map (rd H) := by
  apply List.ext_getElem?
  intro i
  rw [List.getElem?_map]
  by_cases c : i < xs.length
  · rw [List.getElem?_eq_getElem c]
    obtain ⟨d, hd, hR⟩ := h.2 i xs[i] (List.getElem?_eq_getElem c)
    rw [hd]
    exact congrArg some (rd_eq hR).symm
  · rw [List.getElem?_eq_none (l := l) (by rw [← h.1]; omega), List.getElem?_eq_none (l := xs) (by omega)]
    rfl
theorem Lst.perm {l : List Star} {xs ys : List V} {H : Hp} (h : Lst T3 l xs H) (hp : ys.Perm xs) : ∃ l', l'.Perm l ∧ Lst T3 l' ys H ∧ l' = ys.map (K77.rd H) := by
  refine ⟨ys.map (K77.rd H), ?_, ⟨by rw [List.length_map], fun i x hx => ⟨K77.rd H x, by rw [List.getElem?_map, hx] <;> rfl, ?_⟩⟩, rfl⟩
  · rw [h.rd]
    exact hp.map _
  · obtain ⟨j, h1, h2⟩ := List.mem_iff_getElem.mp (hp.mem_iff.mp (List.mem_of_getElem? hx))
    obtain ⟨d, hd, hR⟩ := h.2 j x (by rw [List.getElem?_eq_getElem h1, h2])
    rw [rd_eq hR]
    exact hR
def s3 (s : Star) : List Int := [s.1, s.2.1, s.2.2]
def codeS (s : Star) : Int := TS.code 10 (s3 s)
theorem codeS_eq (s : Star) : codeS s = s.1 * 100 + s.2.1 * 10 + s.2.2 := by
  unfold codeS s3
  simp [TS.code]
  omega
def Srt (l : List Star) : Prop := l.Pairwise fun a b => codeS a ≤ codeS b
def Digs (s : Star) : Prop := 0 ≤ s.1 ∧ s.1 < 10 ∧ 0 ≤ s.2.1 ∧ s.2.1 < 10 ∧ 0 ≤ s.2.2 ∧ s.2.2 < 10
theorem StarOk.digs {n : Int} {s : Star} (hn : SideOk n) (h : StarOk n s) : Digs s := by
  obtain ⟨h1, h2, h3, h4, h5, h6⟩ := h
  have : n ≤ 6 := by rcases hn with e | e | e <;> rw [e] <;> decide
  exact ⟨h1, by omega, h3, by omega, by omega, by omega⟩
theorem code_inj {a b : Star} (ha : Digs a) (hb : Digs b) (h : codeS a = codeS b) : a = b := by
  rw [codeS_eq, codeS_eq] at h
  obtain ⟨a1, a2, a3⟩ := a
  obtain ⟨b1, b2, b3⟩ := b
  obtain ⟨h1, h2, h3, h4, h5, h6⟩ := ha
  obtain ⟨k1, k2, k3, k4, k5, k6⟩ := hb
  simp only [] at *
  obtain rfl : a1 = b1 := by omega
  obtain rfl : a2 = b2 := by omega
  obtain rfl : a3 = b3 := by omega
  rfl
theorem srt_same {l l' : List Star} (hp : l.Perm l') (h : Srt l) (h' : Srt l') (hd : ∀ s ∈ l, Digs s) : l = l' :=
  hp.eq_of_pairwise (fun a b ha hb h1 h2 => code_inj (hd a ha) (hd b (hp.mem_iff.mpr hb)) (by omega)) h h'
section
variable {K : PySem.W.Frag}
theorem T3.tupI {d : Star} {x : V} {H : Hp} (h : T3 d x H) : TupI K H x (s3 d) := by
  obtain ⟨p, rfl, hp⟩ := h
  exact ⟨p, rfl, st_of hp⟩
/-- sorted(stars) -/
theorem ev_sortS {σ : St} {H : Hp} {ta : TE} {a : Addr} {xs : List V} {l : List Star} (ha : Ev ta σ H (.ref a)) (hs : H a = some (.lst xs) ∨ H a = some (.tup xs)) (hl : Lst T3 l xs H) (h64 : l.length < 64) (hd : ∀ s ∈ l, Digs s) :
    EvP (tCB (rSortQ K 3 10) (tCons ta tNil)) σ H (fun v H' => ∃ p ys l', v = .ref p ∧ H p = none ∧ H' p = some (.lst ys) ∧ Lst T3 l' ys H' ∧ l'.Perm l ∧ Srt l') := fun H1 e Q q => ha H1 e _ fun H2 e2 => by
  have e' := e.trans e2
  have hl2 := hl.up st_T3 e'
  have hs2 : SqQ K H2 a xs := by
    rcases hs with h | h
    · exact .inl (sq_of (e' _ _ h))
    · exact .inr (st_of (e' _ _ h))
  refine ⟨a, xs, rfl, hs2, by rw [hl.1]; exact h64, fun x hx => ?_, fun ys p hp hpw hp0 => ?_⟩
  · obtain ⟨i, h1, h2⟩ := List.mem_iff_getElem.mp hx
    obtain ⟨d, hdd, hR⟩ := hl2.2 i x (by rw [List.getElem?_eq_getElem h1, h2])
    refine ⟨s3 d, hR.tupI, rfl, fun m hm => ?_⟩
    obtain ⟨k1, k2, k3, k4, k5, k6⟩ := hd d (List.mem_of_getElem? hdd)
    simp only [s3, List.mem_cons, List.mem_nil_iff, or_false] at hm
    rcases hm with rfl | rfl | rfl <;> constructor <;> assumption
  · obtain ⟨l', hl', hLst, e3⟩ := hl2.perm hp
    have en : Ex H2 (upd H2 p (.lst ys)) := Ex.new hp0
    refine q _ _ (e2.trans en) ⟨p, ys, l', rfl, fresh_back e' hp0, upd_same, hLst.up st_T3 en, hl', ?_⟩
    unfold Srt
    rw [e3, List.pairwise_map]
    refine hpw.imp_of_mem fun {x y} hx hy hc => ?_
    obtain ⟨i, h1, h2⟩ := List.mem_iff_getElem.mp hx
    obtain ⟨d, _, hR⟩ := hLst.2 i x (by rw [List.getElem?_eq_getElem h1, h2])
    obtain ⟨j, g1, g2⟩ := List.mem_iff_getElem.mp hy
    obtain ⟨d', _, hR'⟩ := hLst.2 j y (by rw [List.getElem?_eq_getElem g1, g2])
    rw [rd_eq hR, rd_eq hR']
    exact hc _ _ hR.tupI hR'.tupI
/-! ### len(set(stars)) -/
def adr : V → Addr
  | .ref a => a
  | _ => 0
theorem lenSet {H : Hp} {a : Addr} {xs : List V} {l : List Star} {Q : VK} (hs : SqQ K H a xs) (hl : Lst T3 l xs H) (h64 : l.length < 64) (hn : l.Nodup) (q : Q (.int (l.length : Int)) H) :
    ∃ (b : Addr) (ks : List (Addr × List Int)), V.ref a = V.ref b ∧ SqQ K H b (ks.map fun p => V.ref p.1) ∧ (∀ p ∈ ks, SqT K H p.1 (p.2.map V.int)) ∧ ks.length < 64 ∧ (ks.map (·.2)).Nodup ∧ Q (.int ks.length) H := by
  have el := hl.rd
  have each : ∀ x ∈ xs, ∃ d p, T3 d x H ∧ x = .ref p ∧ H p = some (.tup ((s3 d).map V.int)) := fun x hx => by
    obtain ⟨i, h1, h2⟩ := List.mem_iff_getElem.mp hx
    obtain ⟨d, hdd, p, hp, hq⟩ := hl.2 i x (by rw [List.getElem?_eq_getElem h1, h2])
    exact ⟨d, p, ⟨p, hp, hq⟩, hp, hq⟩
  refine ⟨a, xs.map fun x => (adr x, s3 (rd H x)), rfl, ?_, fun p hp => ?_, by rw [List.length_map, hl.1]; exact h64, ?_, ?_⟩
  · have e : (xs.map fun x => (adr x, s3 (rd H x))).map (fun p => V.ref p.1) = xs := by
      rw [List.map_map]
      refine (List.map_congr_left fun x hx => ?_).trans (List.map_id xs)
      obtain ⟨d, p, _, hp, _⟩ := each x hx
      rw [hp]
      rfl
    rw [e]
    exact hs
  · obtain ⟨x, hx, rfl⟩ := List.mem_map.mp hp
    obtain ⟨d, p, h1, hp, h2⟩ := each x hx
    show SqT K H (adr x) ((s3 (rd H x)).map V.int)
    rw [rd_eq h1, hp]
    exact st_of h2
  · rw [List.map_map]
    have e : (xs.map ((fun p : Addr × List Int => p.2) ∘ fun x => (adr x, s3 (rd H x)))) = l.map s3 := by
      conv => rhs; rw [el]
      rw [List.map_map]
      rfl
    rw [e, List.nodup_iff_pairwise_ne, List.pairwise_map]
    refine (List.nodup_iff_pairwise_ne.mp hn).imp fun {x y} hne he => hne ?_
    obtain ⟨x1, x2, x3⟩ := x
    obtain ⟨y1, y2, y3⟩ := y
    simp only [s3, List.cons.injEq, and_true] at he
    obtain ⟨rfl, rfl, rfl⟩ := he
    rfl
  · rw [List.length_map, hl.1]
    exact q
end
section
variable {P : Program} {w : World} {K : PySem.W.Frag} {mg : PySem.Str → Option Value} {base : Heap}
/-! ### is_camera, is_star -/
def spIsCamera : Sp := SpG 2 fun vs H R => ∃ n c v, vs = [.int n, v] ∧ T4 c v H ∧ CamOk n c ∧ R = is (.bl true)
abbrev s_is_camera : Stmt := top 7
abbrev N_is_camera : List PySem.Str := ["side", "camera", "reach", "blur", "glare", "limit"]
theorem sc_is_camera : FnScope N_is_camera ["side", "camera"] (defScope s_is_camera) := ⟨rfl, rfl, rfl, by decide +kernel, rfl, by decide +kernel, by decide +kernel⟩
theorem ok_is_camera (B : Bl mg) (D : Df K mg "is_camera" s_is_camera) : Kn P w K mg base "is_camera" 1 ["side", "camera"] spIsCamera := by
  obtain ⟨f, fd, F, hm⟩ := D
  refine kn_mk F hm (F.binds (ps := ["side", "camera"]) fun _ _ _ _ _ _ us hl => match us, hl with | [_, _], _ => rfl) ?_
  refine F.ok sc_is_camera (fun vs H Q E h => h.1) (fun cdv A outer s H vs Q E hr h => ?_)
  have hu := hu_of hr
  have nd := sc_is_camera.nd
  obtain ⟨_, R, ⟨n, c, v, rfl, ⟨p, rfl, hp⟩, ⟨h1, h2, h3, h4, h5, h6, h7, h8, h9, h10⟩, rfl⟩, k⟩ := h
  refine ⟨_, (pss_cons (ps_if (pt_cmpR op_ne (pe_callB call_len_seq (by rfl) B.len (by decide +kernel) (pa_cons (pv 1) pa_nil)) pe_int (nomark _)) (pss_one (ps_ret pe_bl)) pss_nil)
      (pss_cons (ps_asg (pv 1) (pg_tup rfl (pgs_cons (pg_name (i := 2) nd rfl (by first | exact Or.inl rfl | exact Or.inr rfl)) (pgs_cons (pg_name (i := 3) nd rfl (by first | exact Or.inl rfl | exact Or.inr rfl)) (pgs_cons (pg_name (i := 4) nd rfl (by first | exact Or.inl rfl | exact Or.inr rfl)) (pgs_cons (pg_name (i := 5) nd rfl (by first | exact Or.inl rfl | exact Or.inr rfl)) pgs_nil))))))
      (pss_cons (ps_if (PW.pt (pw_or (pt_not (pt_chain op_le op_le pe_int (pv 2) pe_int)) (pw_or (pt_not (pt_chain op_le op_le pe_int (pv 3) pe_int)) (pw_or (pt_not (pt_chain op_le op_le pe_int (pv 4) pe_int)) (pw_or1 (pt_not (pt_chain op_le op_le pe_int (pv 5) pe_int))))))) (pss_one (ps_ret pe_bl)) pss_nil)
      (pss_one (ps_ret (pe_and (pe_cmpR op_le (pv 3) (pv 2) (nomark _)) (pe_one (pe_cmpR op_le (pe_op op_add (pe_op op_mul pe_int (pe_op op_add (pv 2) (pv 3))) pe_int) (pv 0) (nomark _))))))))), ?_⟩
  refine q_when (b := false) (et_is (a := !decide (V.int 4 = V.int 4)) (et_test (ev_op (ev_lenT (ev_var rfl) hp) ev_c (rv_ne rfl))) rfl) (fun z => by cases z) fun _ H1 e1 => ?_
  refine q_unp4 (by walk_at "ev") (e1 _ _ hp) fun H2 e2 => ?_
  refine q_when (b := false) (et_is (by walk_at "et") (by simp [h1, h2, h3, h4, h5, h6, h7, h8])) (fun z => by cases z) fun _ H3 e3 => ?_
  exact s_ret (v := .bl true) (ev_is (by walk_at "ev") (by simp [h9, h10])) fun H4 e4 => k _ H4 (((e1.trans e2).trans e3).trans e4) rfl
theorem use_isCamera {n : Int} {c : Cam} {v : V} {H : Hp} (h : T4 c v H) (hc : CamOk n c) : SpV spIsCamera [.int n, v] H (.bl true) := spgV fun _ e => ⟨n, c, v, rfl, h.up e, hc, rfl⟩
def spIsStar : Sp := SpG 2 fun vs H R => ∃ n s v, vs = [.int n, v] ∧ T3 s v H ∧ StarOk n s ∧ R = is (.bl true)
abbrev s_is_star : Stmt := top 8
abbrev N_is_star : List PySem.Str := ["side", "star"]
theorem sc_is_star : FnScope N_is_star ["side", "star"] (defScope s_is_star) := ⟨rfl, rfl, rfl, by decide +kernel, rfl, by decide +kernel, by decide +kernel⟩
theorem ok_is_star (B : Bl mg) (D : Df K mg "is_star" s_is_star) : Kn P w K mg base "is_star" 1 ["side", "star"] spIsStar := by
  obtain ⟨f, fd, F, hm⟩ := D
  refine kn_mk F hm (F.binds (ps := ["side", "star"]) fun _ _ _ _ _ _ us hl => match us, hl with | [_, _], _ => rfl) ?_
  refine F.ok sc_is_star (fun vs H Q E h => h.1) (fun cdv A outer s H vs Q E hr h => ?_)
  have hu := hu_of hr
  have nd := sc_is_star.nd
  obtain ⟨_, R, ⟨n, s, v, rfl, ⟨p, rfl, hp⟩, ⟨h1, h2, h3, h4, h5, h6⟩, rfl⟩, k⟩ := h
  refine ⟨_, (pss_one (ps_ret (pe_and (pe_cmpR op_eq (pe_callB call_len_seq (by rfl) B.len (by decide +kernel) (pa_cons (pv 1) pa_nil)) pe_int (nomark _)) (pe_and (pe_chain op_le op_lt pe_int (pe_ix ix_tup (pv 1) pe_int (fun _ _ => rfl)) (pv 0)) (pe_and (pe_chain op_le op_lt pe_int (pe_ix ix_tup (pv 1) pe_int (fun _ _ => rfl)) (pv 0)) (pe_one (pe_chain op_le op_le pe_int (pe_ix ix_tup (pv 1) pe_int (fun _ _ => rfl)) pe_int))))))), ?_⟩
  refine s_ret (v := .bl true) (ev_is (by walk_at "ev") ?_) fun H1 e => k _ H1 e rfl
  simp [h1, h2, h3, h4, h5, h6]
theorem use_isStar {n : Int} {s : Star} {v : V} {H : Hp} (h : T3 s v H) (hs : StarOk n s) : SpV spIsStar [.int n, v] H (.bl true) := spgV fun _ e => ⟨n, s, v, rfl, h.up e, hs, rfl⟩
/-! ### Sky -/
structure Txt (K : PySem.W.Frag) (C : Addr) : Prop where
  cl : Cls K C
  n1 : NoAttr K C "_side"
  n2 : NoAttr K C "_stars"
  n3 : NoAttr K C "_camera"
def StarsIn (l : List Star) (a : Addr) (xs : List V) (H : Hp) : Prop := (H a = some (.lst xs) ∨ H a = some (.tup xs)) ∧ Lst T3 l xs H
def spInit (C : Addr) : Sp := fun vs H Q _ => vs.length = 4 ∧ ∃ (p dx : Addr) (n : Int) (a : Addr) (xs : List V) (ca : Addr) (c : Cam) (l l0 : List Star), vs = [.ref p, .int n, .ref a, .ref ca] ∧ H p = some (.ins C dx []) ∧ StarsIn l a xs H ∧
  H ca = some (.tup [.int c.r, .int c.b, .int c.g, .int c.l]) ∧ SideOk n ∧ CamOk n c ∧ l.length ≤ 20 ∧ (∀ s ∈ l, StarOk n s) ∧ l.Nodup ∧ l.Perm l0 ∧ Srt l0 ∧
  ∀ H' sa ys, (∀ x o, H x = some o → x ≠ p → H' x = some o) → H' p = some (.ins C dx (skyF n sa ca)) → H' sa = some (.tup ys) → Lst T3 l0 ys H' → Q .non H'
abbrev s_Sky___init__ : Stmt := (inClass (top 10) 0)
abbrev N_Sky___init__ : List PySem.Str := ["self", "side", "stars", "camera", "star"]
theorem sc_Sky___init__ : FnScope N_Sky___init__ ["self", "side", "stars", "camera"] (defScope s_Sky___init__) := ⟨rfl, rfl, rfl, by decide +kernel, rfl, by decide +kernel, by decide +kernel⟩
def DfM (K : PySem.W.Frag) (C : Addr) (m qual : PySem.Str) (st : Stmt) : Prop := ∃ (f : Addr) (fd : FuncData), Fun K m qual st f fd ∧ PySem.W.findIn K (.ref C) m = some (some (.ref f)) ∧ PySem.W.isFn K (.ref f) = true
structure KnMk (P : Program) (w : World) (K : PySem.W.Frag) (mg : PySem.Str → Option Value) (base : Heap) (C : Addr) (x : PySem.Str) (k : Nat) (ps : List PySem.Str) (sp : Sp) : Prop where
  ex : ∃ (f : Addr) (fd : FuncData), Mk K C f ∧ FnOk P w K mg base CX0 k f fd ps sp ∧ mg x = some (.ref C) ∧ Binds K fd ps []
theorem pe_mkSky {X : Cx} {C : Addr} {x : PySem.Str} {j k : Nat} {ps : List PySem.Str} {sp : Sp} {p pos : Pos} {e : Expr} {es : List Expr} {t : TA} (M : KnMk X.prog X.w X.K X.mg X.base C x j ps sp) (hr : Room k X.A) (ha : PA X (e :: es) t) (hj : j + 1 ≤ k := by decide) (hg : Gl X x := by rfl)
    (hdb : (x == ("__debug__" : PySem.Str)) = false := by decide) (he : starEach (e :: es) X.env = (false, eval e X.env) :: starEach es X.env := by rfl) (hpl : (backTo pos (starEach es X.env)).any (·.1) = false := by rfl) :
    PE X (.Call (.Name x p) (e :: es) [] pos) (tMake C sp [] E0 t) := by
  obtain ⟨f, fd, h1, h2, h3, h4⟩ := M.ex
  exact pe_make h1 h2 (hr.mono hj) hg h3 h4 .nil pass0 ha hdb he hpl
theorem Lst.bools {bs : List Bool} {xs : List V} {H : Hp} (h : Lst (fun b : Bool => is (V.bl b)) bs xs H) : xs = bs.map V.bl := by
  apply List.ext_getElem?
  intro i
  rw [List.getElem?_map]
  by_cases c : i < xs.length
  · rw [List.getElem?_eq_getElem c]
    obtain ⟨d, hd, hR⟩ := h.2 i xs[i] (List.getElem?_eq_getElem c)
    rw [hd]
    exact congrArg some hR
  · rw [List.getElem?_eq_none (l := xs) (by omega), List.getElem?_eq_none (l := bs) (by rw [← h.1]; omega)]
    rfl
theorem ev_allL {σ : St} {H : Hp} {ta : TE} {bs : List Bool} (ha : EvP ta σ H (ListOf (fun b : Bool => is (V.bl b)) bs)) : Ev (tCB (rAll K) (tCons ta tNil)) σ H (.bl (bs.all id)) := fun H1 e Q q => ha H1 e _ fun v H2 e2 ⟨p, xs, hv, hp, hl⟩ => by
  subst hv
  rw [hl.bools] at hp
  exact ⟨p, bs, rfl, sq_of hp, q H2 e2⟩
theorem ev_anyL {σ : St} {H : Hp} {ta : TE} {bs : List Bool} (ha : EvP ta σ H (ListOf (fun b : Bool => is (V.bl b)) bs)) : Ev (tCB (rAny K) (tCons ta tNil)) σ H (.bl (bs.any id)) := fun H1 e Q q => ha H1 e _ fun v H2 e2 ⟨p, xs, hv, hp, hl⟩ => by
  subst hv
  rw [hl.bools] at hp
  exact ⟨p, bs, rfl, sq_of hp, q H2 e2⟩
theorem ev_lenSet {σ : St} {H : Hp} {ta : TE} {a : Addr} {xs : List V} {l : List Star} (ha : Ev ta σ H (.ref a)) (hs : H a = some (.lst xs) ∨ H a = some (.tup xs)) (hl : Lst T3 l xs H) (h64 : l.length < 64) (hn : l.Nodup) : Ev (tLenSetQ K ta) σ H (.int (l.length : Int)) := fun H1 e Q q => ha H1 e _ fun H2 e2 => by
  have e' := e.trans e2
  have hs2 : SqQ K H2 a xs := by
    rcases hs with h | h
    · exact .inl (sq_of (e' _ _ h))
    · exact .inr (st_of (e' _ _ h))
  exact lenSet hs2 (hl.up st_T3 e') h64 hn (q H2 e2)
theorem s_fld {σ : St} {H : Hp} {D : Ends} {ta tv : TE} {f : PySem.Str} {a C dx : Addr} {fs : List (PySem.Str × V)} {R : PH} (hv : EvP tv σ H R) (hR : Stb R) (ha : Ev ta σ H (.ref a)) (cl : Cls K C) (na : NoAttr K C f) (ho : H a = some (.ins C dx fs)) (hz : fs.length < 1000) (k : ∀ y H1, Ex H H1 → R y H1 → D.nx σ (upd H1 a (.ins C dx (putF f y fs)))) : sFld K ta tv f D σ H :=
  hv H (Ex.refl H) _ fun y H1 e1 r => ha H1 e1 _ fun H2 e2 => ⟨a, C, dx, fs, rfl, (e1.trans e2) _ _ ho, cl, na, hz, k y H2 (e1.trans e2) (hR _ _ _ e2 r)⟩
theorem q_fld {σ : St} {H : Hp} {D : Ends} {tz : TS} {ta tv : TE} {f : PySem.Str} {a C dx : Addr} {fs : List (PySem.Str × V)} {R : PH} (hv : EvP tv σ H R) (hR : Stb R) (ha : Ev ta σ H (.ref a)) (cl : Cls K C) (na : NoAttr K C f) (ho : H a = some (.ins C dx fs)) (hz : fs.length < 1000) (k : ∀ y H1, Ex H H1 → R y H1 → tz D σ (upd H1 a (.ins C dx (putF f y fs)))) : tSeq (sFld K ta tv f) tz D σ H :=
  hv H (Ex.refl H) _ fun y H1 e1 r => ha H1 e1 _ fun H2 e2 => ⟨a, C, dx, fs, rfl, (e1.trans e2) _ _ ho, cl, na, hz, k y H2 (e1.trans e2) (hR _ _ _ e2 r)⟩
theorem len_putF (f : PySem.Str) (v : V) : ∀ fs : List (PySem.Str × V), (putF f v fs).length ≤ fs.length + 1
  | [] => Nat.le_refl _
  | (g, x) :: r => by
    unfold putF
    by_cases c : g = f
    · rw [if_pos c]
      exact Nat.le_succ _
    · rw [if_neg c]
      have := len_putF f v r
      simp only [List.length_cons]
      omega
theorem fl1 {f : PySem.Str} {v : V} : (putF f v []).length < 1000 := Nat.lt_of_le_of_lt (len_putF f v []) (by decide)
theorem fl2 {f g : PySem.Str} {v u : V} : (putF f v (putF g u [])).length < 1000 := Nat.lt_of_le_of_lt (len_putF f v _) (by have := len_putF g u []; simp only [List.length_nil] at this; omega)
def SortedV (l : List Star) : PH := fun v H' => ∃ p ys l', v = .ref p ∧ H' p = some (.tup ys) ∧ Lst T3 l' ys H' ∧ l'.Perm l ∧ Srt l'
theorem st_SortedV (l : List Star) : Stb (SortedV l) := fun v H H' e ⟨p, ys, l', h1, h2, h3, h4⟩ => ⟨p, ys, l', h1, e _ _ h2, h3.up st_T3 e, h4⟩
abbrev rTup (K : PySem.W.Frag) : List V → Hp → VK → Prop := fun xs H Q => ∃ p ys, xs = [.ref p] ∧ ((SqL K H p ys ∧ ∀ l, H l = none → Q (.ref l) (upd H l (.tup ys))) ∨ (SqT K H p ys ∧ Q (.ref p) H))
theorem evp_tupSort {σ : St} {H : Hp} {ta : TE} {a : Addr} {xs : List V} {l : List Star} (ha : Ev ta σ H (.ref a)) (hs : H a = some (.lst xs) ∨ H a = some (.tup xs)) (hl : Lst T3 l xs H) (h64 : l.length < 64) (hd : ∀ s ∈ l, Digs s) :
    EvP (tCB (rTup K) (tCons (tCB (rSortQ K 3 10) (tCons ta tNil)) tNil)) σ H (SortedV l) := fun H1 e Q q =>
  ev_sortS ha hs hl h64 hd H1 e _ fun v H2 e2 ⟨p, ys, l', hv, _, hp, h1, h2, h3⟩ => by
    subst hv
    refine ⟨p, ys, rfl, .inl ⟨sq_of hp, fun t ht => ?_⟩⟩
    have en : Ex H2 (upd H2 t (.tup ys)) := Ex.new ht
    exact q _ _ (e2.trans en) ⟨t, ys, l', rfl, upd_same, h1.up st_T3 en, h2, h3⟩
theorem ok_init {C : Addr} (B : Bl mg) (T : Txt K C) {u : Value} (c_MOST_STARS : RelV (.int 20) u ∧ mg "MOST_STARS" = some u) (hmk : PySem.W.makesIn K C = true) (hkp : PySem.W.keepIn K (.ref C) = true) (hmg : mg "Sky" = some (.ref C)) (G_is_camera : Kn P w K mg base "is_camera" 1 ["side", "camera"] spIsCamera) (G_is_star : Kn P w K mg base "is_star" 1 ["side", "star"] spIsStar)
    (D : DfM K C "__init__" "Sky.__init__" s_Sky___init__) : KnMk P w K mg base C "Sky" 2 ["self", "side", "stars", "camera"] (spInit C) := by
  obtain ⟨f, fd, F, hf, hfn⟩ := D
  refine ⟨f, fd, ⟨hmk, hf, hfn, hkp⟩, ?_, hmg, F.binds (ps := ["self", "side", "stars", "camera"]) fun _ _ _ _ _ _ us hl => match us, hl with | [_, _, _, _], _ => rfl⟩
  refine F.ok sc_Sky___init__ (fun vs H Q E h => h.1) (fun cdv A outer s H vs Q E hr h => ?_)
  have hu := hu_of hr
  have nd := sc_Sky___init__.nd
  obtain ⟨_, p, dx, n, a, xs, ca, c, l, l0, rfl, hp, ⟨hs, hl⟩, hca, hn, hc, hlen, hok, hnd, hperm, hsrt, k⟩ := h
  have hn4 : 4 ≤ n ∧ n ≤ 9 := by rcases hn with e | e | e <;> rw [e] <;> decide
  have hxl : xs.length = l.length := hl.1
  rcases hs with hs | hs
  · refine ⟨_, (pss_cons (ps_if (PW.pt (pw_or (pt_not (pt_chain op_le op_le pe_int (pv 1) pe_int)) (pw_or1 (pt_not (pt_val (pe_own G_is_camera hr (pa_cons (pv 1) (pa_cons (pv 3) pa_nil)))))))) (pss_one ps_never) pss_nil)
      (pss_cons (ps_if (PW.pt (pw_or (pt_cmpR op_gt (pe_callB call_len_seq (by rfl) B.len (by decide +kernel) (pa_cons (pv 2) pa_nil)) (pe_glob rfl c_MOST_STARS.2 c_MOST_STARS.1) (nomark _)) (pw_or1 (pt_not (pt_val (pe_callB (cr_all rfl) (by rfl) B.all (by decide +kernel) (pa_cons (pe_lc (own := [("star", 4)]) rfl nd (pi_list (pv 2)) (blkOk_by (N := N_Sky___init__) (sc := defScope s_Sky___init__) (by decide +kernel)) (fun _ _ _ _ _ => (pg_name (i := 4) nd rfl (by first | exact Or.inl rfl | exact Or.inr rfl))) (fun _ _ _ _ _ => pts_nil) (fun _ _ _ _ _ => (pe_own G_is_star hr (pa_cons (pv 1) (pa_cons (pv 4) pa_nil))))) pa_nil))))))) (pss_one ps_never) pss_nil)
      (pss_cons (ps_if (pt_cmpR op_ne (pe_lenSetQ hr rfl (by rfl) B.len (by rfl) B.set (pv 2)) (pe_callB call_len_seq (by rfl) B.len (by decide +kernel) (pa_cons (pv 2) pa_nil)) (nomark _)) (pss_one ps_never) pss_nil)
      (pss_cons (ps_fld (pv 0) (pv 1) rfl)
      (pss_cons (ps_fld (pv 0) (pe_callTy call_tuple_of (by rfl) B.tuple (by decide +kernel) (pa_cons (pe_callB (cr_sortQ (d := 3) (B := 10) (by decide)) (by rfl) B.sorted (by decide +kernel) (pa_cons (pv 2) pa_nil)) pa_nil)) rfl)
      (pss_one (ps_fld (pv 0) (pv 3) rfl))))))), ?_⟩
    refine q_when (b := false) (et_is (et_or (et_not (by walk_at "et")) (fun _ => et_not (et_B (ev_callV (by walk_at "ea") (use_isCamera (n := n) (c := c) ⟨ca, rfl, hca⟩ hc))))) (by simp [hn4.1, hn4.2])) (fun z => by cases z) fun _ H1 e1 => ?_
    have hall : EvP _ _ H1 (ListOf (fun b : Bool => is (V.bl b)) (List.replicate xs.length true)) := ev_lcN (j := 4) (G := fun H => SqL K H a xs) (Y := YAt xs) (fun b => im_is _) (walks_lst (K := K) (ev_var (i := 2) (σ := [some (.ref p), some (.int n), some (.ref a), some (.ref ca), none]) rfl) (e1 _ _ hs)) walk_list (fun H2 e2 => sq_of (e2 _ _ (e1 _ _ hs))) (fun i => List.replicate i true) rfl (by omega) (te := tCall spIsStar [] E0 (tCons (tVar 1) (tCons (tVar 4) tNil))) (tt := tYes) (vs := [4]) (by
      rintro i x H2 H3 hi e2 ⟨rfl, hx⟩
      obtain ⟨d, hd, hR⟩ := hl.2 i x hx
      exact ⟨Ex.refl _, rfl, true, fun H4 e4 Q' q' => q' H4 (Ex.refl H4), fun _ => ⟨true, List.replicate_succ', K77.Ev.p (ev_callV (by walk_at "ea") (use_isStar (T3.up (e1.trans e2) hR) (hok d (List.mem_of_getElem? hd)))) fun _ _ => rfl⟩, fun z => by cases z⟩)
    refine q_when (b := false) (et_is (et_or (a := decide (20 < (xs.length : Int))) (b := !(List.replicate xs.length true).all id) (by walk_at "et") (fun _ => et_not (et_B (ev_allL hall)))) (by simp; omega)) (fun z => by cases z) fun _ H2 e2 => ?_
    have e12 := e1.trans e2
    refine q_when (b := false) (et_is (a := !decide (V.int (l.length : Int) = V.int (xs.length : Int))) (et_test (ev_op (ev_lenSet (ev_var rfl) (Or.inl (e12 _ _ hs)) (hl.up st_T3 e12) (by omega) hnd) (ev_lenL (ev_var rfl) (e12 _ _ hs)) (rv_ne rfl))) (by simp [hxl])) (fun z => by cases z) fun _ H3 e3 => ?_
    have e13 := e12.trans e3
    refine q_fld (K77.Ev.p (R := is (.int n)) (ev_var rfl) fun _ _ => rfl) (fun _ _ _ _ h => h) (ev_var rfl) T.cl T.n1 (e13 _ _ hp) (by decide) fun y H4 e4 hy => ?_
    have e14 := e13.trans e4
    have np : a ≠ p := fun z => by
      rw [z, hp] at hs
      cases hs
    have npc : ca ≠ p := fun z => by
      rw [z, hp] at hca
      cases hca
    have hl4 : Lst T3 l xs (upd H4 p (.ins C dx (putF "_side" y []))) := hl.tups im_T3 ((Tups.of e14).trans (Tups.upd (e14 _ _ hp) fun _ z => by cases z))
    have hs4 : (upd H4 p (.ins C dx (putF "_side" y []))) a = some (.lst xs) := by
      rw [upd_ne np]
      exact e14 _ _ hs
    refine q_fld (evp_tupSort (ev_var rfl) (Or.inl hs4) hl4 (by omega) fun s hs => (hok s hs).digs hn) (st_SortedV l) (ev_var rfl) T.cl T.n2 upd_same fl1 fun y2 H5 e5 ⟨sa, ys, l', hy2, hsa, hLys, hpl, hso⟩ => ?_
    have hl0 : l' = l0 := srt_same (hpl.trans hperm) hso hsrt fun s hs => (hok s (hpl.mem_iff.mp hs)).digs hn
    subst hl0
    refine s_fld (K77.Ev.p (R := is (.ref ca)) (ev_var rfl) fun _ _ => rfl) (fun _ _ _ _ h => h) (ev_var rfl) T.cl T.n3 upd_same fl2 fun y3 H6 e6 hy3 => ?_
    subst hy hy2 hy3
    have hp5 := e5 _ _ (upd_same (H := H4) (a := p) (o := .ins C dx (putF "_side" (.int n) [])))
    have t5 : Tups H5 (upd H5 p (.ins C dx (putF "_stars" (.ref sa) (putF "_side" (.int n) [])))) := Tups.upd hp5 fun _ z => by cases z
    have hp6 := e6 _ _ (upd_same (H := H5) (a := p) (o := .ins C dx (putF "_stars" (.ref sa) (putF "_side" (.int n) []))))
    have t6 : Tups H6 (upd H6 p (.ins C dx (putF "_camera" (.ref ca) (putF "_stars" (.ref sa) (putF "_side" (.int n) []))))) := Tups.upd hp6 fun _ z => by cases z
    have t56 := (t5.trans (.of e6)).trans t6
    refine k _ sa ys (fun x o hx hne => ?_) upd_same (t56 _ _ hsa) (hLys.tups im_T3 t56)
    rw [upd_ne hne]
    refine e6 _ _ ?_
    rw [upd_ne hne]
    refine e5 _ _ ?_
    rw [upd_ne hne]
    exact e14 _ _ hx
  · refine ⟨_, (pss_cons (ps_if (PW.pt (pw_or (pt_not (pt_chain op_le op_le pe_int (pv 1) pe_int)) (pw_or1 (pt_not (pt_val (pe_own G_is_camera hr (pa_cons (pv 1) (pa_cons (pv 3) pa_nil)))))))) (pss_one ps_never) pss_nil)
      (pss_cons (ps_if (PW.pt (pw_or (pt_cmpR op_gt (pe_callB call_len_seq (by rfl) B.len (by decide +kernel) (pa_cons (pv 2) pa_nil)) (pe_glob rfl c_MOST_STARS.2 c_MOST_STARS.1) (nomark _)) (pw_or1 (pt_not (pt_val (pe_callB (cr_all rfl) (by rfl) B.all (by decide +kernel) (pa_cons (pe_lc (own := [("star", 4)]) rfl nd (pi_tup (pv 2)) (blkOk_by (N := N_Sky___init__) (sc := defScope s_Sky___init__) (by decide +kernel)) (fun _ _ _ _ _ => (pg_name (i := 4) nd rfl (by first | exact Or.inl rfl | exact Or.inr rfl))) (fun _ _ _ _ _ => pts_nil) (fun _ _ _ _ _ => (pe_own G_is_star hr (pa_cons (pv 1) (pa_cons (pv 4) pa_nil))))) pa_nil))))))) (pss_one ps_never) pss_nil)
      (pss_cons (ps_if (pt_cmpR op_ne (pe_lenSetQ hr rfl (by rfl) B.len (by rfl) B.set (pv 2)) (pe_callB call_len_seq (by rfl) B.len (by decide +kernel) (pa_cons (pv 2) pa_nil)) (nomark _)) (pss_one ps_never) pss_nil)
      (pss_cons (ps_fld (pv 0) (pv 1) rfl)
      (pss_cons (ps_fld (pv 0) (pe_callTy call_tuple_of (by rfl) B.tuple (by decide +kernel) (pa_cons (pe_callB (cr_sortQ (d := 3) (B := 10) (by decide)) (by rfl) B.sorted (by decide +kernel) (pa_cons (pv 2) pa_nil)) pa_nil)) rfl)
      (pss_one (ps_fld (pv 0) (pv 3) rfl))))))), ?_⟩
    refine q_when (b := false) (et_is (et_or (et_not (by walk_at "et")) (fun _ => et_not (et_B (ev_callV (by walk_at "ea") (use_isCamera (n := n) (c := c) ⟨ca, rfl, hca⟩ hc))))) (by simp [hn4.1, hn4.2])) (fun z => by cases z) fun _ H1 e1 => ?_
    have hall : EvP _ _ H1 (ListOf (fun b : Bool => is (V.bl b)) (List.replicate xs.length true)) := ev_lcN (j := 4) (G := fun H => SqT K H a xs) (Y := YAt xs) (fun b => im_is _) (walks_tup (K := K) (ev_var (i := 2) (σ := [some (.ref p), some (.int n), some (.ref a), some (.ref ca), none]) rfl) (e1 _ _ hs)) walk_tup (fun H2 e2 => st_of (e2 _ _ (e1 _ _ hs))) (fun i => List.replicate i true) rfl (by omega) (te := tCall spIsStar [] E0 (tCons (tVar 1) (tCons (tVar 4) tNil))) (tt := tYes) (vs := [4]) (by
      rintro i x H2 H3 hi e2 ⟨rfl, hx⟩
      obtain ⟨d, hd, hR⟩ := hl.2 i x hx
      exact ⟨Ex.refl _, rfl, true, fun H4 e4 Q' q' => q' H4 (Ex.refl H4), fun _ => ⟨true, List.replicate_succ', K77.Ev.p (ev_callV (by walk_at "ea") (use_isStar (T3.up (e1.trans e2) hR) (hok d (List.mem_of_getElem? hd)))) fun _ _ => rfl⟩, fun z => by cases z⟩)
    refine q_when (b := false) (et_is (et_or (a := decide (20 < (xs.length : Int))) (b := !(List.replicate xs.length true).all id) (by walk_at "et") (fun _ => et_not (et_B (ev_allL hall)))) (by simp; omega)) (fun z => by cases z) fun _ H2 e2 => ?_
    have e12 := e1.trans e2
    refine q_when (b := false) (et_is (a := !decide (V.int (l.length : Int) = V.int (xs.length : Int))) (et_test (ev_op (ev_lenSet (ev_var rfl) (Or.inr (e12 _ _ hs)) (hl.up st_T3 e12) (by omega) hnd) (ev_lenT (ev_var rfl) (e12 _ _ hs)) (rv_ne rfl))) (by simp [hxl])) (fun z => by cases z) fun _ H3 e3 => ?_
    have e13 := e12.trans e3
    refine q_fld (K77.Ev.p (R := is (.int n)) (ev_var rfl) fun _ _ => rfl) (fun _ _ _ _ h => h) (ev_var rfl) T.cl T.n1 (e13 _ _ hp) (by decide) fun y H4 e4 hy => ?_
    have e14 := e13.trans e4
    have np : a ≠ p := fun z => by
      rw [z, hp] at hs
      cases hs
    have npc : ca ≠ p := fun z => by
      rw [z, hp] at hca
      cases hca
    have hl4 : Lst T3 l xs (upd H4 p (.ins C dx (putF "_side" y []))) := hl.tups im_T3 ((Tups.of e14).trans (Tups.upd (e14 _ _ hp) fun _ z => by cases z))
    have hs4 : (upd H4 p (.ins C dx (putF "_side" y []))) a = some (.tup xs) := by
      rw [upd_ne np]
      exact e14 _ _ hs
    refine q_fld (evp_tupSort (ev_var rfl) (Or.inr hs4) hl4 (by omega) fun s hs => (hok s hs).digs hn) (st_SortedV l) (ev_var rfl) T.cl T.n2 upd_same fl1 fun y2 H5 e5 ⟨sa, ys, l', hy2, hsa, hLys, hpl, hso⟩ => ?_
    have hl0 : l' = l0 := srt_same (hpl.trans hperm) hso hsrt fun s hs => (hok s (hpl.mem_iff.mp hs)).digs hn
    subst hl0
    refine s_fld (K77.Ev.p (R := is (.ref ca)) (ev_var rfl) fun _ _ => rfl) (fun _ _ _ _ h => h) (ev_var rfl) T.cl T.n3 upd_same fl2 fun y3 H6 e6 hy3 => ?_
    subst hy hy2 hy3
    have hp5 := e5 _ _ (upd_same (H := H4) (a := p) (o := .ins C dx (putF "_side" (.int n) [])))
    have t5 : Tups H5 (upd H5 p (.ins C dx (putF "_stars" (.ref sa) (putF "_side" (.int n) [])))) := Tups.upd hp5 fun _ z => by cases z
    have hp6 := e6 _ _ (upd_same (H := H5) (a := p) (o := .ins C dx (putF "_stars" (.ref sa) (putF "_side" (.int n) []))))
    have t6 : Tups H6 (upd H6 p (.ins C dx (putF "_camera" (.ref ca) (putF "_stars" (.ref sa) (putF "_side" (.int n) []))))) := Tups.upd hp6 fun _ z => by cases z
    have t56 := (t5.trans (.of e6)).trans t6
    refine k _ sa ys (fun x o hx hne => ?_) upd_same (t56 _ _ hsa) (hLys.tups im_T3 t56)
    rw [upd_ne hne]
    refine e6 _ _ ?_
    rw [upd_ne hne]
    refine e5 _ _ ?_
    rw [upd_ne hne]
    exact e14 _ _ hx
end
end K77
end

section
set_option maxRecDepth 100000
set_option maxHeartbeats 4000000
namespace K77
open PySem L2 Evl
local macro_rules | `(tactic| walk_at "at") => `(tactic| first | assumption | exact Ex.get (by assumption) (by assumption))
local macro_rules | `(tactic| walk_at "sk") => `(tactic| first | assumption | exact SkyA.up (by assumption) (by assumption))
local macro_rules | `(tactic| walk_at "rv") => `(tactic| first
  | with_reducible exact rv_I0
  | with_reducible exact rv_isN
  | with_reducible exact rv_notN
  | (with_reducible show RV (rI (fun _ j => 0 < j) fun i j => .int (i % j)) _ _ _ _; exact rv_mod (by first | assumption | omega))
  | (with_reducible show RV (rI CMul _) _ _ _ _; exact rv_mul (by first | exact mul_l (by omega) | exact mul_r (by omega)))
  | (with_reducible show RV (rI CDiv _) _ _ _ _; exact rv_fdiv (div_ok (by omega)))
  | (with_reducible show RV (rIxT _) _ _ _ _; exact rv_tup (by walk_at "at") rfl)
  | (with_reducible show RV rEq _ _ _ _; exact rv_eq rfl)
  | (with_reducible show RV rNe _ _ _ _; exact rv_ne rfl))
local macro_rules | `(tactic| walk_at "ev") => `(tactic| first
  | (with_reducible show Ev (tVar _) _ _ _; exact ev_var rfl)
  | (with_reducible show Ev (tC _) _ _ _; exact ev_c)
  | (with_reducible show Ev (tOp _ _ _) _ _ _; exact ev_op (by walk_at "ev") (by walk_at "ev") (by walk_at "rv"))
  | (with_reducible show Ev (tProp _ _ _ _ _) _ _ _; exact ev_sky (by walk_at "ev") (by walk_at "sk"))
  | (with_reducible show Ev (tCB rAbs _) _ _ _; exact ev_abs (by walk_at "ev"))
  | (with_reducible show Ev (tCB rMax _) _ _ _; exact ev_max (by walk_at "ev") (by walk_at "ev"))
  | (with_reducible show Ev (tCB rMin _) _ _ _; exact ev_min (by walk_at "ev") (by walk_at "ev"))
  | (with_reducible show Ev (tCB rInt _) _ _ _; exact ev_int (by walk_at "ev"))
  | (with_reducible show Ev (tCB rInt _) _ _ _; exact ev_intB (by walk_at "ev"))
  | (with_reducible show Ev (tChain _ _ _ _ _) _ _ _; exact ev_chain (by walk_at "ev") (by walk_at "ev") (by walk_at "ev"))
  | (with_reducible show Ev (tAndV _ _) _ _ _; exact ev_andV (by walk_at "ev") (fun _ => by walk_at "ev"))
  | (with_reducible show Ev (tOrV _ _) _ _ _; exact ev_orV (by walk_at "ev") (fun _ => by walk_at "ev"))
  | (with_reducible show Ev (tCB (rLenQ _) _) _ _ _; exact ev_lenL (by walk_at "ev") (by walk_at "at"))
  | (with_reducible show Ev (tCB (rLenQ _) _) _ _ _; exact ev_lenT (by walk_at "ev") (by walk_at "at"))
  | (with_reducible show Ev (tUn _ _) _ _ _; exact ev_un (by walk_at "ev") ru_neg))
local macro_rules | `(tactic| walk_at "et") => `(tactic| first
  | (with_reducible show EvT (tTest _) _ _ _; exact et_test (by walk_at "ev"))
  | (with_reducible show EvT (tB _) _ _ _; exact et_B (by walk_at "ev"))
  | (with_reducible show EvT (tNot _) _ _ _; exact et_not (by walk_at "et"))
  | (with_reducible show EvT (tAnd _ _) _ _ _; exact et_and (by walk_at "et") (fun _ => by walk_at "et"))
  | (with_reducible show EvT (tOr _ _) _ _ _; exact et_or (by walk_at "et") (fun _ => by walk_at "et"))
  | exact et_tru (by walk_at "ev") (by walk_at "at"))
local macro_rules | `(tactic| walk_at "ea") => `(tactic| first
  | (with_reducible show EvA tNil _ _ _; exact ea_nil)
  | (with_reducible show EvA (tCons _ _) _ _ _; exact ea_cons (by walk_at "ev") (by walk_at "ea")))
section
variable {P : Program} {w : World} {K : PySem.W.Frag} {mg : PySem.Str → Option Value} {base : Heap}
theorem ev_fldA {C : Addr} {f : PySem.Str} {σ : St} {H : Hp} {ta : TE} {p dx : Addr} {fs : List (PySem.Str × V)} {v : V} (hv : Ev ta σ H (.ref p)) (cl : Cls K C) (na : NoAttr K C f) (ho : H p = some (.ins C dx fs)) (hf : fs.lookup f = some v) : Ev (tFld K ta f) σ H v := fun H1 e Q q =>
  hv H1 e _ fun H2 e2 => ⟨p, C, dx, fs, v, rfl, (e.trans e2) _ _ ho, cl, na, hf, q H2 e2⟩
def DfP (K : PySem.W.Frag) (C : Addr) (f qual : PySem.Str) (st : Stmt) : Prop := ∃ (p g : Addr) (fd : FuncData), PropOf K C f p g ∧ Fun K f qual st g fd
theorem look_side {n : Int} {sa ca : Addr} : (skyF n sa ca).lookup ("_side" : PySem.Str) = some (V.int n) := by unfold skyF; rfl
theorem look_stars {n : Int} {sa ca : Addr} : (skyF n sa ca).lookup ("_stars" : PySem.Str) = some (V.ref sa) := by unfold skyF; rfl
theorem look_camera {n : Int} {sa ca : Addr} : (skyF n sa ca).lookup ("_camera" : PySem.Str) = some (V.ref ca) := by unfold skyF; rfl
abbrev s_Sky_side : Stmt := (inClass (top 10) 1)
abbrev N_Sky_side : List PySem.Str := ["self"]
theorem sc_Sky_side : FnScope N_Sky_side ["self"] (defScope s_Sky_side) := ⟨rfl, rfl, rfl, by decide +kernel, rfl, by decide +kernel, by decide +kernel⟩
theorem ok_p_side {C : Addr} (T : Txt K C) (D : DfP K C "side" "Sky.side" s_Sky_side) : KnP P w K mg base C "side" (prSide C) := by
  obtain ⟨p, g, fd, hp, F⟩ := D
  refine ⟨T.cl, p, g, fd, hp, ?_, F.binds (ps := ["self"]) fun _ _ _ _ _ _ us hl => match us, hl with | [_], _ => rfl⟩
  refine F.ok sc_Sky_side (fun vs H Q E h => h.1) (fun cdv A outer s H vs Q E hr h => ?_)
  have nd := sc_Sky_side.nd
  obtain ⟨_, R, ⟨S, p, sa, ca, xs, rfl, hS, rfl⟩, k⟩ := h
  obtain ⟨dx, ho⟩ := hS.ob
  refine ⟨_, (pss_one (ps_ret (pe_fld (pv 0) rfl))), ?_⟩
  exact s_ret (ev_fldA (ev_var rfl) T.cl T.n1 ho look_side) fun H1 e => k _ H1 e rfl
abbrev s_Sky_stars : Stmt := (inClass (top 10) 2)
abbrev N_Sky_stars : List PySem.Str := ["self"]
theorem sc_Sky_stars : FnScope N_Sky_stars ["self"] (defScope s_Sky_stars) := ⟨rfl, rfl, rfl, by decide +kernel, rfl, by decide +kernel, by decide +kernel⟩
theorem ok_p_stars {C : Addr} (T : Txt K C) (D : DfP K C "stars" "Sky.stars" s_Sky_stars) : KnP P w K mg base C "stars" (prStars C) := by
  obtain ⟨p, g, fd, hp, F⟩ := D
  refine ⟨T.cl, p, g, fd, hp, ?_, F.binds (ps := ["self"]) fun _ _ _ _ _ _ us hl => match us, hl with | [_], _ => rfl⟩
  refine F.ok sc_Sky_stars (fun vs H Q E h => h.1) (fun cdv A outer s H vs Q E hr h => ?_)
  have nd := sc_Sky_stars.nd
  obtain ⟨_, R, ⟨S, p, sa, ca, xs, rfl, hS, rfl⟩, k⟩ := h
  obtain ⟨dx, ho⟩ := hS.ob
  refine ⟨_, (pss_one (ps_ret (pe_fld (pv 0) rfl))), ?_⟩
  exact s_ret (ev_fldA (ev_var rfl) T.cl T.n2 ho look_stars) fun H1 e => k _ H1 e rfl
abbrev s_Sky_reach : Stmt := (inClass (top 10) 4)
abbrev N_Sky_reach : List PySem.Str := ["self"]
theorem sc_Sky_reach : FnScope N_Sky_reach ["self"] (defScope s_Sky_reach) := ⟨rfl, rfl, rfl, by decide +kernel, rfl, by decide +kernel, by decide +kernel⟩
theorem ok_p_reach {C : Addr} (T : Txt K C) (D : DfP K C "reach" "Sky.reach" s_Sky_reach) : KnP P w K mg base C "reach" (prReach C) := by
  obtain ⟨p, g, fd, hp, F⟩ := D
  refine ⟨T.cl, p, g, fd, hp, ?_, F.binds (ps := ["self"]) fun _ _ _ _ _ _ us hl => match us, hl with | [_], _ => rfl⟩
  refine F.ok sc_Sky_reach (fun vs H Q E h => h.1) (fun cdv A outer s H vs Q E hr h => ?_)
  have nd := sc_Sky_reach.nd
  obtain ⟨_, R, ⟨S, p, sa, ca, xs, rfl, hS, rfl⟩, k⟩ := h
  obtain ⟨dx, ho⟩ := hS.ob
  refine ⟨_, (pss_one (ps_ret (pe_ix ix_tup (pe_fld (pv 0) rfl) pe_int (fun _ _ => rfl)))), ?_⟩
  exact s_ret (ev_op (ev_fldA (ev_var rfl) T.cl T.n3 ho look_camera) ev_c (rv_tup hS.cm rfl)) fun H1 e => k _ H1 e rfl
abbrev s_Sky_blur : Stmt := (inClass (top 10) 5)
abbrev N_Sky_blur : List PySem.Str := ["self"]
theorem sc_Sky_blur : FnScope N_Sky_blur ["self"] (defScope s_Sky_blur) := ⟨rfl, rfl, rfl, by decide +kernel, rfl, by decide +kernel, by decide +kernel⟩
theorem ok_p_blur {C : Addr} (T : Txt K C) (D : DfP K C "blur" "Sky.blur" s_Sky_blur) : KnP P w K mg base C "blur" (prBlur C) := by
  obtain ⟨p, g, fd, hp, F⟩ := D
  refine ⟨T.cl, p, g, fd, hp, ?_, F.binds (ps := ["self"]) fun _ _ _ _ _ _ us hl => match us, hl with | [_], _ => rfl⟩
  refine F.ok sc_Sky_blur (fun vs H Q E h => h.1) (fun cdv A outer s H vs Q E hr h => ?_)
  have nd := sc_Sky_blur.nd
  obtain ⟨_, R, ⟨S, p, sa, ca, xs, rfl, hS, rfl⟩, k⟩ := h
  obtain ⟨dx, ho⟩ := hS.ob
  refine ⟨_, (pss_one (ps_ret (pe_ix ix_tup (pe_fld (pv 0) rfl) pe_int (fun _ _ => rfl)))), ?_⟩
  exact s_ret (ev_op (ev_fldA (ev_var rfl) T.cl T.n3 ho look_camera) ev_c (rv_tup hS.cm rfl)) fun H1 e => k _ H1 e rfl
abbrev s_Sky_glare : Stmt := (inClass (top 10) 6)
abbrev N_Sky_glare : List PySem.Str := ["self"]
theorem sc_Sky_glare : FnScope N_Sky_glare ["self"] (defScope s_Sky_glare) := ⟨rfl, rfl, rfl, by decide +kernel, rfl, by decide +kernel, by decide +kernel⟩
theorem ok_p_glare {C : Addr} (T : Txt K C) (D : DfP K C "glare" "Sky.glare" s_Sky_glare) : KnP P w K mg base C "glare" (prGlare C) := by
  obtain ⟨p, g, fd, hp, F⟩ := D
  refine ⟨T.cl, p, g, fd, hp, ?_, F.binds (ps := ["self"]) fun _ _ _ _ _ _ us hl => match us, hl with | [_], _ => rfl⟩
  refine F.ok sc_Sky_glare (fun vs H Q E h => h.1) (fun cdv A outer s H vs Q E hr h => ?_)
  have nd := sc_Sky_glare.nd
  obtain ⟨_, R, ⟨S, p, sa, ca, xs, rfl, hS, rfl⟩, k⟩ := h
  obtain ⟨dx, ho⟩ := hS.ob
  refine ⟨_, (pss_one (ps_ret (pe_ix ix_tup (pe_fld (pv 0) rfl) pe_int (fun _ _ => rfl)))), ?_⟩
  exact s_ret (ev_op (ev_fldA (ev_var rfl) T.cl T.n3 ho look_camera) ev_c (rv_tup hS.cm rfl)) fun H1 e => k _ H1 e rfl
abbrev s_Sky_limit : Stmt := (inClass (top 10) 7)
abbrev N_Sky_limit : List PySem.Str := ["self"]
theorem sc_Sky_limit : FnScope N_Sky_limit ["self"] (defScope s_Sky_limit) := ⟨rfl, rfl, rfl, by decide +kernel, rfl, by decide +kernel, by decide +kernel⟩
theorem ok_p_limit {C : Addr} (T : Txt K C) (D : DfP K C "limit" "Sky.limit" s_Sky_limit) : KnP P w K mg base C "limit" (prLimit C) := by
  obtain ⟨p, g, fd, hp, F⟩ := D
  refine ⟨T.cl, p, g, fd, hp, ?_, F.binds (ps := ["self"]) fun _ _ _ _ _ _ us hl => match us, hl with | [_], _ => rfl⟩
  refine F.ok sc_Sky_limit (fun vs H Q E h => h.1) (fun cdv A outer s H vs Q E hr h => ?_)
  have nd := sc_Sky_limit.nd
  obtain ⟨_, R, ⟨S, p, sa, ca, xs, rfl, hS, rfl⟩, k⟩ := h
  obtain ⟨dx, ho⟩ := hS.ob
  refine ⟨_, (pss_one (ps_ret (pe_ix ix_tup (pe_fld (pv 0) rfl) pe_int (fun _ _ => rfl)))), ?_⟩
  exact s_ret (ev_op (ev_fldA (ev_var rfl) T.cl T.n3 ho look_camera) ev_c (rv_tup hS.cm rfl)) fun H1 e => k _ H1 e rfl
/-! ### a sky is made -/
/-- what a sky's stars are -/
structure StOk (n : Int) (l : List Star) : Prop where
  few : l.length ≤ 20
  ok : ∀ s ∈ l, StarOk n s
  nd : l.Nodup
  srt : Srt l
theorem evp_mk {C : Addr} {σ : St} {H : Hp} {ta : TA} {n : Int} {a ca : Addr} {xs : List V} {c : Cam} {l l0 : List Star} (ha : EvA ta σ H [.int n, .ref a, .ref ca]) (hs : H a = some (.lst xs) ∨ H a = some (.tup xs)) (hl : Lst T3 l xs H)
    (hc : H ca = some (.tup [.int c.r, .int c.b, .int c.g, .int c.l])) (hn : SideOk n) (hok : CamOk n c) (hp : l.Perm l0) (h0 : StOk n l0) : EvP (tMake C (spInit C) [] E0 ta) σ H (SkyAt C ⟨n, l0, c⟩) := fun H1 e Q q => ha H1 e _ fun H2 e2 p dx hp0 hd0 hne => by
  have e' := e.trans e2
  have en : Ex H2 (upd (upd H2 dx (.own p)) p (.ins C dx [])) := fun x o hx => by
    rw [upd_ne (fun z => by rw [z, hp0] at hx; cases hx), upd_ne (fun z => by rw [z, hd0] at hx; cases hx)]
    exact hx
  have e3 := e'.trans en
  refine ⟨rfl, p, dx, n, a, xs, ca, c, l, l0, rfl, upd_same, ⟨?_, hl.up st_T3 e3⟩, e3 _ _ hc, hn, hok, by rw [hp.length_eq]; exact h0.few, fun s hs => h0.ok s (hp.mem_iff.mp hs), hp.nodup_iff.mpr h0.nd, hp, h0.srt, fun H' sa ys fr ho hsa hly => ?_⟩
  · rcases hs with h | h
    · exact .inl (e3 _ _ h)
    · exact .inr (e3 _ _ h)
  · have e4 : Ex H2 H' := fun x o hx => fr x o (en x o hx) (fun z => by rw [z, hp0] at hx; cases hx)
    exact ⟨rfl, q _ _ (e2.trans e4) ⟨p, sa, ca, ys, rfl, ⟨dx, ho⟩, hsa, hly, (e'.trans e4) _ _ hc⟩⟩
/-! ### with_camera -/
structure KnMt (P : Program) (w : World) (K : PySem.W.Frag) (mg : PySem.Str → Option Value) (base : Heap) (C : Addr) (m : PySem.Str) (k : Nat) (ps : List PySem.Str) (sp : Sp) : Prop where
  cl : Cls K C
  ex : ∃ (f : Addr) (fd : FuncData), Meth K C m f ∧ FnOk P w K mg base CX0 k f fd ps sp ∧ Binds K fd ps []
theorem pe_withCam {X : Cx} {C : Addr} {m : PySem.Str} {j k : Nat} {ps : List PySem.Str} {sp : Sp} {pos apos : Pos} {o e : Expr} {es : List Expr} {ta : TE} {t : TA} {pl : Sem Bool} (M : KnMt X.prog X.w X.K X.mg X.base C m j ps sp) (hr : Room k X.A) (he : PE X o ta) (ha : PA X (e :: es) t) (hj : j ≤ k := by decide)
    (hst : starEach (e :: es) X.env = (false, eval e X.env) :: starEach es X.env := by rfl) (hpl : (backTo pos (starEach es X.env)).any (·.1) = false := by rfl)
    (ht : eval (.Call (.Attribute o m apos) (e :: es) [] pos) X.env = (do
      let ov ← eval o X.env
      standAt apos.atName
      let (f, first) ← holding [ov] (getMethod ov m pl)
      callWith pos f first (backTo pos (starEach (e :: es) X.env)) (backToKw pos (keywordEach [] X.env))) := by rfl) :
    PE X (.Call (.Attribute o m apos) (e :: es) [] pos) (tMeth C m sp [] E0 ta t) := by
  obtain ⟨f, fd, h1, h2, h3⟩ := M.ex
  exact pe_meth he M.cl h1 h2 (hr.mono hj) h3 .nil pass0 ha hst hpl ht
def spWith (C : Addr) : Sp := SpG 2 fun vs H R => ∃ S p sa ca xs cb c, vs = [.ref p, .ref cb] ∧ SkyA C S p sa ca xs H ∧ H cb = some (.tup [.int c.r, .int c.b, .int c.g, .int c.l]) ∧ SideOk S.n ∧ CamOk S.n c ∧ StOk S.n S.st ∧ R = SkyAt C ⟨S.n, S.st, c⟩
abbrev s_Sky_with_camera : Stmt := (inClass (top 10) 13)
abbrev N_Sky_with_camera : List PySem.Str := ["self", "camera"]
theorem sc_Sky_with_camera : FnScope N_Sky_with_camera ["self", "camera"] (defScope s_Sky_with_camera) := ⟨rfl, rfl, rfl, by decide +kernel, rfl, by decide +kernel, by decide +kernel⟩
theorem ok_with_camera {C : Addr} (T : Txt K C) (MS : KnMk P w K mg base C "Sky" 2 ["self", "side", "stars", "camera"] (spInit C)) (D : DfM K C "with_camera" "Sky.with_camera" s_Sky_with_camera) : KnMt P w K mg base C "with_camera" 4 ["self", "camera"] (spWith C) := by
  obtain ⟨f, fd, F, hf, hfn⟩ := D
  refine ⟨T.cl, f, fd, ⟨hf, hfn, F.kp⟩, ?_, F.binds (ps := ["self", "camera"]) fun _ _ _ _ _ _ us hl => match us, hl with | [_, _], _ => rfl⟩
  refine F.ok sc_Sky_with_camera (fun vs H Q E h => h.1) (fun cdv A outer s H vs Q E hr h => ?_)
  have nd := sc_Sky_with_camera.nd
  obtain ⟨_, R, ⟨S, p, sa, ca, xs, cb, c, rfl, hS, hcb, hn, hc, hst, rfl⟩, k⟩ := h
  obtain ⟨dx, ho⟩ := hS.ob
  refine ⟨_, (pss_one (ps_ret (pe_mkSky MS hr (pa_cons (pe_fld (pv 0) rfl) (pa_cons (pe_fld (pv 0) rfl) (pa_cons (pv 1) pa_nil)))))), ?_⟩
  exact s_retP (evp_mk (ea_cons (ev_fldA (ev_var rfl) T.cl T.n1 ho look_side) (ea_cons (ev_fldA (ev_var rfl) T.cl T.n2 ho look_stars) (ea_cons (ev_var rfl) ea_nil))) (.inr hS.st) hS.sts hcb hn hc (List.Perm.refl _) hst) k
theorem evp_with {C : Addr} {σ : St} {H : Hp} {ta : TE} {tb : TA} {S : Sk} {p sa ca cb : Addr} {xs : List V} {c : Cam} (ha : Ev ta σ H (.ref p)) (hb : EvA tb σ H [.ref cb]) (hS : SkyA C S p sa ca xs H) (hcb : H cb = some (.tup [.int c.r, .int c.b, .int c.g, .int c.l])) (hn : SideOk S.n) (hc : CamOk S.n c) (hst : StOk S.n S.st) :
    EvP (tMeth C "with_camera" (spWith C) [] E0 ta tb) σ H (SkyAt C ⟨S.n, S.st, c⟩) := fun H1 e Q q => ha H1 e _ fun H2 e2 => by
  obtain ⟨dx, ho⟩ := (hS.up (e.trans e2)).ob
  refine ⟨p, dx, _, rfl, ho, rfl, hb H2 (e.trans e2) _ fun H3 e3 => ?_⟩
  have e' := (e.trans e2).trans e3
  exact ⟨rfl, _, ⟨S, p, sa, ca, xs, cb, c, rfl, hS.up e', e' _ _ hcb, hn, hc, hst, rfl⟩, fun v H4 e4 r => q v H4 ((e2.trans e3).trans e4) r⟩
end
end K77
end

section
set_option maxRecDepth 100000
set_option maxHeartbeats 4000000
namespace K77
open PySem L2 Evl
local macro_rules | `(tactic| walk_at "at") => `(tactic| first | assumption | exact Ex.get (by assumption) (by assumption))
local macro_rules | `(tactic| walk_at "sk") => `(tactic| first | assumption | exact SkyA.up (by assumption) (by assumption))
local macro_rules | `(tactic| walk_at "rv") => `(tactic| first
  | with_reducible exact rv_I0
  | with_reducible exact rv_isN
  | with_reducible exact rv_notN
  | (with_reducible show RV (rI (fun _ j => 0 < j) fun i j => .int (i % j)) _ _ _ _; exact rv_mod (by first | assumption | omega))
  | (with_reducible show RV (rI CMul _) _ _ _ _; exact rv_mul (by first | exact mul_l (by omega) | exact mul_r (by omega)))
  | (with_reducible show RV (rI CDiv _) _ _ _ _; exact rv_fdiv (div_ok (by omega)))
  | (with_reducible show RV (rIxT _) _ _ _ _; exact rv_tup (by walk_at "at") rfl)
  | (with_reducible show RV rEq _ _ _ _; exact rv_eq rfl)
  | (with_reducible show RV rNe _ _ _ _; exact rv_ne rfl))
local macro_rules | `(tactic| walk_at "ev") => `(tactic| first
  | (with_reducible show Ev (tVar _) _ _ _; exact ev_var rfl)
  | (with_reducible show Ev (tC _) _ _ _; exact ev_c)
  | (with_reducible show Ev (tOp _ _ _) _ _ _; exact ev_op (by walk_at "ev") (by walk_at "ev") (by walk_at "rv"))
  | (with_reducible show Ev (tProp _ _ _ _ _) _ _ _; exact ev_sky (by walk_at "ev") (by walk_at "sk"))
  | (with_reducible show Ev (tCB rAbs _) _ _ _; exact ev_abs (by walk_at "ev"))
  | (with_reducible show Ev (tCB rMax _) _ _ _; exact ev_max (by walk_at "ev") (by walk_at "ev"))
  | (with_reducible show Ev (tCB rMin _) _ _ _; exact ev_min (by walk_at "ev") (by walk_at "ev"))
  | (with_reducible show Ev (tCB rInt _) _ _ _; exact ev_int (by walk_at "ev"))
  | (with_reducible show Ev (tCB rInt _) _ _ _; exact ev_intB (by walk_at "ev"))
  | (with_reducible show Ev (tChain _ _ _ _ _) _ _ _; exact ev_chain (by walk_at "ev") (by walk_at "ev") (by walk_at "ev"))
  | (with_reducible show Ev (tAndV _ _) _ _ _; exact ev_andV (by walk_at "ev") (fun _ => by walk_at "ev"))
  | (with_reducible show Ev (tOrV _ _) _ _ _; exact ev_orV (by walk_at "ev") (fun _ => by walk_at "ev"))
  | (with_reducible show Ev (tCB (rLenQ _) _) _ _ _; exact ev_lenL (by walk_at "ev") (by walk_at "at"))
  | (with_reducible show Ev (tCB (rLenQ _) _) _ _ _; exact ev_lenT (by walk_at "ev") (by walk_at "at"))
  | (with_reducible show Ev (tUn _ _) _ _ _; exact ev_un (by walk_at "ev") ru_neg))
local macro_rules | `(tactic| walk_at "et") => `(tactic| first
  | (with_reducible show EvT (tTest _) _ _ _; exact et_test (by walk_at "ev"))
  | (with_reducible show EvT (tB _) _ _ _; exact et_B (by walk_at "ev"))
  | (with_reducible show EvT (tNot _) _ _ _; exact et_not (by walk_at "et"))
  | (with_reducible show EvT (tAnd _ _) _ _ _; exact et_and (by walk_at "et") (fun _ => by walk_at "et"))
  | (with_reducible show EvT (tOr _ _) _ _ _; exact et_or (by walk_at "et") (fun _ => by walk_at "et"))
  | exact et_tru (by walk_at "ev") (by walk_at "at"))
local macro_rules | `(tactic| walk_at "ea") => `(tactic| first
  | (with_reducible show EvA tNil _ _ _; exact ea_nil)
  | (with_reducible show EvA (tCons _ _) _ _ _; exact ea_cons (by walk_at "ev") (by walk_at "ea")))
/-! ### the numbers that the law draws from the script -/
def Small (ns : List Int) : Prop := ∀ x ∈ ns, 0 ≤ x ∧ x ≤ 1008
def IntsR (m : Nat) : PH := fun v H => ∃ p ns, v = .ref p ∧ H p = some (.lst (ns.map V.int)) ∧ ns.length = m ∧ Small ns
def IntsF (m : Nat) (H : Hp) : PH := fun v H' => ∃ p ns, v = .ref p ∧ H p = none ∧ H' p = some (.lst (ns.map V.int)) ∧ ns.length = m ∧ Small ns
theorem Small.nil : Small [] := nofun
theorem Small.snoc {ns : List Int} {x : Int} (h : Small ns) (hx : 0 ≤ x ∧ x ≤ 1008) : Small (ns ++ [x]) := fun y hy => by
  rcases List.mem_append.mp hy with z | z
  · exact h y z
  · rw [List.mem_singleton.mp z]
    exact hx
theorem mod1009 (x : Int) : 0 ≤ x % 1009 ∧ x % 1009 ≤ 1008 := by omega
section
variable {P : Program} {w : World} {K : PySem.W.Frag} {mg : PySem.Str → Option Value} {base : Heap}
def spRow : Sp := SpG 2 fun vs H R => ∃ (c : Int) (m : Nat), vs = [.int c, .int (m : Int)] ∧ m ≤ 1000 ∧ R = IntsF m H
abbrev s__law_row : Stmt := top 42
abbrev N__law_row : List PySem.Str := ["_law_cell", "_law_many", "_law_row_here", "_law_rest", "_law_state", "_law_k"]
theorem sc__law_row : FnScope N__law_row ["_law_cell", "_law_many"] (defScope s__law_row) := ⟨rfl, rfl, rfl, by decide +kernel, rfl, by decide +kernel, by decide +kernel⟩
theorem ok__law_row (B : Bl mg) (D : Df K mg "_law_row" s__law_row) : Kn P w K mg base "_law_row" 1 ["_law_cell", "_law_many"] spRow := by
  obtain ⟨f, fd, F, hm⟩ := D
  refine kn_mk F hm (F.binds (ps := ["_law_cell", "_law_many"]) fun _ _ _ _ _ _ us hl => match us, hl with | [_, _], _ => rfl) ?_
  refine F.ok sc__law_row (fun vs H Q E h => h.1) (fun cdv A outer s H vs Q E hr h => ?_)
  have hu := hu_of hr
  have nd := sc__law_row.nd
  obtain ⟨_, R, ⟨c, m, rfl, hm', rfl⟩, k⟩ := h
  refine ⟨_, (pss_cons (ps_set (i := 2) nd rfl (by first | exact Or.inl rfl | exact Or.inr rfl) (pe_lst pa_nil))
      (pss_cons (ps_set (i := 3) nd rfl (by first | exact Or.inl rfl | exact Or.inr rfl) pe_int)
      (pss_cut (ps_if (pt_cmpR op_ge (pe_callB call_abs (by rfl) B.abs (by decide +kernel) (pa_cons (pv 0) pa_nil)) (pe_op op_pow pe_int pe_int) (nomark _)) (pss_one (ps_set (i := 3) nd rfl (by first | exact Or.inl rfl | exact Or.inr rfl) (pe_callB call_abs (by rfl) B.abs (by decide +kernel) (pa_cons (pv 0) pa_nil)))) pss_nil)
      (pss_cons (ps_set (i := 4) nd rfl (by first | exact Or.inl rfl | exact Or.inr rfl) (pe_op op_mod (pe_callTy call_int1 (by rfl) B.int (by decide +kernel) (pa_cons (pe_callB call_abs (by rfl) B.abs (by decide +kernel) (pa_cons (pv 0) pa_nil)) pa_nil)) pe_int))
      (pss_cons (ps_for PassesOwn.never rfl (pi_range1 (by rfl) B.range (pa_cons (pv 1) pa_nil)) (pg_name (i := 5) nd rfl (by first | exact Or.inl rfl | exact Or.inr rfl))
      (pss_cons (ps_set (i := 4) nd rfl (by first | exact Or.inl rfl | exact Or.inr rfl) (pe_op op_mod (pe_callTy call_int1 (by rfl) B.int (by decide +kernel) (pa_cons (pe_op op_add (pe_op op_mul (pe_op op_add (pv 4) pe_int) pe_int) (pe_op op_mul pe_int (pv 5))) pa_nil)) pe_int))
      (pss_one (ps_if (pt_cmpR op_gt (pv 3) pe_int (nomark _)) (pss_cons (ps_expr (pe_bm PySem.F.plainAttrs_list PySem.F.slot_list_append PySem.F.type_list_append mt_append (pv 2) (pa_cons (pe_op op_mod (pe_callTy call_int1 (by rfl) B.int (by decide +kernel) (pa_cons (pv 3) pa_nil)) pe_int) pa_nil)))
      (pss_one (ps_set (i := 3) nd rfl (by first | exact Or.inl rfl | exact Or.inr rfl) (pe_op op_fdiv (pv 3) pe_int)))) (pss_one (ps_expr (pe_bm PySem.F.plainAttrs_list PySem.F.slot_list_append PySem.F.type_list_append mt_append (pv 2) (pa_cons (pe_op op_mod (pe_callTy call_int1 (by rfl) B.int (by decide +kernel) (pa_cons (pe_op op_fdiv (pv 4) pe_int) pa_nil)) pe_int) pa_nil))))))))
      (pss_one (ps_ret (pv 2)))))))), ?_⟩
  refine q_asgL (el_lst ea_nil (Nat.zero_le _)) fun l H1 hl e1 h1 => ?_
  refine q_asg (by walk_at "ev") fun H2 e2 => ?_
  refine q_cutI (fun σ' H' => ∃ (r : Int) (u4 u5 : Option V), σ' = [some (.int c), some (.int (m : Int)), some (.ref l), some (.int r), u4, u5] ∧ Ex H2 H') ?_ ?_
  · refine s_if (b := decide ((10 : Int) ^ (18 : Int).toNat ≤ iabs c)) (et_test (ev_op (ev_abs (ev_var rfl)) (ev_op ev_c ev_c (rv_pow ⟨by decide, by decide, by decide⟩)) rv_I0)) (fun _ H3 e3 => ?_) (fun _ H3 e3 => ⟨_, _, _, rfl, e3⟩)
    exact s_asg (ev_abs (ev_var rfl)) fun H4 e4 => ⟨_, _, _, rfl, e3.trans e4⟩
  · rintro σ' H3 ⟨r, u4, u5, rfl, e3⟩
    refine q_asg (ev_op (ev_int (ev_abs (ev_var rfl))) ev_c (rv_mod (by decide))) fun H4 e4 => ?_
    have e14 := ((e2.trans e3).trans e4)
    refine q_forR1 (by walk_at "ea") (by omega) (fun i σ' H' => (∃ (r st : Int) (u5 : Option V), σ' = [some (.int c), some (.int (m : Int)), some (.ref l), some (.int r), some (.int st), u5]) ∧ Ex H H' ∧ ∃ ns, H' l = some (.lst (ns.map V.int)) ∧ ns.length = i ∧ Small ns) (fun H5 e5 => ⟨⟨_, _, _, rfl⟩, (e1.trans e14).trans e5, [], (e14.trans e5) _ _ h1, rfl, Small.nil⟩) ?_ ?_
    · rintro i σ' H' hi ⟨⟨r, st, u5, rfl⟩, e, ns, hn, hlen, hs⟩
      refine q_asg (ev_op (ev_int (ev_op (ev_op (ev_op (ev_var rfl) ev_c rv_I0) ev_c (rv_mul (mul_r (by decide)))) (ev_op ev_c (ev_var rfl) (rv_mul (mul_l (by decide)))) rv_I0)) ev_c (rv_mod (by decide))) fun H5 e5 => ?_
      refine s_if (b := decide (0 < r)) (by walk_at "et") (fun _ H6 e6 => ?_) (fun _ H6 e6 => ?_)
      · refine q_app ((e5.trans e6) _ _ hn) (by walk_at "ev") (by walk_at "ev") (by rw [List.length_map]; omega) fun H7 e7 => ?_
        refine s_asg (by walk_at "ev") fun H8 e8 => ?_
        refine ⟨⟨_, _, _, rfl⟩, (Ex.mut (((e.trans e5).trans e6).trans e7) hl).trans e8, ns ++ [r % 1009], e8 _ _ ?_, by rw [List.length_append, hlen] <;> rfl, hs.snoc (mod1009 _)⟩
        rw [upd_same, List.map_append]
        rfl
      · refine s_app ((e5.trans e6) _ _ hn) (by walk_at "ev") (by walk_at "ev") (by rw [List.length_map]; omega) fun H7 e7 => ?_
        refine ⟨⟨_, _, _, rfl⟩, Ex.mut (((e.trans e5).trans e6).trans e7) hl, ns ++ [((st + 1) * 48271 + 69621 * (i : Int)) % 2147483647 / 2048 % 1009], ?_, by rw [List.length_append, hlen] <;> rfl, hs.snoc (mod1009 _)⟩
        rw [upd_same, List.map_append]
        rfl
    · rintro σ' H' ⟨⟨r, st, u5, rfl⟩, e, ns, hn, hlen, hs⟩
      exact s_ret (ev_var rfl) fun H5 e5 => k _ H5 (e.trans e5) ⟨l, ns, rfl, fresh_back (Ex.refl H) hl, e5 _ _ hn, by simpa using hlen, hs⟩
theorem use_row {c : Int} {m : Nat} {H : Hp} (hm : m ≤ 1000) : SpP spRow [.int c, .int (m : Int)] H (IntsF m H) := spg' fun H1 e => ⟨_, ⟨c, m, rfl, hm, rfl⟩, fun v H2 e2 ⟨p, ns, h1, h2, h3⟩ => ⟨p, ns, h1, fresh_back e h2, h3⟩⟩
theorem cutV_upto (xs : List V) (n : Nat) : cutV xs none (some (n : Int)) = xs.take n := by
  unfold cutV
  rw [HT.sIx_none, HT.sIx_nat, List.drop_zero, Nat.sub_zero]
  by_cases c : n ≤ xs.length
  · rw [Nat.min_eq_left c]
  · rw [Nat.min_eq_right (by omega), List.take_of_length_le (Nat.le_refl _), List.take_of_length_le (by omega)]
def spNumbers : Sp := SpG 2 fun vs H R => ∃ (a : Addr) (ns : List Int), vs = [.ref a, .int 80] ∧ SqL K H a (ns.map V.int) ∧ ns.length ≤ 63 ∧ R = IntsR 80
abbrev s__law_numbers : Stmt := top 43
abbrev N__law_numbers : List PySem.Str := ["_law_script", "_law_many", "_law_cells", "_law_each", "_law_numbers_here", "_law_cell", "_law_number"]
theorem sc__law_numbers : FnScope N__law_numbers ["_law_script", "_law_many"] (defScope s__law_numbers) := ⟨rfl, rfl, rfl, by decide +kernel, rfl, by decide +kernel, by decide +kernel⟩
theorem ok__law_numbers (B : Bl mg) (G__law_row : Kn P w K mg base "_law_row" 1 ["_law_cell", "_law_many"] spRow) (D : Df K mg "_law_numbers" s__law_numbers) : Kn P w K mg base "_law_numbers" 2 ["_law_script", "_law_many"] (spNumbers (K := K)) := by
  obtain ⟨f, fd, F, hm⟩ := D
  refine kn_mk F hm (F.binds (ps := ["_law_script", "_law_many"]) fun _ _ _ _ _ _ us hl => match us, hl with | [_, _], _ => rfl) ?_
  refine F.ok sc__law_numbers (fun vs H Q E h => h.1) (fun cdv A outer s H vs Q E hr h => ?_)
  have hu := hu_of hr
  have nd := sc__law_numbers.nd
  obtain ⟨_, R, ⟨a, cs, rfl, hS, hlen, rfl⟩, k⟩ := h
  refine ⟨_, (pss_cons (ps_set (i := 2) nd rfl (by first | exact Or.inl rfl | exact Or.inr rfl) (pe_slice sl_list (pv 0) po_none (po_some pe_int)))
      (pss_cons (ps_set (i := 3) nd rfl (by first | exact Or.inl rfl | exact Or.inr rfl) (pe_op op_add pe_int (pe_op op_fdiv (pv 1) (pe_callB (call_max2 rfl) (by rfl) B.max (by decide +kernel) (pa_cons pe_int (pa_cons (pe_callB call_len_seq (by rfl) B.len (by decide +kernel) (pa_cons (pv 2) pa_nil)) pa_nil))))))
      (pss_cons (ps_set (i := 4) nd rfl (by first | exact Or.inl rfl | exact Or.inr rfl) (pe_lst pa_nil))
      (pss_cons (ps_for PassesOwn.never rfl (pi_list (pv 2)) (pg_name (i := 5) nd rfl (by first | exact Or.inl rfl | exact Or.inr rfl))
      (pss_one (ps_for PassesOwn.never rfl (pi_list (pe_own G__law_row hr (pa_cons (pv 5) (pa_cons (pv 3) pa_nil)))) (pg_name (i := 6) nd rfl (by first | exact Or.inl rfl | exact Or.inr rfl))
      (pss_one (ps_expr (pe_bm PySem.F.plainAttrs_list PySem.F.slot_list_append PySem.F.type_list_append mt_append (pv 4) (pa_cons (pv 6) pa_nil)))))))
      (pss_cons (ps_while PassesOwn.never (pt_cmpR op_lt (pe_callB call_len_seq (by rfl) B.len (by decide +kernel) (pa_cons (pv 4) pa_nil)) (pv 1) (nomark _)) (pss_one (ps_expr (pe_bm PySem.F.plainAttrs_list PySem.F.slot_list_append PySem.F.type_list_append mt_append (pv 4) (pa_cons pe_int pa_nil)))))
      (pss_one (ps_ret (pe_slice sl_list (pv 4) po_none (po_some (pv 1)))))))))), ?_⟩
  refine q_asgL (el_sl (ev_var rfl) eo_none (eo_some ev_c) hS) fun p H1 hp e1 h1 => ?_
  have hcut : cutV (cs.map V.int) none (some (63 : Int)) = cs.map V.int := by
    rw [show (63 : Int) = ((63 : Nat) : Int) from rfl, cutV_upto, List.take_of_length_le (by rw [List.length_map]; exact hlen)]
  rw [hcut] at h1
  have hml : imax 1 ((cs.map V.int).length : Int) ≥ 1 ∧ imax 1 ((cs.map V.int).length : Int) ≤ 63 := by
    rw [List.length_map]
    unfold imax
    split <;> omega
  refine q_asg (ev_op ev_c (ev_op (ev_var rfl) (ev_max ev_c (ev_lenL (ev_var rfl) h1)) (rv_fdiv (div_ok (by omega)))) rv_I0) fun H2 e2 => ?_
  obtain ⟨m, hm1, hm2⟩ : ∃ m : Nat, (1 + 80 / imax 1 ((cs.map V.int).length : Int) : Int) = (m : Int) ∧ m ≤ 81 := by
    have h0 : 0 ≤ 80 / imax 1 ((cs.map V.int).length : Int) := Int.ediv_nonneg (by decide) (by omega)
    have h8 : 80 / imax 1 ((cs.map V.int).length : Int) ≤ 80 := Int.ediv_le_self _ (by decide)
    exact ⟨(1 + 80 / imax 1 ((cs.map V.int).length : Int)).toNat, by omega, by omega⟩
  rw [hm1]
  refine q_asgL (el_lst ea_nil (Nat.zero_le _)) fun l H3 hl e3 h3 => ?_
  have e13 := (e1.trans e2).trans e3
  have hl0 : H l = none := fresh_back (e1.trans e2) hl
  have h13 := (e2.trans e3) _ _ h1
  refine q_forL (xs := cs.map V.int) (by walk_at "ev") (sq_of h13) (fun i σ' H' => (∃ u5 u6, σ' = [some (.ref a), some (.int 80), some (.ref p), some (.int (m : Int)), some (.ref l), u5, u6]) ∧ Ex H H' ∧ H' p = some (.lst (cs.map V.int)) ∧ ∃ ns, H' l = some (.lst (ns.map V.int)) ∧ ns.length = i * m ∧ Small ns) (fun H4 e4 => ⟨⟨_, _, rfl⟩, e13.trans e4, e4 _ _ h13, [], e4 _ _ h3, by simp, Small.nil⟩) (fun i σ' H' _ q => sq_of q.2.2.1) ?_ ?_
  · rintro i x σ' H' hi ⟨⟨u5, u6, rfl⟩, e, hpp, ns, hn, hlen', hs⟩
    have hi' : i < cs.length := by
      have := (List.getElem?_eq_some_iff.mp hi).1
      rwa [List.length_map] at this
    obtain ⟨c, rfl⟩ : ∃ c, x = V.int c := by
      rw [List.getElem?_map] at hi
      obtain ⟨c, _, h2⟩ := Option.map_eq_some_iff.mp hi
      exact ⟨c, h2.symm⟩
    have hb : i * m ≤ 62 * 81 := Nat.mul_le_mul (by omega) hm2
    refine evp_call (σ := _) (by walk_at "ea") (use_row (c := c) (m := m) (by omega)) H' (Ex.refl H') _ fun v H5 e5 ⟨q, rs, hv, hq0, hq, hrl, hrs⟩ => ⟨q, hv, ⟨_, sq_of hq⟩, ?_⟩
    have hn5 := e5 _ _ hn
    have nq : l ≠ q := fun z => by rw [← z, hn] at hq0; cases hq0
    refine for_list (xs := rs.map V.int) (fun j σ' H' => (∃ u6, σ' = [some (.ref a), some (.int 80), some (.ref p), some (.int (m : Int)), some (.ref l), some (.int c), u6]) ∧ Ex H H' ∧ H' p = some (.lst (cs.map V.int)) ∧ H' q = some (.lst (rs.map V.int)) ∧ ∃ ns, H' l = some (.lst (ns.map V.int)) ∧ ns.length = i * m + j ∧ Small ns) ⟨⟨_, rfl⟩, e.trans e5, e5 _ _ hpp, hq, ns, hn5, hlen', hs⟩ (fun j σ' H' _ q => sq_of q.2.2.2.1) ?_ ?_
    · rintro j x σ' H6 hj ⟨⟨u6, rfl⟩, e6, hp6, hq6, ns6, hn6, hl6, hs6⟩
      have hj' : j < rs.length := by
        have := (List.getElem?_eq_some_iff.mp hj).1
        rwa [List.length_map] at this
      obtain ⟨r, hr', rfl⟩ : ∃ r, r ∈ rs ∧ x = V.int r := by
        rw [List.getElem?_map] at hj
        obtain ⟨r, h1, h2⟩ := Option.map_eq_some_iff.mp hj
        exact ⟨r, List.mem_of_getElem? h1, h2.symm⟩
      have hpl : p ≠ l := fun z => by rw [← z, e2 _ _ h1] at hl; cases hl
      refine s_app hn6 (by walk_at "ev") (by walk_at "ev") (by rw [List.length_map]; omega) fun H7 e7 => ⟨⟨_, rfl⟩, Ex.mut (e6.trans e7) hl0, ?_, ?_, ns6 ++ [r], ?_, by rw [List.length_append, hl6]; rfl, hs6.snoc (hrs r hr')⟩
      · rw [upd_ne hpl]
        exact e7 _ _ hp6
      · rw [upd_ne nq.symm]
        exact e7 _ _ hq6
      · rw [upd_same, List.map_append]
        rfl
    · rintro σ' H6 ⟨⟨u6, rfl⟩, e6, hp6, hq6, ns6, hn6, hl6, hs6⟩
      refine ⟨⟨_, _, rfl⟩, e6, hp6, ns6, hn6, ?_, hs6⟩
      rw [hl6, List.length_map, hrl, Nat.succ_mul]
  · rintro σ' H' ⟨⟨u5, u6, rfl⟩, e, hpp, ns, hn, hlen', hs⟩
    have hb : cs.length * m ≤ 63 * 81 := Nat.mul_le_mul hlen hm2
    rw [List.length_map] at hlen'
    refine q_while (fun x σ' H' => σ' = [some (.ref a), some (.int 80), some (.ref p), some (.int (m : Int)), some (.ref l), u5, u6] ∧ Ex H H' ∧ ∃ ns, H' l = some (.lst (ns.map V.int)) ∧ x = 6000 - ns.length ∧ ns.length ≤ 5200 ∧ Small ns) (6000 - ns.length) ⟨rfl, e, ns, hn, rfl, by omega, hs⟩ ?_
    rintro x σ' H4 ⟨rfl, e4, ns4, hn4, hx, hle, hs4⟩
    refine ⟨decide (((ns4.map V.int).length : Int) < 80), by walk_at "et", fun hb H5 e5 => ?_, fun hb H5 e5 => ?_⟩
    · have hb' := of_decide_eq_true hb
      rw [List.length_map] at hb'
      refine ⟨_, fun σ' H' h => h, ?_⟩
      refine s_app (e5 _ _ hn4) (by walk_at "ev") (by walk_at "ev") (by rw [List.length_map]; omega) fun H6 e6 => ?_
      refine ⟨6000 - (ns4 ++ [(0 : Int)]).length, by rw [List.length_append]; simp; omega, rfl, Ex.mut ((e4.trans e5).trans e6) hl0, ns4 ++ [0], ?_, rfl, by rw [List.length_append]; simp; omega, hs4.snoc (by decide)⟩
      rw [upd_same, List.map_append]
      rfl
    · have hb' := of_decide_eq_false hb
      rw [List.length_map] at hb'
      refine s_retL (el_sl (ev_var rfl) eo_none (eo_some (ev_var rfl)) (sq_of (e5 _ _ hn4))) fun q H6 hq e6 h6 => k _ H6 ((e4.trans e5).trans e6) ⟨q, ns4.take 80, rfl, ?_, ?_, fun y hy => hs4 y (List.mem_of_mem_take hy)⟩
      · rw [h6, show (80 : Int) = ((80 : Nat) : Int) from rfl, cutV_upto, List.map_take]
      · rw [List.length_take]
        omega
theorem use_numbers {a : Addr} {ns : List Int} {H : Hp} (hS : SqL K H a (ns.map V.int)) (hl : ns.length ≤ 63) : SpP (spNumbers (K := K)) [.ref a, .int 80] H (IntsR 80) := spg fun _ e => ⟨a, ns, rfl, ex_l e hS, hl, rfl⟩
end
end K77
end

section
set_option maxRecDepth 100000
set_option maxHeartbeats 4000000
namespace K77
open PySem L2 Evl
/-! ### one of the numbers -/
structure NumOk (ns : List Int) : Prop where
  len : ns.length = 80
  sm : Small ns
def num (ns : List Int) (i : Int) : Int := ns.getD i.toNat 0
theorem num_bd {ns : List Int} (h : NumOk ns) (i : Int) : 0 ≤ num ns i ∧ num ns i ≤ 1008 := by
  unfold num
  rw [List.getD_eq_getElem?_getD]
  cases c : ns[i.toNat]? with
  | none => exact ⟨Int.le_refl _, by decide⟩
  | some x => exact h.sm x (List.mem_of_getElem? c)
theorem ev_num {K : PySem.W.Frag} {σ : St} {H : Hp} {ta tb : TE} {a : Addr} {ns : List Int} {i : Int} (h : H a = some (.lst (ns.map V.int))) (hn : NumOk ns) (ha : Ev ta σ H (.ref a)) (hb : Ev tb σ H (.int i)) (h0 : 0 ≤ i) (h1 : i < 80) : Ev (tOp (rIxL K) ta tb) σ H (.int (num ns i)) := by
  refine ev_op ha hb (rv_lst h (atI_int h0 ?_))
  have : i.toNat < ns.length := by rw [hn.len]; omega
  unfold num
  rw [List.getElem?_map, List.getElem?_eq_getElem this, List.getD_eq_getElem?_getD, List.getElem?_eq_getElem this]
  rfl
theorem ev_ixLit {K : PySem.W.Frag} {σ : St} {H : Hp} {ta tb : TE} {xs : List V} {i : Int} {v : V} (hl : EvL ta σ H xs) (ht : Ev tb σ H (.int i)) (hx : atI xs i = some v) : Ev (tOp (rIxL K) ta tb) σ H v := fun H1 e Q q =>
  hl H1 e _ fun p H2 hp e2 h2 => ht H2 (e.trans e2) _ fun H3 e3 => rv_lst (e3 _ _ h2) hx H3 (Ex.refl H3) _ fun H4 e4 => q H4 ((e2.trans e3).trans e4)
theorem units65 {k : Nat} {A : Around} (r : Room k A) : A.units + 65 < cLine := by
  have := r.un
  omega
theorem lit_glare (x : Int) : ∃ g, atI [V.int 0, .int 0, .int 1, .int 2] (x % 4) = some (.int g) ∧ 0 ≤ g ∧ g ≤ 2 := by
  have h : x % 4 = 0 ∨ x % 4 = 1 ∨ x % 4 = 2 ∨ x % 4 = 3 := by omega
  rcases h with h | h | h | h <;> rw [h] <;> exact ⟨_, rfl, by decide, by decide⟩
theorem lit_limit (x : Int) : ∃ g, atI [V.int 1, .int 1, .int 2, .int 3, .int 5, .int 9] (x % 6) = some (.int g) ∧ 1 ≤ g ∧ g ≤ 9 := by
  have h : x % 6 = 0 ∨ x % 6 = 1 ∨ x % 6 = 2 ∨ x % 6 = 3 ∨ x % 6 = 4 ∨ x % 6 = 5 := by omega
  rcases h with h | h | h | h | h | h <;> rw [h] <;> exact ⟨_, rfl, by decide, by decide⟩
theorem lit_light (x : Int) : ∃ g, atI [V.int 5, .int 5, .int 6, .int 4] (x % 4) = some (.int g) ∧ 1 ≤ g ∧ g ≤ 9 := by
  have h : x % 4 = 0 ∨ x % 4 = 1 ∨ x % 4 = 2 ∨ x % 4 = 3 := by omega
  rcases h with h | h | h | h <;> rw [h] <;> exact ⟨_, rfl, by decide, by decide⟩
local macro_rules | `(tactic| walk_at "at") => `(tactic| first | assumption | exact Ex.get (by assumption) (by assumption))
local macro_rules | `(tactic| walk_at "sk") => `(tactic| first | assumption | exact SkyA.up (by assumption) (by assumption))
local macro_rules | `(tactic| walk_at "rv") => `(tactic| first
  | with_reducible exact rv_I0
  | with_reducible exact rv_isN
  | with_reducible exact rv_notN
  | (with_reducible show RV (rI (fun _ j => 0 < j) fun i j => .int (i % j)) _ _ _ _; exact rv_mod (by first | assumption | omega))
  | (with_reducible show RV (rI CMul _) _ _ _ _; exact rv_mul (by first | exact mul_l (by omega) | exact mul_r (by omega)))
  | (with_reducible show RV (rI CDiv _) _ _ _ _; exact rv_fdiv (div_ok (by omega)))
  | (with_reducible show RV (rIxT _) _ _ _ _; exact rv_tup (by walk_at "at") rfl)
  | (with_reducible show RV rEq _ _ _ _; exact rv_eq rfl)
  | (with_reducible show RV rNe _ _ _ _; exact rv_ne rfl))
local macro_rules | `(tactic| walk_at "ev") => `(tactic| first
  | (with_reducible show Ev (tVar _) _ _ _; exact ev_var rfl)
  | (with_reducible show Ev (tC _) _ _ _; exact ev_c)
  | (with_reducible show Ev (tOp (rIxL _) _ _) _ _ _; exact ev_num (by walk_at "at") (by assumption) (by walk_at "ev") (by walk_at "ev") (by omega) (by omega))
  | (with_reducible show Ev (tOp _ _ _) _ _ _; exact ev_op (by walk_at "ev") (by walk_at "ev") (by walk_at "rv"))
  | (with_reducible show Ev (tProp _ _ _ _ _) _ _ _; exact ev_sky (by walk_at "ev") (by walk_at "sk"))
  | (with_reducible show Ev (tCB rAbs _) _ _ _; exact ev_abs (by walk_at "ev"))
  | (with_reducible show Ev (tCB rMax _) _ _ _; exact ev_max (by walk_at "ev") (by walk_at "ev"))
  | (with_reducible show Ev (tCB rMin _) _ _ _; exact ev_min (by walk_at "ev") (by walk_at "ev"))
  | (with_reducible show Ev (tCB rInt _) _ _ _; exact ev_int (by walk_at "ev"))
  | (with_reducible show Ev (tCB rInt _) _ _ _; exact ev_intB (by walk_at "ev"))
  | (with_reducible show Ev (tChain _ _ _ _ _) _ _ _; exact ev_chain (by walk_at "ev") (by walk_at "ev") (by walk_at "ev"))
  | (with_reducible show Ev (tAndV _ _) _ _ _; exact ev_andV (by walk_at "ev") (fun _ => by walk_at "ev"))
  | (with_reducible show Ev (tOrV _ _) _ _ _; exact ev_orV (by walk_at "ev") (fun _ => by walk_at "ev"))
  | (with_reducible show Ev (tCB (rLenQ _) _) _ _ _; exact ev_lenL (by walk_at "ev") (by walk_at "at"))
  | (with_reducible show Ev (tCB (rLenQ _) _) _ _ _; exact ev_lenT (by walk_at "ev") (by walk_at "at"))
  | (with_reducible show Ev (tUn _ _) _ _ _; exact ev_un (by walk_at "ev") ru_neg))
local macro_rules | `(tactic| walk_at "et") => `(tactic| first
  | (with_reducible show EvT (tTest _) _ _ _; exact et_test (by walk_at "ev"))
  | (with_reducible show EvT (tB _) _ _ _; exact et_B (by walk_at "ev"))
  | (with_reducible show EvT (tNot _) _ _ _; exact et_not (by walk_at "et"))
  | (with_reducible show EvT (tAnd _ _) _ _ _; exact et_and (by walk_at "et") (fun _ => by walk_at "et"))
  | (with_reducible show EvT (tOr _ _) _ _ _; exact et_or (by walk_at "et") (fun _ => by walk_at "et"))
  | exact et_tru (by walk_at "ev") (by walk_at "at"))
local macro_rules | `(tactic| walk_at "ea") => `(tactic| first
  | (with_reducible show EvA tNil _ _ _; exact ea_nil)
  | (with_reducible show EvA (tCons _ _) _ _ _; exact ea_cons (by walk_at "ev") (by walk_at "ea")))
section
variable {P : Program} {w : World} {K : PySem.W.Frag} {mg : PySem.Str → Option Value} {base : Heap}
def CamV (n : Int) : PH := fun v H => ∃ c, CamOk n c ∧ T4 c v H
/-- a reach and a blur that fit the side -/
def RB (n : Int) (p : Int × Int) : Prop := 0 ≤ p.1 ∧ p.1 ≤ 4 ∧ 0 ≤ p.2 ∧ p.2 ≤ 2 ∧ p.2 ≤ p.1 ∧ 2 * (p.1 + p.2) + 1 ≤ n
def spCamera : Sp := SpG 3 fun vs H R => ∃ (a : Addr) (ns : List Int) (i n : Int), vs = [.ref a, .int i, .int n] ∧ H a = some (.lst (ns.map V.int)) ∧ NumOk ns ∧ 0 ≤ i ∧ i ≤ 70 ∧ SideOk n ∧ R = CamV n
abbrev s__law_camera : Stmt := top 44
abbrev N__law_camera : List PySem.Str := ["_law_numbers_here", "_law_at", "_law_side", "_law_choices", "_law_reach", "_law_blur", "_law_place"]
theorem sc__law_camera : FnScope N__law_camera ["_law_numbers_here", "_law_at", "_law_side"] (defScope s__law_camera) := ⟨rfl, rfl, rfl, by decide +kernel, rfl, by decide +kernel, by decide +kernel⟩
theorem ok__law_camera (B : Bl mg) (D : Df K mg "_law_camera" s__law_camera) : Kn P w K mg base "_law_camera" 1 ["_law_numbers_here", "_law_at", "_law_side"] spCamera := by
  obtain ⟨f, fd, F, hm⟩ := D
  refine kn_mk F hm (F.binds (ps := ["_law_numbers_here", "_law_at", "_law_side"]) fun _ _ _ _ _ _ us hl => match us, hl with | [_, _, _], _ => rfl) ?_
  refine F.ok sc__law_camera (fun vs H Q E h => h.1) (fun cdv A outer s H vs Q E hr h => ?_)
  have hu := hu_of hr
  have nd := sc__law_camera.nd
  obtain ⟨_, R, ⟨a, ns, i, n, rfl, ha, hok, hi0, hi, hn, rfl⟩, k⟩ := h
  refine ⟨_, (pss_cons (ps_set (i := 3) nd rfl (by first | exact Or.inl rfl | exact Or.inr rfl) (pe_lst pa_nil))
      (pss_cons (ps_for PassesOwn.never rfl (pi_range1 (by rfl) B.range (pa_cons pe_int pa_nil)) (pg_name (i := 4) nd rfl (by first | exact Or.inl rfl | exact Or.inr rfl))
      (pss_one (ps_for PassesOwn.never rfl (pi_range1 (by rfl) B.range (pa_cons pe_int pa_nil)) (pg_name (i := 5) nd rfl (by first | exact Or.inl rfl | exact Or.inr rfl))
      (pss_one (ps_if (PW.pt (pw_and (pt_cmpR op_le (pv 5) (pv 4) (nomark _)) (pw_and1 (pt_cmpR op_le (pe_op op_add (pe_op op_mul pe_int (pe_op op_add (pv 4) (pv 5))) pe_int) (pv 2) (nomark _))))) (pss_one (ps_expr (pe_bm PySem.F.plainAttrs_list PySem.F.slot_list_append PySem.F.type_list_append mt_append (pv 3) (pa_cons (pe_tup (pa_cons (pv 4) (pa_cons (pv 5) pa_nil))) pa_nil)))) pss_nil)))))
      (pss_cons (ps_set (i := 6) nd rfl (by first | exact Or.inl rfl | exact Or.inr rfl) (pe_callB (call_max2 rfl) (by rfl) B.max (by decide +kernel) (pa_cons (pe_op op_mod (pe_callTy call_int1 (by rfl) B.int (by decide +kernel) (pa_cons (pe_ix ix_list (pv 0) (pv 1) (fun _ _ => rfl)) pa_nil)) (pe_callB call_len_seq (by rfl) B.len (by decide +kernel) (pa_cons (pv 3) pa_nil))) (pa_cons (pe_op op_mod (pe_op op_fdiv (pe_callTy call_int1 (by rfl) B.int (by decide +kernel) (pa_cons (pe_ix ix_list (pv 0) (pv 1) (fun _ _ => rfl)) pa_nil)) pe_int) (pe_callB call_len_seq (by rfl) B.len (by decide +kernel) (pa_cons (pv 3) pa_nil))) pa_nil))))
      (pss_cons (ps_asg (pe_ix ix_list (pv 3) (pv 6) (fun _ _ => rfl)) (pg_tup rfl (pgs_cons (pg_name (i := 4) nd rfl (by first | exact Or.inl rfl | exact Or.inr rfl)) (pgs_cons (pg_name (i := 5) nd rfl (by first | exact Or.inl rfl | exact Or.inr rfl)) pgs_nil))))
      (pss_one (ps_ret (pe_tup (pa_cons (pv 4) (pa_cons (pv 5) (pa_cons (pe_ix ix_list (pe_lst (pa_cons pe_int (pa_cons pe_int (pa_cons pe_int (pa_cons pe_int pa_nil))))) (pe_op op_mod (pe_callTy call_int1 (by rfl) B.int (by decide +kernel) (pa_cons (pe_ix ix_list (pv 0) (pe_op op_add (pv 1) pe_int) (fun _ _ => rfl)) pa_nil)) pe_int) (fun _ _ => rfl)) (pa_cons (pe_ix ix_list (pe_lst (pa_cons pe_int (pa_cons pe_int (pa_cons pe_int (pa_cons pe_int (pa_cons pe_int (pa_cons pe_int pa_nil))))))) (pe_op op_mod (pe_callTy call_int1 (by rfl) B.int (by decide +kernel) (pa_cons (pe_ix ix_list (pv 0) (pe_op op_add (pv 1) pe_int) (fun _ _ => rfl)) pa_nil)) pe_int) (fun _ _ => rfl)) pa_nil))))))))))), ?_⟩
  have hn4 : 4 ≤ n := by rcases hn with e | e | e <;> rw [e] <;> decide
  refine q_asgL (el_lst ea_nil (Nat.zero_le _)) fun l H1 hl e1 h1 => ?_
  refine q_forR1 (by walk_at "ea") (by omega) (fun x σ' H' => (∃ u4 u5 u6, σ' = [some (.ref a), some (.int i), some (.int n), some (.ref l), u4, u5, u6]) ∧ Ex H H' ∧ ∃ ps ys, H' l = some (.lst ys) ∧ Lst T2 ps ys H' ∧ (∀ p ∈ ps, RB n p) ∧ ps.length ≤ 3 * x ∧ (0 < x → ps ≠ [])) (fun H2 e2 => ⟨⟨_, _, _, rfl⟩, e1.trans e2, [], [], e2 _ _ h1, Lst.nil, nofun, Nat.le_refl _, fun z => absurd z (Nat.lt_irrefl _)⟩) ?_ ?_
  · rintro x σ' H' hx ⟨⟨u4, u5, u6, rfl⟩, e2, ps, ys, hy, hL, hg, hlen, hne⟩
    refine s_forR1 (by walk_at "ea") (by omega) (fun y σ' H' => (∃ u5 u6, σ' = [some (.ref a), some (.int i), some (.int n), some (.ref l), some (.int (x : Nat)), u5, u6]) ∧ Ex H H' ∧ ∃ ps ys, H' l = some (.lst ys) ∧ Lst T2 ps ys H' ∧ (∀ p ∈ ps, RB n p) ∧ ps.length ≤ 3 * x + y ∧ (0 < x ∨ 0 < y → ps ≠ [])) (fun H3 e3 => ⟨⟨_, _, rfl⟩, e2.trans e3, ps, ys, e3 _ _ hy, hL.up st_T2 e3, hg, by omega, fun z => hne (by omega)⟩) ?_ ?_
    · rintro y σ' H' hy' ⟨⟨u5, u6, rfl⟩, e3, ps, ys, hy, hL, hg, hlen, hne⟩
      refine s_if (b := decide ((y : Int) ≤ x) && decide (2 * ((x : Int) + y) + 1 ≤ n)) (by walk_at "et") (fun hb H4 e4 => ?_) (fun hb H4 e4 => ?_)
      · rw [Bool.and_eq_true, decide_eq_true_eq, decide_eq_true_eq] at hb
        refine s_appU (e4 _ _ hy) (by walk_at "ev") (eu_tup (by walk_at "ea") (Nat.le_of_ble_eq_true rfl)) (by rw [hL.1]; omega) fun p H5 hp e5 h5 => ?_
        have hl5 := (e4.trans e5) _ _ hy
        have tz : Tups H5 (upd H5 l (.lst (ys ++ [.ref p]))) := Tups.lst hl5
        refine ⟨⟨_, _, rfl⟩, Ex.mut ((e3.trans e4).trans e5) hl, ps ++ [((x : Int), (y : Int))], _, upd_same, Lst.snoc (hL.tups im_T2 ((Tups.of (e4.trans e5)).trans tz)) ⟨p, rfl, tz _ _ h5⟩, fun q hq => ?_, by rw [List.length_append]; simp; omega, fun _ => by simp⟩
        rcases List.mem_append.mp hq with z | z
        · exact hg q z
        · rw [List.mem_singleton.mp z]
          refine ⟨?_, ?_, ?_, ?_, ?_, ?_⟩ <;> simp only [] <;> omega
      · refine ⟨⟨_, _, rfl⟩, e3.trans e4, ps, ys, e4 _ _ hy, hL.up st_T2 e4, hg, by omega, fun z => hne ?_⟩
        rw [Bool.and_eq_false_iff, decide_eq_false_iff_not, decide_eq_false_iff_not] at hb
        omega
    · rintro σ' H' ⟨⟨u5, u6, rfl⟩, e3, ps, ys, hy, hL, hg, hlen, hne⟩
      exact ⟨⟨_, _, _, rfl⟩, e3, ps, ys, hy, hL, hg, by omega, fun _ => hne (.inr (by decide))⟩
  · rintro σ' H' ⟨⟨u4, u5, u6, rfl⟩, e2, ps, ys, hy, hL, hg, hlen, hne⟩
    have hps : 0 < ps.length := List.length_pos_iff.mpr (hne (by decide))
    have hyl : ys.length = ps.length := hL.1
    have hypos : 0 < (ys.length : Int) := by omega
    obtain ⟨b0, b1⟩ := num_bd hok i
    refine q_asg (ev_max (ev_op (ev_int (by walk_at "ev")) (ev_lenL (ev_var rfl) hy) (rv_mod hypos)) (ev_op (ev_op (ev_int (by walk_at "ev")) ev_c (rv_fdiv (div_ok (by decide)))) (ev_lenL (ev_var rfl) hy) (rv_mod hypos))) fun H3 e3 => ?_
    obtain ⟨m, hm, hml⟩ : ∃ m : Nat, imax (num ns i % (ys.length : Int)) (num ns i / 7 % (ys.length : Int)) = (m : Int) ∧ m < ys.length := by
      have k1 := Int.emod_nonneg (num ns i) (show (ys.length : Int) ≠ 0 by omega)
      have k2 := Int.emod_lt_of_pos (num ns i) hypos
      have k3 := Int.emod_nonneg (num ns i / 7) (show (ys.length : Int) ≠ 0 by omega)
      have k4 := Int.emod_lt_of_pos (num ns i / 7) hypos
      have k5 : 0 ≤ imax (num ns i % (ys.length : Int)) (num ns i / 7 % (ys.length : Int)) ∧ imax (num ns i % (ys.length : Int)) (num ns i / 7 % (ys.length : Int)) < ys.length := by
        unfold imax
        split <;> omega
      exact ⟨(imax (num ns i % (ys.length : Int)) (num ns i / 7 % (ys.length : Int))).toNat, by omega, by omega⟩
    rw [hm]
    obtain ⟨⟨r, bl⟩, hp, q, hq, hq2⟩ := hL.2 m ys[m] (List.getElem?_eq_getElem hml)
    obtain ⟨g1, g2, g3, g4, g5, g6⟩ := hg _ (List.mem_of_getElem? hp)
    refine q_unp2 (ev_op (ev_var rfl) (ev_var rfl) (rv_lst (e3 _ _ hy) (atI_nth (by rw [List.getElem?_eq_getElem hml, hq])))) (e3 _ _ hq2) fun H4 e4 => ?_
    have ha4 := (e2.trans (e3.trans e4)) _ _ ha
    obtain ⟨g, hg1, hg2, hg3⟩ := lit_glare (num ns (i + 1))
    obtain ⟨lm, hl1, hl2, hl3⟩ := lit_limit (num ns (i + 2))
    refine s_retU (eu_tup (ea_cons (ev_var rfl) (ea_cons (ev_var rfl) (ea_cons (ev_ixLit (el_lst (by walk_at "ea") (Nat.le_of_ble_eq_true rfl)) (by walk_at "ev") hg1) (ea_cons (ev_ixLit (el_lst (by walk_at "ea") (Nat.le_of_ble_eq_true rfl)) (by walk_at "ev") hl1) ea_nil)))) (Nat.le_of_ble_eq_true rfl)) fun p H5 hp e5 h5 => k _ H5 ((e2.trans (e3.trans e4)).trans e5) ⟨⟨r, bl, g, lm⟩, ⟨g1, g2, g3, g4, hg2, hg3, hl2, hl3, g5, g6⟩, p, rfl, h5⟩
theorem use_camera {a : Addr} {ns : List Int} {i n : Int} {H : Hp} (ha : H a = some (.lst (ns.map V.int))) (hok : NumOk ns) (h0 : 0 ≤ i) (h1 : i ≤ 70) (hn : SideOk n) : SpP spCamera [.ref a, .int i, .int n] H (CamV n) := spg fun _ e => ⟨a, ns, i, n, rfl, e _ _ ha, hok, h0, h1, hn, rfl⟩
end
end K77
end

section
set_option maxRecDepth 100000
set_option maxHeartbeats 4000000
namespace K77
open PySem L2 Evl
local macro_rules | `(tactic| walk_at "at") => `(tactic| first | assumption | exact Ex.get (by assumption) (by assumption))
local macro_rules | `(tactic| walk_at "sk") => `(tactic| first | assumption | exact SkyA.up (by assumption) (by assumption))
local macro_rules | `(tactic| walk_at "rv") => `(tactic| first
  | with_reducible exact rv_I0
  | with_reducible exact rv_isN
  | with_reducible exact rv_notN
  | (with_reducible show RV (rI (fun _ j => 0 < j) fun i j => .int (i % j)) _ _ _ _; exact rv_mod (by first | assumption | omega))
  | (with_reducible show RV (rI CMul _) _ _ _ _; exact rv_mul (by first | exact mul_l (by omega) | exact mul_r (by omega)))
  | (with_reducible show RV (rI CDiv _) _ _ _ _; exact rv_fdiv (div_ok (by omega)))
  | (with_reducible show RV (rIxT _) _ _ _ _; exact rv_tup (by walk_at "at") rfl)
  | (with_reducible show RV rEq _ _ _ _; exact rv_eq rfl)
  | (with_reducible show RV rNe _ _ _ _; exact rv_ne rfl))
local macro_rules | `(tactic| walk_at "ev") => `(tactic| first
  | (with_reducible show Ev (tVar _) _ _ _; exact ev_var rfl)
  | (with_reducible show Ev (tC _) _ _ _; exact ev_c)
  | (with_reducible show Ev (tOp (rIxL _) _ _) _ _ _; exact ev_num (by walk_at "at") (by assumption) (by walk_at "ev") (by walk_at "ev") (by omega) (by omega))
  | (with_reducible show Ev (tOp _ _ _) _ _ _; exact ev_op (by walk_at "ev") (by walk_at "ev") (by walk_at "rv"))
  | (with_reducible show Ev (tProp _ _ _ _ _) _ _ _; exact ev_sky (by walk_at "ev") (by walk_at "sk"))
  | (with_reducible show Ev (tCB rAbs _) _ _ _; exact ev_abs (by walk_at "ev"))
  | (with_reducible show Ev (tCB rMax _) _ _ _; exact ev_max (by walk_at "ev") (by walk_at "ev"))
  | (with_reducible show Ev (tCB rMin _) _ _ _; exact ev_min (by walk_at "ev") (by walk_at "ev"))
  | (with_reducible show Ev (tCB rInt _) _ _ _; exact ev_int (by walk_at "ev"))
  | (with_reducible show Ev (tCB rInt _) _ _ _; exact ev_intB (by walk_at "ev"))
  | (with_reducible show Ev (tChain _ _ _ _ _) _ _ _; exact ev_chain (by walk_at "ev") (by walk_at "ev") (by walk_at "ev"))
  | (with_reducible show Ev (tAndV _ _) _ _ _; exact ev_andV (by walk_at "ev") (fun _ => by walk_at "ev"))
  | (with_reducible show Ev (tOrV _ _) _ _ _; exact ev_orV (by walk_at "ev") (fun _ => by walk_at "ev"))
  | (with_reducible show Ev (tCB (rLenQ _) _) _ _ _; exact ev_lenL (by walk_at "ev") (by walk_at "at"))
  | (with_reducible show Ev (tCB (rLenQ _) _) _ _ _; exact ev_lenT (by walk_at "ev") (by walk_at "at"))
  | (with_reducible show Ev (tUn _ _) _ _ _; exact ev_un (by walk_at "ev") ru_neg))
local macro_rules | `(tactic| walk_at "et") => `(tactic| first
  | (with_reducible show EvT (tTest _) _ _ _; exact et_test (by walk_at "ev"))
  | (with_reducible show EvT (tB _) _ _ _; exact et_B (by walk_at "ev"))
  | (with_reducible show EvT (tNot _) _ _ _; exact et_not (by walk_at "et"))
  | (with_reducible show EvT (tAnd _ _) _ _ _; exact et_and (by walk_at "et") (fun _ => by walk_at "et"))
  | (with_reducible show EvT (tOr _ _) _ _ _; exact et_or (by walk_at "et") (fun _ => by walk_at "et"))
  | exact et_tru (by walk_at "ev") (by walk_at "at"))
local macro_rules | `(tactic| walk_at "ea") => `(tactic| first
  | (with_reducible show EvA tNil _ _ _; exact ea_nil)
  | (with_reducible show EvA (tCons _ _) _ _ _; exact ea_cons (by walk_at "ev") (by walk_at "ea")))
/-! ### star not in found -/
def starD (s : Star) : PyData := .tuple [.int s.1, .int s.2.1, .int s.2.2]
theorem starD_eqv (a b : Star) : PyData.eqv (starD a) (starD b) = decide (a = b) := by
  obtain ⟨a1, a2, a3⟩ := a
  obtain ⟨b1, b2, b3⟩ := b
  simp only [starD, PyData.eqv, PyData.eqvAll, Bool.and_true]
  rw [Bool.eq_iff_iff]
  simp
theorem starD_shaped (s : Star) : SeqAt.shaped (starD s) = true := by
  simp [SeqAt.shaped, starD, PyData.canLay0, PyData.canLayAll0, PyData.depth, PyData.depthAll]
theorem starDs_lay : ∀ l : List Star, PyData.canLayAll0 (l.map starD) = true
  | [] => by simp [PyData.canLayAll0]
  | z :: zs => by simp [PyData.canLayAll0, starD, PyData.canLay0, starDs_lay zs]
theorem starDs_depth : ∀ l : List Star, PyData.depthAll (l.map starD) ≤ 1
  | [] => by simp [PyData.depthAll]
  | z :: zs => by
    have := starDs_depth zs
    simp [PyData.depthAll, starD, PyData.depth, this]
theorem starDs_shaped (l : List Star) : SeqAt.shaped (.list (l.map starD)) = true := by
  have := starDs_depth l
  unfold SeqAt.shaped
  rw [Bool.and_eq_true, decide_eq_true_eq]
  refine ⟨by simp [PyData.canLay0, starDs_lay], ?_⟩
  simp only [PyData.depth]
  exact Nat.le_trans (Nat.add_le_add_right this 1) (by decide)
section
variable {K : PySem.W.Frag}
theorem dp_star {d : Star} {x : V} {H : Hp} (h : T3 d x H) : Dp K H x (starD d) := by
  obtain ⟨p, rfl, hp⟩ := h
  exact .tup (st_of hp) (.cons (.int _) (.cons (.int _) (.cons (.int _) .nil)))
theorem Lst.uncons {α : Type} {R : α → PH} {d : α} {l : List α} {xs : List V} {H : Hp} (h : Lst R (d :: l) xs H) : ∃ x ys, xs = x :: ys ∧ R d x H ∧ Lst R l ys H := by
  cases xs with
  | nil => cases h.1
  | cons x ys =>
    refine ⟨x, ys, rfl, ?_, ?_, fun i y hy => ?_⟩
    · obtain ⟨e, h1, h2⟩ := h.2 0 x rfl
      cases h1
      exact h2
    · have := h.1
      simpa using this
    · exact h.2 (i + 1) y hy
theorem dp_stars {H : Hp} : ∀ {l : List Star} {xs : List V}, Lst T3 l xs H → DpAll K H xs (l.map starD)
  | [], xs, h => by
    have := List.length_eq_zero_iff.mp h.1
    subst this
    exact .nil
  | d :: l, xs, h => by
    obtain ⟨x, ys, rfl, h1, h2⟩ := h.uncons
    exact .cons (dp_star h1) (dp_stars h2)
theorem rv_notInS {d : Star} {x : V} {a : Addr} {xs : List V} {l : List Star} {H : Hp} (hx : T3 d x H) (ha : H a = some (.lst xs)) (hl : Lst T3 l xs H) : RV (rNotInD K) x (.ref a) H (.bl (!decide (d ∈ l))) := fun H1 e Q q => by
  refine ⟨starD d, l.map starD, dp_star (hx.up e), .lst (sq_of (e _ _ ha)) (dp_stars (hl.up st_T3 e)), starD_shaped d, starDs_shaped l, ?_⟩
  have h : ((l.map starD).any fun z => PyData.eqv z (starD d)) = decide (d ∈ l) := by
    rw [List.any_map, Bool.eq_iff_iff, List.any_eq_true, decide_eq_true_eq]
    constructor
    · rintro ⟨z, hz, h⟩
      have h' : PyData.eqv (starD z) (starD d) = true := h
      rw [starD_eqv, decide_eq_true_eq] at h'
      rw [← h']
      exact hz
    · intro hm
      refine ⟨d, hm, ?_⟩
      show PyData.eqv (starD d) (starD d) = true
      rw [starD_eqv, decide_eq_true_eq]
  rw [h]
  exact q H1 (Ex.refl H1)
end
section
variable {P : Program} {w : World} {K : PySem.W.Frag} {mg : PySem.Str → Option Value} {base : Heap}
/-- a list of stars, fit for a sky -/
def StarsV (n : Int) : PH := fun v H => ∃ p xs l, v = .ref p ∧ H p = some (.lst xs) ∧ Lst T3 l xs H ∧ StOk n l
def spStars : Sp := SpG 4 fun vs H R => ∃ (a : Addr) (ns : List Int) (i n m : Int), vs = [.ref a, .int i, .int n, .int m] ∧ H a = some (.lst (ns.map V.int)) ∧ NumOk ns ∧ 0 ≤ i ∧ 0 ≤ m ∧ m ≤ 8 ∧ i + 3 * m + 3 ≤ 80 ∧ SideOk n ∧ R = StarsV n
abbrev s__law_stars : Stmt := top 45
abbrev N__law_stars : List PySem.Str := ["_law_numbers_here", "_law_at", "_law_side", "_law_many", "_law_found", "_law_count", "_law_k", "_law_place", "_law_light", "_law_star"]
theorem sc__law_stars : FnScope N__law_stars ["_law_numbers_here", "_law_at", "_law_side", "_law_many"] (defScope s__law_stars) := ⟨rfl, rfl, rfl, by decide +kernel, rfl, by decide +kernel, by decide +kernel⟩
theorem ok__law_stars (B : Bl mg) (D : Df K mg "_law_stars" s__law_stars) : Kn P w K mg base "_law_stars" 2 ["_law_numbers_here", "_law_at", "_law_side", "_law_many"] spStars := by
  obtain ⟨f, fd, F, hm⟩ := D
  refine kn_mk F hm (F.binds (ps := ["_law_numbers_here", "_law_at", "_law_side", "_law_many"]) fun _ _ _ _ _ _ us hl => match us, hl with | [_, _, _, _], _ => rfl) ?_
  refine F.ok sc__law_stars (fun vs H Q E h => h.1) (fun cdv A outer s H vs Q E hr h => ?_)
  have hu := hu_of hr
  have nd := sc__law_stars.nd
  obtain ⟨_, R, ⟨a, ns, i, n, m, rfl, ha, hok, hi0, hm0, hm8, him, hn, rfl⟩, k⟩ := h
  refine ⟨_, (pss_cons (ps_set (i := 4) nd rfl (by first | exact Or.inl rfl | exact Or.inr rfl) (pe_lst pa_nil))
      (pss_cons (ps_set (i := 5) nd rfl (by first | exact Or.inl rfl | exact Or.inr rfl) (pe_op op_mod (pe_callTy call_int1 (by rfl) B.int (by decide +kernel) (pa_cons (pe_ix ix_list (pv 0) (pv 1) (fun _ _ => rfl)) pa_nil)) (pe_op op_add (pv 3) pe_int)))
      (pss_cut (ps_if (pt_cmpR op_eq (pe_op op_mod (pe_op op_fdiv (pe_callTy call_int1 (by rfl) B.int (by decide +kernel) (pa_cons (pe_ix ix_list (pv 0) (pv 1) (fun _ _ => rfl)) pa_nil)) pe_int) pe_int) pe_int (nomark _)) (pss_one (ps_set (i := 5) nd rfl (by first | exact Or.inl rfl | exact Or.inr rfl) (pv 3))) pss_nil)
      (pss_cons (ps_for PassesOwn.never rfl (pi_range1 (by rfl) B.range (pa_cons (pv 5) pa_nil)) (pg_name (i := 6) nd rfl (by first | exact Or.inl rfl | exact Or.inr rfl))
      (pss_cons (ps_set (i := 7) nd rfl (by first | exact Or.inl rfl | exact Or.inr rfl) (pe_op op_add (pe_op op_add (pv 1) pe_int) (pe_op op_mul pe_int (pv 6))))
      (pss_cons (ps_set (i := 8) nd rfl (by first | exact Or.inl rfl | exact Or.inr rfl) (pe_op op_add pe_int (pe_op op_mod (pe_callTy call_int1 (by rfl) B.int (by decide +kernel) (pa_cons (pe_ix ix_list (pv 0) (pe_op op_add (pv 7) pe_int) (fun _ _ => rfl)) pa_nil)) pe_int)))
      (pss_cut (ps_if (pt_cmpR op_gt (pe_op op_mod (pe_op op_fdiv (pe_callTy call_int1 (by rfl) B.int (by decide +kernel) (pa_cons (pe_ix ix_list (pv 0) (pv 1) (fun _ _ => rfl)) pa_nil)) (pe_op op_add (pv 3) pe_int)) pe_int) pe_int (nomark _)) (pss_one (ps_set (i := 8) nd rfl (by first | exact Or.inl rfl | exact Or.inr rfl) (pe_ix ix_list (pe_lst (pa_cons pe_int (pa_cons pe_int (pa_cons pe_int (pa_cons pe_int pa_nil))))) (pe_op op_mod (pe_callTy call_int1 (by rfl) B.int (by decide +kernel) (pa_cons (pe_ix ix_list (pv 0) (pe_op op_add (pv 7) pe_int) (fun _ _ => rfl)) pa_nil)) pe_int) (fun _ _ => rfl)))) pss_nil)
      (pss_cons (ps_set (i := 9) nd rfl (by first | exact Or.inl rfl | exact Or.inr rfl) (pe_tup (pa_cons (pe_op op_mod (pe_callTy call_int1 (by rfl) B.int (by decide +kernel) (pa_cons (pe_ix ix_list (pv 0) (pv 7) (fun _ _ => rfl)) pa_nil)) (pv 2)) (pa_cons (pe_op op_mod (pe_callTy call_int1 (by rfl) B.int (by decide +kernel) (pa_cons (pe_ix ix_list (pv 0) (pe_op op_add (pv 7) pe_int) (fun _ _ => rfl)) pa_nil)) (pv 2)) (pa_cons (pv 8) pa_nil)))))
      (pss_one (ps_if (pt_cmpR (op_notInD (units65 hr)) (pv 9) (pv 4) (by rfl)) (pss_one (ps_expr (pe_bm PySem.F.plainAttrs_list PySem.F.slot_list_append PySem.F.type_list_append mt_append (pv 4) (pa_cons (pv 9) pa_nil)))) pss_nil)))))))
      (pss_one (ps_ret (pe_callB (cr_sortQ (d := 3) (B := 10) (by decide)) (by rfl) B.sorted (by decide +kernel) (pa_cons (pv 4) pa_nil)))))))), ?_⟩
  have hn4 : 4 ≤ n ∧ n ≤ 6 := by rcases hn with e | e | e <;> rw [e] <;> decide
  refine q_asgL (el_lst ea_nil (Nat.zero_le _)) fun l H1 hl e1 h1 => ?_
  refine q_asg (ev_op (ev_int (by walk_at "ev")) (by walk_at "ev") (rv_mod (by omega))) fun H2 e2 => ?_
  refine q_cutI (fun σ' H' => ∃ cnt : Int, 0 ≤ cnt ∧ cnt ≤ m ∧ σ' = [some (.ref a), some (.int i), some (.int n), some (.int m), some (.ref l), some (.int cnt), none, none, none, none] ∧ Ex H2 H') ?_ ?_
  · refine s_if (b := decide (V.int (num ns i / 64 % 2) = V.int 1)) (et_test (ev_op (ev_op (ev_op (ev_int (ev_num ((e1.trans e2) _ _ ha) hok (ev_var rfl) (ev_var rfl) (by omega) (by omega))) ev_c (rv_fdiv (div_ok (by decide)))) ev_c (rv_mod (by decide))) ev_c (rv_eq rfl))) (fun _ H3 e3 => ?_) (fun _ H3 e3 => ⟨num ns i % (m + 1), Int.emod_nonneg _ (by omega), by have := Int.emod_lt_of_pos (num ns i) (show 0 < m + 1 by omega); omega, rfl, e3⟩)
    exact s_asg (ev_var rfl) fun H4 e4 => ⟨m, hm0, Int.le_refl _, rfl, e3.trans e4⟩
  · rintro σ' H3 ⟨cnt, hc0, hcm, rfl, e3⟩
    have e13 := (e1.trans e2).trans e3
    refine q_forR1 (by walk_at "ea") (by omega) (fun x σ' H' => (∃ u6 u7 u8 u9, σ' = [some (.ref a), some (.int i), some (.int n), some (.int m), some (.ref l), some (.int cnt), u6, u7, u8, u9]) ∧ Ex H H' ∧ ∃ st ys, H' l = some (.lst ys) ∧ Lst T3 st ys H' ∧ st.length ≤ x ∧ (∀ s ∈ st, StarOk n s) ∧ st.Nodup) (fun H4 e4 => ⟨⟨_, _, _, _, rfl⟩, e13.trans e4, [], [], (e2.trans (e3.trans e4)) _ _ h1, Lst.nil, Nat.le_refl _, nofun, List.nodup_nil⟩) ?_ ?_
    · rintro x σ' H' hx ⟨⟨u6, u7, u8, u9, rfl⟩, e4, st, ys, hy, hL, hlen, hg, hnd⟩
      have hxc : (x : Int) < cnt := by omega
      refine q_asg (by walk_at "ev") fun H5 e5 => ?_
      have e15 := e4.trans e5
      have ha5 := e15 _ _ ha
      refine q_asg (ev_op ev_c (ev_op (ev_int (ev_num ha5 hok (ev_var rfl) (by walk_at "ev") (by omega) (by omega))) ev_c (rv_mod (by decide))) rv_I0) fun H6 e6 => ?_
      have ha6 := e6 _ _ ha5
      refine q_cutI (fun σ' H' => ∃ lt : Int, 1 ≤ lt ∧ lt ≤ 9 ∧ σ' = [some (.ref a), some (.int i), some (.int n), some (.int m), some (.ref l), some (.int cnt), some (.int (x : Nat)), some (.int (i + 1 + 3 * (x : Int))), some (.int lt), u9] ∧ Ex H6 H') ?_ ?_
      · refine s_if (b := decide (0 < num ns i / (m + 1) % 3)) (et_test (ev_op (ev_op (ev_op (ev_int (ev_num ha6 hok (ev_var rfl) (ev_var rfl) (by omega) (by omega))) (by walk_at "ev") (rv_fdiv (div_ok (by omega)))) ev_c (rv_mod (by decide))) ev_c rv_I0)) (fun _ H7 e7 => ?_) (fun _ H7 e7 => ⟨1 + num ns (i + 1 + 3 * (x : Int) + 2) % 9, by omega, by omega, rfl, e7⟩)
        obtain ⟨g, hg1, hg2, hg3⟩ := lit_light (num ns (i + 1 + 3 * (x : Int) + 2))
        exact s_asg (ev_ixLit (el_lst (by walk_at "ea") (Nat.le_of_ble_eq_true rfl)) (ev_op (ev_int (ev_num (e7 _ _ ha6) hok (ev_var rfl) (by walk_at "ev") (by omega) (by omega))) ev_c (rv_mod (by decide))) hg1) fun H8 e8 => ⟨g, hg2, hg3, rfl, e7.trans e8⟩
      · rintro σ' H7 ⟨lt, hlt1, hlt9, rfl, e7⟩
        have ha7 := e7 _ _ ha6
        refine q_asgU (eu_tup (ea_cons (ev_op (ev_int (ev_num ha7 hok (ev_var rfl) (ev_var rfl) (by omega) (by omega))) (ev_var rfl) (rv_mod (by omega))) (ea_cons (ev_op (ev_int (ev_num ha7 hok (ev_var rfl) (by walk_at "ev") (by omega) (by omega))) (ev_var rfl) (rv_mod (by omega))) (ea_cons (ev_var rfl) ea_nil))) (Nat.le_of_ble_eq_true rfl)) fun p H8 hp e8 h8 => ?_
        have e58 := ((e5.trans e6).trans e7).trans e8
        have hs : T3 (num ns (i + 1 + 3 * (x : Int)) % n, num ns (i + 1 + 3 * (x : Int) + 1) % n, lt) (.ref p) H8 := ⟨p, rfl, h8⟩
        have hsok : StarOk n (num ns (i + 1 + 3 * (x : Int)) % n, num ns (i + 1 + 3 * (x : Int) + 1) % n, lt) := by
          refine ⟨Int.emod_nonneg _ (by omega), Int.emod_lt_of_pos _ (by omega), Int.emod_nonneg _ (by omega), Int.emod_lt_of_pos _ (by omega), hlt1, hlt9⟩
        generalize (num ns (i + 1 + 3 * (x : Int)) % n, num ns (i + 1 + 3 * (x : Int) + 1) % n, lt) = s at hs hsok
        have hy8 := e58 _ _ hy
        have hL8 := hL.up st_T3 e58
        refine s_if (b := !decide (s ∈ st)) (et_test (ev_op (ev_var rfl) (ev_var rfl) (rv_notInS hs hy8 hL8))) (fun hb H9 e9 => ?_) (fun hb H9 e9 => ?_)
        · have hb' : s ∉ st := by simpa using hb
          refine s_app (e9 _ _ hy8) (by walk_at "ev") (by walk_at "ev") (by rw [hL.1]; omega) fun H10 e10 => ?_
          have hl10 := (e9.trans e10) _ _ hy8
          have tz : Tups H10 (upd H10 l (.lst (ys ++ [.ref p]))) := Tups.lst hl10
          have t89 := (Tups.of (e9.trans e10)).trans tz
          refine ⟨⟨_, _, _, _, rfl⟩, Ex.mut (((e4.trans e58).trans e9).trans e10) hl, st ++ [s], _, upd_same, Lst.snoc (hL8.tups im_T3 t89) (im_T3 _ _ _ _ t89 hs), by rw [List.length_append]; simp; omega, fun y hy => ?_, ?_⟩
          · rcases List.mem_append.mp hy with z | z
            · exact hg y z
            · rw [List.mem_singleton.mp z]
              exact hsok
          · rw [List.nodup_append]
            exact ⟨hnd, List.nodup_cons.mpr ⟨nofun, List.nodup_nil⟩, fun y hy z hz => by rw [List.mem_singleton.mp hz]; exact fun e => hb' (e ▸ hy)⟩
        · exact ⟨⟨_, _, _, _, rfl⟩, (e4.trans e58).trans e9, st, ys, e9 _ _ hy8, hL8.up st_T3 e9, by omega, hg, hnd⟩
    · rintro σ' H' ⟨⟨u6, u7, u8, u9, rfl⟩, e4, st, ys, hy, hL, hlen, hg, hnd⟩
      refine s_retP (ev_sortS (ev_var rfl) (.inl hy) hL (by omega) fun s hs => (hg s hs).digs hn) fun v H5 e5 ⟨p, zs, l', hv, _, hp, hL', hpm, hsr⟩ => k v H5 (e4.trans e5) ⟨p, zs, l', hv, hp, hL', ⟨by rw [hpm.length_eq]; omega, fun s hs => hg s (hpm.mem_iff.mp hs), hpm.nodup_iff.mpr hnd, hsr⟩⟩
theorem use_stars {a : Addr} {ns : List Int} {i n m : Int} {H : Hp} (ha : H a = some (.lst (ns.map V.int))) (hok : NumOk ns) (h0 : 0 ≤ i) (hm0 : 0 ≤ m) (hm8 : m ≤ 8) (him : i + 3 * m + 3 ≤ 80) (hn : SideOk n) : SpP spStars [.ref a, .int i, .int n, .int m] H (StarsV n) := spg fun _ e => ⟨a, ns, i, n, m, rfl, e _ _ ha, hok, h0, hm0, hm8, him, hn, rfl⟩
end
end K77
end

section
set_option maxRecDepth 100000
set_option maxHeartbeats 4000000
namespace K77
open PySem L2 Evl
local macro_rules | `(tactic| walk_at "at") => `(tactic| first | assumption | exact Ex.get (by assumption) (by assumption))
local macro_rules | `(tactic| walk_at "sk") => `(tactic| first | assumption | exact SkyA.up (by assumption) (by assumption))
local macro_rules | `(tactic| walk_at "rv") => `(tactic| first
  | with_reducible exact rv_I0
  | with_reducible exact rv_isN
  | with_reducible exact rv_notN
  | (with_reducible show RV (rI (fun _ j => 0 < j) fun i j => .int (i % j)) _ _ _ _; exact rv_mod (by first | assumption | omega))
  | (with_reducible show RV (rI CMul _) _ _ _ _; exact rv_mul (by first | exact mul_l (by omega) | exact mul_r (by omega)))
  | (with_reducible show RV (rI CDiv _) _ _ _ _; exact rv_fdiv (div_ok (by omega)))
  | (with_reducible show RV (rIxT _) _ _ _ _; exact rv_tup (by walk_at "at") rfl)
  | (with_reducible show RV rEq _ _ _ _; exact rv_eq rfl)
  | (with_reducible show RV rNe _ _ _ _; exact rv_ne rfl))
local macro_rules | `(tactic| walk_at "ev") => `(tactic| first
  | (with_reducible show Ev (tVar _) _ _ _; exact ev_var rfl)
  | (with_reducible show Ev (tC _) _ _ _; exact ev_c)
  | (with_reducible show Ev (tOp (rIxL _) _ _) _ _ _; exact ev_num (by walk_at "at") (by assumption) (by walk_at "ev") (by walk_at "ev") (by omega) (by omega))
  | (with_reducible show Ev (tOp _ _ _) _ _ _; exact ev_op (by walk_at "ev") (by walk_at "ev") (by walk_at "rv"))
  | (with_reducible show Ev (tProp _ _ _ _ _) _ _ _; exact ev_sky (by walk_at "ev") (by walk_at "sk"))
  | (with_reducible show Ev (tCB rAbs _) _ _ _; exact ev_abs (by walk_at "ev"))
  | (with_reducible show Ev (tCB rMax _) _ _ _; exact ev_max (by walk_at "ev") (by walk_at "ev"))
  | (with_reducible show Ev (tCB rMin _) _ _ _; exact ev_min (by walk_at "ev") (by walk_at "ev"))
  | (with_reducible show Ev (tCB rInt _) _ _ _; exact ev_int (by walk_at "ev"))
  | (with_reducible show Ev (tCB rInt _) _ _ _; exact ev_intB (by walk_at "ev"))
  | (with_reducible show Ev (tChain _ _ _ _ _) _ _ _; exact ev_chain (by walk_at "ev") (by walk_at "ev") (by walk_at "ev"))
  | (with_reducible show Ev (tAndV _ _) _ _ _; exact ev_andV (by walk_at "ev") (fun _ => by walk_at "ev"))
  | (with_reducible show Ev (tOrV _ _) _ _ _; exact ev_orV (by walk_at "ev") (fun _ => by walk_at "ev"))
  | (with_reducible show Ev (tCB (rLenQ _) _) _ _ _; exact ev_lenL (by walk_at "ev") (by walk_at "at"))
  | (with_reducible show Ev (tCB (rLenQ _) _) _ _ _; exact ev_lenT (by walk_at "ev") (by walk_at "at"))
  | (with_reducible show Ev (tUn _ _) _ _ _; exact ev_un (by walk_at "ev") ru_neg))
local macro_rules | `(tactic| walk_at "et") => `(tactic| first
  | (with_reducible show EvT (tTest _) _ _ _; exact et_test (by walk_at "ev"))
  | (with_reducible show EvT (tB _) _ _ _; exact et_B (by walk_at "ev"))
  | (with_reducible show EvT (tNot _) _ _ _; exact et_not (by walk_at "et"))
  | (with_reducible show EvT (tAnd _ _) _ _ _; exact et_and (by walk_at "et") (fun _ => by walk_at "et"))
  | (with_reducible show EvT (tOr _ _) _ _ _; exact et_or (by walk_at "et") (fun _ => by walk_at "et"))
  | exact et_tru (by walk_at "ev") (by walk_at "at"))
local macro_rules | `(tactic| walk_at "ea") => `(tactic| first
  | (with_reducible show EvA tNil _ _ _; exact ea_nil)
  | (with_reducible show EvA (tCons _ _) _ _ _; exact ea_cons (by walk_at "ev") (by walk_at "ea")))
theorem evp_tupP {σ : St} {H : Hp} {ta : TA} {R : PH} (ha : EvAP ta σ H (fun vs H1 => vs.length ≤ 100000 ∧ ∀ p H2, Ex H1 H2 → H2 p = some (.tup vs) → R (.ref p) H2)) : EvP (tTup ta) σ H R := fun H1 e Q q => ha H1 e _ fun vs H2 e2 ⟨hz, hr⟩ =>
  ⟨sz_of hz, fun p hp => q _ _ (e2.trans (Ex.new hp)) (hr p _ (Ex.new hp) upd_same)⟩
theorem evp_U {σ : St} {H : Hp} {te : TE} {xs : List V} (h : EvU te σ H xs) : EvP te σ H (fun v H' => ∃ p, v = .ref p ∧ H' p = some (.tup xs)) := fun H1 e Q q => h H1 e _ fun p H2 _ e2 h2 => q _ H2 e2 ⟨p, rfl, h2⟩
theorem evp_L {σ : St} {H : Hp} {te : TE} {xs : List V} (h : EvL te σ H xs) : EvP te σ H (fun v H' => ∃ p, v = .ref p ∧ H' p = some (.lst xs)) := fun H1 e Q q => h H1 e _ fun p H2 _ e2 h2 => q _ H2 e2 ⟨p, rfl, h2⟩
/-- the parts of a sky: side, list of stars, camera -/
structure PartsA (S : Sk) (p sa ca : Addr) (xs : List V) (H : Hp) : Prop where
  tp : H p = some (.tup [.int S.n, .ref sa, .ref ca])
  st : H sa = some (.lst xs)
  sts : Lst T3 S.st xs H
  cm : H ca = some (.tup [.int S.cam.r, .int S.cam.b, .int S.cam.g, .int S.cam.l])
theorem PartsA.up {S : Sk} {p sa ca : Addr} {xs : List V} {H H' : Hp} (e : Ex H H') (h : PartsA S p sa ca xs H) : PartsA S p sa ca xs H' := ⟨e _ _ h.tp, e _ _ h.st, h.sts.up st_T3 e, e _ _ h.cm⟩
def PartsAt (S : Sk) : PH := fun v H => ∃ p sa ca xs, v = .ref p ∧ PartsA S p sa ca xs H
theorem PartsAt.up {S : Sk} {v : V} {H H' : Hp} (e : Ex H H') (h : PartsAt S v H) : PartsAt S v H' := let ⟨p, sa, ca, xs, a, b⟩ := h; ⟨p, sa, ca, xs, a, b.up e⟩
structure SkGood (S : Sk) : Prop where
  side : SideOk S.n
  cam : CamOk S.n S.cam
  st : StOk S.n S.st
theorem SkGood.ok {S : Sk} (h : SkGood S) : SkOk S := ⟨h.side, h.cam, h.st.few, h.st.ok⟩
def PartsV : PH := fun v H => ∃ S, SkGood S ∧ PartsAt S v H
section
variable {P : Program} {w : World} {K : PySem.W.Frag} {mg : PySem.Str → Option Value} {base : Heap}
def spFull : Sp := SpG 3 fun vs H R => ∃ (a : Addr) (ns : List Int) (i m : Int), vs = [.ref a, .int i, .int m] ∧ H a = some (.lst (ns.map V.int)) ∧ NumOk ns ∧ 0 ≤ i ∧ 0 ≤ m ∧ m ≤ 8 ∧ i + 3 * m + 3 ≤ 80 ∧ R = PartsV
abbrev s__law_full : Stmt := top 46
abbrev N__law_full : List PySem.Str := ["_law_numbers_here", "_law_at", "_law_many", "_law_found", "_law_k", "_law_place", "_law_star"]
theorem sc__law_full : FnScope N__law_full ["_law_numbers_here", "_law_at", "_law_many"] (defScope s__law_full) := ⟨rfl, rfl, rfl, by decide +kernel, rfl, by decide +kernel, by decide +kernel⟩
theorem ok__law_full (B : Bl mg) (D : Df K mg "_law_full" s__law_full) : Kn P w K mg base "_law_full" 2 ["_law_numbers_here", "_law_at", "_law_many"] spFull := by
  obtain ⟨f, fd, F, hm⟩ := D
  refine kn_mk F hm (F.binds (ps := ["_law_numbers_here", "_law_at", "_law_many"]) fun _ _ _ _ _ _ us hl => match us, hl with | [_, _, _], _ => rfl) ?_
  refine F.ok sc__law_full (fun vs H Q E h => h.1) (fun cdv A outer s H vs Q E hr h => ?_)
  have hu := hu_of hr
  have nd := sc__law_full.nd
  obtain ⟨_, R, ⟨a, ns, i, m, rfl, ha, hok, hi0, hm0, hm8, him, rfl⟩, k⟩ := h
  refine ⟨_, (pss_cons (ps_set (i := 3) nd rfl (by first | exact Or.inl rfl | exact Or.inr rfl) (pe_lst pa_nil))
      (pss_cons (ps_for PassesOwn.never rfl (pi_range1 (by rfl) B.range (pa_cons (pv 2) pa_nil)) (pg_name (i := 4) nd rfl (by first | exact Or.inl rfl | exact Or.inr rfl))
      (pss_cons (ps_set (i := 5) nd rfl (by first | exact Or.inl rfl | exact Or.inr rfl) (pe_op op_add (pv 1) (pe_op op_mul pe_int (pv 4))))
      (pss_cons (ps_set (i := 6) nd rfl (by first | exact Or.inl rfl | exact Or.inr rfl) (pe_tup (pa_cons (pe_op op_mod (pe_callTy call_int1 (by rfl) B.int (by decide +kernel) (pa_cons (pe_ix ix_list (pv 0) (pv 5) (fun _ _ => rfl)) pa_nil)) pe_int) (pa_cons (pe_op op_mod (pe_callTy call_int1 (by rfl) B.int (by decide +kernel) (pa_cons (pe_ix ix_list (pv 0) (pe_op op_add (pv 5) pe_int) (fun _ _ => rfl)) pa_nil)) pe_int) (pa_cons (pe_op op_add pe_int (pe_op op_mod (pe_callTy call_int1 (by rfl) B.int (by decide +kernel) (pa_cons (pe_ix ix_list (pv 0) (pe_op op_add (pv 5) pe_int) (fun _ _ => rfl)) pa_nil)) pe_int)) pa_nil)))))
      (pss_one (ps_if (pt_cmpR (op_notInD (units65 hr)) (pv 6) (pv 3) (by rfl)) (pss_one (ps_expr (pe_bm PySem.F.plainAttrs_list PySem.F.slot_list_append PySem.F.type_list_append mt_append (pv 3) (pa_cons (pv 6) pa_nil)))) pss_nil)))))
      (pss_one (ps_ret (pe_tup (pa_cons pe_int (pa_cons (pe_callB (cr_sortQ (d := 3) (B := 10) (by decide)) (by rfl) B.sorted (by decide +kernel) (pa_cons (pv 3) pa_nil)) (pa_cons (pe_tup (pa_cons pe_int (pa_cons pe_int (pa_cons pe_int (pa_cons pe_int pa_nil))))) pa_nil)))))))), ?_⟩
  have hn : SideOk 4 := .inl rfl
  refine q_asgL (el_lst ea_nil (Nat.zero_le _)) fun l H1 hl e1 h1 => ?_
  refine q_forR1 (by walk_at "ea") (by omega) (fun x σ' H' => (∃ u6 u7 u8, σ' = [some (.ref a), some (.int i), some (.int m), some (.ref l), u6, u7, u8]) ∧ Ex H H' ∧ ∃ st ys, H' l = some (.lst ys) ∧ Lst T3 st ys H' ∧ st.length ≤ x ∧ (∀ s ∈ st, StarOk 4 s) ∧ st.Nodup) (fun H4 e4 => ⟨⟨_, _, _, rfl⟩, e1.trans e4, [], [], e4 _ _ h1, Lst.nil, Nat.le_refl _, nofun, List.nodup_nil⟩) ?_ ?_
  · rintro x σ' H' hx ⟨⟨u6, u7, u8, rfl⟩, e4, st, ys, hy, hL, hlen, hg, hnd⟩
    have hxc : (x : Int) < m := by omega
    refine q_asg (by walk_at "ev") fun H5 e5 => ?_
    have ha7 := (e4.trans e5) _ _ ha
    refine q_asgU (eu_tup (ea_cons (ev_op (ev_int (ev_num ha7 hok (ev_var rfl) (ev_var rfl) (by omega) (by omega))) ev_c (rv_mod (by omega))) (ea_cons (ev_op (ev_int (ev_num ha7 hok (ev_var rfl) (by walk_at "ev") (by omega) (by omega))) ev_c (rv_mod (by omega))) (ea_cons (ev_op ev_c (ev_op (ev_int (ev_num ha7 hok (ev_var rfl) (by walk_at "ev") (by omega) (by omega))) ev_c (rv_mod (by omega))) rv_I0) ea_nil))) (Nat.le_of_ble_eq_true rfl)) fun p H8 hp e8 h8 => ?_
    have e58 := e5.trans e8
    have hs : T3 (num ns (i + 3 * (x : Int)) % 4, num ns (i + 3 * (x : Int) + 1) % 4, 1 + num ns (i + 3 * (x : Int) + 2) % 9) (.ref p) H8 := ⟨p, rfl, h8⟩
    have hsok : StarOk 4 (num ns (i + 3 * (x : Int)) % 4, num ns (i + 3 * (x : Int) + 1) % 4, 1 + num ns (i + 3 * (x : Int) + 2) % 9) := by
      refine ⟨?_, ?_, ?_, ?_, ?_, ?_⟩ <;> simp only [] <;> omega
    generalize (num ns (i + 3 * (x : Int)) % 4, num ns (i + 3 * (x : Int) + 1) % 4, 1 + num ns (i + 3 * (x : Int) + 2) % 9) = s at hs hsok
    have hy8 := e58 _ _ hy
    have hL8 := hL.up st_T3 e58
    refine s_if (b := !decide (s ∈ st)) (et_test (ev_op (ev_var rfl) (ev_var rfl) (rv_notInS hs hy8 hL8))) (fun hb H9 e9 => ?_) (fun hb H9 e9 => ?_)
    · have hb' : s ∉ st := by simpa using hb
      refine s_app (e9 _ _ hy8) (by walk_at "ev") (by walk_at "ev") (by rw [hL.1]; omega) fun H10 e10 => ?_
      have hl10 := (e9.trans e10) _ _ hy8
      have tz : Tups H10 (upd H10 l (.lst (ys ++ [.ref p]))) := Tups.lst hl10
      have t89 := (Tups.of (e9.trans e10)).trans tz
      refine ⟨⟨_, _, _, rfl⟩, Ex.mut (((e4.trans e58).trans e9).trans e10) hl, st ++ [s], _, upd_same, Lst.snoc (hL8.tups im_T3 t89) (im_T3 _ _ _ _ t89 hs), by rw [List.length_append]; simp; omega, fun y hy => ?_, ?_⟩
      · rcases List.mem_append.mp hy with z | z
        · exact hg y z
        · rw [List.mem_singleton.mp z]
          exact hsok
      · rw [List.nodup_append]
        exact ⟨hnd, List.nodup_cons.mpr ⟨nofun, List.nodup_nil⟩, fun y hy z hz => by rw [List.mem_singleton.mp hz]; exact fun e => hb' (e ▸ hy)⟩
    · exact ⟨⟨_, _, _, rfl⟩, (e4.trans e58).trans e9, st, ys, e9 _ _ hy8, hL8.up st_T3 e9, by omega, hg, hnd⟩
  · rintro σ' H' ⟨⟨u6, u7, u8, rfl⟩, e4, st, ys, hy, hL, hlen, hg, hnd⟩
    refine s_retP (R := PartsV) (evp_tupP (eap_consV ev_c fun H5 e5 => eap_cons (ev_sortS (ev_var rfl) (.inl (e5 _ _ hy)) (hL.up st_T3 e5) (by omega) fun s hs => (hg s hs).digs hn) fun v6 H6 e6 ⟨q, zs, l', hv, _, hq, hL', hpm, hsr⟩ => eap_cons (evp_U (xs := [V.int 1, .int 0, .int 0, .int 1]) (eu_tup (by walk_at "ea") (Nat.le_of_ble_eq_true rfl))) fun v7 H7 e7 ⟨c, hv7, hc⟩ => eap_of ea_nil fun H8 e8 => ⟨Nat.le_of_ble_eq_true rfl, fun p H9 e9 hp => ?_⟩)) fun v H5 e5 r => k v H5 (e4.trans e5) r
    subst hv hv7
    exact ⟨⟨4, l', ⟨1, 0, 0, 1⟩⟩, ⟨hn, (show CamOk 4 ⟨1, 0, 0, 1⟩ by decide), ⟨by rw [hpm.length_eq]; omega, fun s hs => hg s (hpm.mem_iff.mp hs), hpm.nodup_iff.mpr hnd, hsr⟩⟩, p, q, c, zs, rfl, hp, ((e7.trans e8).trans e9) _ _ hq, hL'.up st_T3 ((e7.trans e8).trans e9), (e8.trans e9) _ _ hc⟩
theorem use_full {a : Addr} {ns : List Int} {i m : Int} {H : Hp} (ha : H a = some (.lst (ns.map V.int))) (hok : NumOk ns) (h0 : 0 ≤ i) (hm0 : 0 ≤ m) (hm8 : m ≤ 8) (him : i + 3 * m + 3 ≤ 80) : SpP spFull [.ref a, .int i, .int m] H PartsV := spg fun _ e => ⟨a, ns, i, m, rfl, e _ _ ha, hok, h0, hm0, hm8, him, rfl⟩
/-! ### the parts, the sky made -/
def spParts : Sp := SpG 4 fun vs H R => ∃ (a b : Addr) (ns : List Int), vs = [.ref a, .int 0, .ref b, .int 8] ∧ H a = some (.lst (ns.map V.int)) ∧ NumOk ns ∧ H b = some (.lst [.int 4, .int 5, .int 6, .int 5]) ∧ R = PartsV
theorem lit_side (x : Int) : ∃ n, atI [V.int 4, .int 5, .int 6, .int 5] (x % 4) = some (.int n) ∧ SideOk n := by
  have h : x % 4 = 0 ∨ x % 4 = 1 ∨ x % 4 = 2 ∨ x % 4 = 3 := by omega
  rcases h with h | h | h | h <;> rw [h]
  · exact ⟨_, rfl, .inl rfl⟩
  · exact ⟨_, rfl, .inr (.inl rfl)⟩
  · exact ⟨_, rfl, .inr (.inr rfl)⟩
  · exact ⟨_, rfl, .inr (.inl rfl)⟩
abbrev s__law_parts : Stmt := top 47
abbrev N__law_parts : List PySem.Str := ["_law_numbers_here", "_law_at", "_law_sides", "_law_many", "_law_side", "_law_few"]
theorem sc__law_parts : FnScope N__law_parts ["_law_numbers_here", "_law_at", "_law_sides", "_law_many"] (defScope s__law_parts) := ⟨rfl, rfl, rfl, by decide +kernel, rfl, by decide +kernel, by decide +kernel⟩
theorem ok__law_parts (B : Bl mg) (G__law_full : Kn P w K mg base "_law_full" 2 ["_law_numbers_here", "_law_at", "_law_many"] spFull) (G__law_stars : Kn P w K mg base "_law_stars" 2 ["_law_numbers_here", "_law_at", "_law_side", "_law_many"] spStars) (G__law_camera : Kn P w K mg base "_law_camera" 1 ["_law_numbers_here", "_law_at", "_law_side"] spCamera) (D : Df K mg "_law_parts" s__law_parts) : Kn P w K mg base "_law_parts" 3 ["_law_numbers_here", "_law_at", "_law_sides", "_law_many"] spParts := by
  obtain ⟨f, fd, F, hm⟩ := D
  refine kn_mk F hm (F.binds (ps := ["_law_numbers_here", "_law_at", "_law_sides", "_law_many"]) fun _ _ _ _ _ _ us hl => match us, hl with | [_, _, _, _], _ => rfl) ?_
  refine F.ok sc__law_parts (fun vs H Q E h => h.1) (fun cdv A outer s H vs Q E hr h => ?_)
  have hu := hu_of hr
  have nd := sc__law_parts.nd
  obtain ⟨_, R, ⟨a, b, ns, rfl, ha, hok, hb, rfl⟩, k⟩ := h
  refine ⟨_, (pss_cons (ps_set (i := 4) nd rfl (by first | exact Or.inl rfl | exact Or.inr rfl) (pe_ix ix_list (pv 2) (pe_op op_mod (pe_callTy call_int1 (by rfl) B.int (by decide +kernel) (pa_cons (pe_ix ix_list (pv 0) (pv 1) (fun _ _ => rfl)) pa_nil)) (pe_callB call_len_seq (by rfl) B.len (by decide +kernel) (pa_cons (pv 2) pa_nil))) (fun _ _ => rfl)))
      (pss_cons (ps_if (PW.pt (pw_and (pt_cmpR op_gt (pv 3) pe_int (nomark _)) (pw_and1 (pt_cmpR op_eq (pe_op op_mod (pe_callTy call_int1 (by rfl) B.int (by decide +kernel) (pa_cons (pe_op op_fdiv (pe_ix ix_list (pv 0) (pv 1) (fun _ _ => rfl)) (pe_callB call_len_seq (by rfl) B.len (by decide +kernel) (pa_cons (pv 2) pa_nil))) pa_nil)) pe_int) pe_int (nomark _))))) (pss_one (ps_ret (pe_own G__law_full hr (pa_cons (pv 0) (pa_cons (pe_op op_add (pv 1) pe_int) (pa_cons (pv 3) pa_nil)))))) pss_nil)
      (pss_cons (ps_set (i := 5) nd rfl (by first | exact Or.inl rfl | exact Or.inr rfl) (pe_ix ix_list (pe_lst (pa_cons (pv 3) (pa_cons pe_int pa_nil))) (pe_callTy call_int1 (by rfl) B.int (by decide +kernel) (pa_cons (pe_cmpR op_gt (pv 4) pe_int (nomark _)) pa_nil)) (fun _ _ => rfl)))
      (pss_one (ps_ret (pe_tup (pa_cons (pv 4) (pa_cons (pe_own G__law_stars hr (pa_cons (pv 0) (pa_cons (pe_op op_add (pv 1) pe_int) (pa_cons (pv 4) (pa_cons (pv 5) pa_nil))))) (pa_cons (pe_own G__law_camera hr (pa_cons (pv 0) (pa_cons (pe_op op_add (pv 1) pe_int) (pa_cons (pv 4) pa_nil)))) pa_nil))))))))), ?_⟩
  obtain ⟨n, hat, hn⟩ := lit_side (num ns 0)
  refine q_asg (v := .int n) (ev_op (ev_var rfl) (ev_op (ev_int (by walk_at "ev")) (ev_lenL (ev_var rfl) hb) (rv_mod (by decide))) (rv_lst hb hat)) fun H1 e1 => ?_
  have ha1 := e1 _ _ ha
  have hb1 := e1 _ _ hb
  refine q_when (b := decide (V.int (num ns 0 / 4 % 3) = V.int 1)) (et_is (et_and (a := true) (b := decide (V.int (num ns 0 / 4 % 3) = V.int 1)) (et_is (a := decide ((7 : Int) < 8)) (by walk_at "et") rfl) (fun _ => et_test (ev_op (ev_op (ev_int (ev_op (by walk_at "ev") (ev_lenL (ev_var rfl) hb1) (rv_fdiv (div_ok (by decide))))) ev_c (rv_mod (by decide))) ev_c (rv_eq rfl)))) rfl) (fun _ H2 e2 => ?_) (fun _ H2 e2 => ?_)
  · exact s_retP (evp_call (by walk_at "ea") (use_full (e2 _ _ ha1) hok (by decide) (by decide) (by decide) (by decide))) fun v H3 e3 r => k v H3 ((e1.trans e2).trans e3) r
  · obtain ⟨m, hm, hm0, hm8⟩ : ∃ m, atI [V.int 8, .int 5] (if decide (4 < n) = true then 1 else 0) = some (.int m) ∧ 0 ≤ m ∧ m ≤ 8 := by
      rcases hn with e | e | e <;> rw [e] <;> exact ⟨_, rfl, by decide, by decide⟩
    refine q_asg (v := .int m) (ev_ixLit (el_lst (by walk_at "ea") (Nat.le_of_ble_eq_true rfl)) (ev_intB (b := decide (4 < n)) (ev_op (ev_var rfl) ev_c rv_I0)) hm) fun H3 e3 => ?_
    have e13 := (e1.trans e2).trans e3
    refine s_retP (R := PartsV) (evp_tupP (eap_consV (ev_var rfl) fun H4 e4 => eap_cons (evp_call (by walk_at "ea") (use_stars ((e13.trans e4) _ _ ha) hok (by decide) hm0 hm8 (by omega) hn)) fun v5 H5 e5 ⟨q, zs, l, hv, hq, hL, hst⟩ => eap_cons (evp_call (by walk_at "ea") (use_camera ((e13.trans (e4.trans e5)) _ _ ha) hok (by decide) (by decide) hn)) fun v6 H6 e6 ⟨c, hc, cp, hv6, hcp⟩ => eap_of ea_nil fun H7 e7 => ⟨Nat.le_of_ble_eq_true rfl, fun p H8 e8 hp => ?_⟩)) fun v H4 e4 r => k v H4 (e13.trans e4) r
    subst hv hv6
    exact ⟨⟨n, l, c⟩, ⟨hn, hc, hst⟩, p, q, cp, zs, rfl, hp, ((e6.trans e7).trans e8) _ _ hq, hL.up st_T3 ((e6.trans e7).trans e8), (e7.trans e8) _ _ hcp⟩
theorem use_parts {a b : Addr} {ns : List Int} {H : Hp} (ha : H a = some (.lst (ns.map V.int))) (hok : NumOk ns) (hb : H b = some (.lst [.int 4, .int 5, .int 6, .int 5])) : SpP spParts [.ref a, .int 0, .ref b, .int 8] H PartsV := spg fun _ e => ⟨a, b, ns, rfl, e _ _ ha, hok, e _ _ hb, rfl⟩
def spMade (C : Addr) : Sp := SpG 1 fun vs H R => ∃ S v, vs = [v] ∧ PartsAt S v H ∧ SkGood S ∧ R = SkyAt C S
theorem el_revL {σ : St} {H : Hp} {te : TE} {a : Addr} {xs : List V} (h : Ev te σ H (.ref a)) (ha : H a = some (.lst xs)) : EvL (tRevL K te) σ H xs.reverse := fun H1 e Q q => h H1 e _ fun H2 e2 => ⟨a, xs, rfl, sq_of ((e.trans e2) _ _ ha), fun p hp => q p _ (fresh_back e2 hp) (e2.trans (Ex.new hp)) upd_same⟩
theorem Lst.rev {l : List Star} {xs : List V} {H : Hp} (h : Lst T3 l xs H) : Lst T3 l.reverse xs.reverse H := by
  refine ⟨by rw [List.length_reverse, List.length_reverse, h.1], fun i x hx => ?_⟩
  have hi : i < xs.length := by
    have := (List.getElem?_eq_some_iff.mp hx).1
    rwa [List.length_reverse] at this
  rw [List.getElem?_reverse hi] at hx
  rw [List.getElem?_reverse (by rw [← h.1]; exact hi), ← h.1]
  exact h.2 _ x hx
def MkArgs (S : Sk) (vs : List V) (H : Hp) : Prop := ∃ (a ca : Addr) (xs : List V) (l : List Star), vs = [.int S.n, .ref a, .ref ca] ∧ (H a = some (.lst xs) ∨ H a = some (.tup xs)) ∧ Lst T3 l xs H ∧ H ca = some (.tup [.int S.cam.r, .int S.cam.b, .int S.cam.g, .int S.cam.l]) ∧ l.Perm S.st
theorem evp_mkP {C : Addr} {σ : St} {H : Hp} {ta : TA} {S : Sk} (ha : EvAP ta σ H (MkArgs S)) (hg : SkGood S) : EvP (tMake C (spInit C) [] E0 ta) σ H (SkyAt C S) := fun H1 e Q q => ha H1 e _ fun vs H2 e2 ⟨a, ca, xs, l, hv, hs, hl, hc, hp⟩ => by
  subst hv
  exact evp_mk (ta := fun _ H Q => Q _ H) (σ := σ) (fun H1 _ Q q => q H1 (Ex.refl H1)) hs hl hc hg.side hg.cam hp hg.st H2 (Ex.refl H2) Q (fun v H3 e3 r => q v H3 (e2.trans e3) r)
abbrev s__law_made : Stmt := top 48
abbrev N__law_made : List PySem.Str := ["_law_parts_here"]
theorem sc__law_made : FnScope N__law_made ["_law_parts_here"] (defScope s__law_made) := ⟨rfl, rfl, rfl, by decide +kernel, rfl, by decide +kernel, by decide +kernel⟩
theorem ok__law_made {C : Addr} (MS : KnMk P w K mg base C "Sky" 2 ["self", "side", "stars", "camera"] (spInit C)) (D : Df K mg "_law_made" s__law_made) : Kn P w K mg base "_law_made" 4 ["_law_parts_here"] (spMade C) := by
  obtain ⟨f, fd, F, hm⟩ := D
  refine kn_mk F hm (F.binds (ps := ["_law_parts_here"]) fun _ _ _ _ _ _ us hl => match us, hl with | [_], _ => rfl) ?_
  refine F.ok sc__law_made (fun vs H Q E h => h.1) (fun cdv A outer s H vs Q E hr h => ?_)
  have hu := hu_of hr
  have nd := sc__law_made.nd
  obtain ⟨_, R, ⟨S, v, rfl, ⟨p, sa, ca, xs, rfl, hP⟩, hg, rfl⟩, k⟩ := h
  refine ⟨_, (pss_one (ps_ret (pe_mkSky MS hr (pa_cons (pe_ix ix_tup (pv 0) pe_int (fun _ _ => rfl)) (pa_cons (pe_revL (pe_ix ix_tup (pv 0) pe_int (fun _ _ => rfl))) (pa_cons (pe_ix ix_tup (pv 0) pe_int (fun _ _ => rfl)) pa_nil)))))), ?_⟩
  refine s_retP (evp_mkP (eap_consV (ev_op (ev_var rfl) ev_c (rv_tup hP.tp rfl)) fun H1 e1 => eap_cons (evp_L (el_revL (ev_op (ev_var rfl) ev_c (rv_tup (e1 _ _ hP.tp) rfl)) (e1 _ _ hP.st))) fun v2 H2 e2 ⟨b, hv, hb⟩ => eap_of (ea_cons (ev_op (ev_var rfl) ev_c (rv_tup ((e1.trans e2) _ _ hP.tp) rfl)) ea_nil) fun H3 e3 => ?_) hg) k
  subst hv
  have e13 := (e1.trans e2).trans e3
  exact ⟨b, ca, _, S.st.reverse, rfl, .inl (e3 _ _ hb), (hP.sts.rev).up st_T3 e13, e13 _ _ hP.cm, List.reverse_perm _⟩
theorem use_made {C : Addr} {S : Sk} {v : V} {H : Hp} (hP : PartsAt S v H) (hg : SkGood S) : SpP (spMade C) [v] H (SkyAt C S) := spg fun _ e => ⟨S, v, rfl, hP.up e, hg, rfl⟩
/-! ### attitudes -/
def AttV (n : Int) : PH := fun v H => ∃ a, AttOk n a ∧ T3 a v H
def spAtt : Sp := SpG 3 fun vs H R => ∃ (a : Addr) (ns : List Int) (i n : Int), vs = [.ref a, .int i, .int n] ∧ H a = some (.lst (ns.map V.int)) ∧ NumOk ns ∧ 0 ≤ i ∧ i ≤ 76 ∧ SideOk n ∧ R = AttV n
abbrev s__law_attitude : Stmt := top 49
abbrev N__law_attitude : List PySem.Str := ["_law_numbers_here", "_law_at", "_law_side"]
theorem sc__law_attitude : FnScope N__law_attitude ["_law_numbers_here", "_law_at", "_law_side"] (defScope s__law_attitude) := ⟨rfl, rfl, rfl, by decide +kernel, rfl, by decide +kernel, by decide +kernel⟩
theorem ok__law_attitude (B : Bl mg) (D : Df K mg "_law_attitude" s__law_attitude) : Kn P w K mg base "_law_attitude" 1 ["_law_numbers_here", "_law_at", "_law_side"] spAtt := by
  obtain ⟨f, fd, F, hm⟩ := D
  refine kn_mk F hm (F.binds (ps := ["_law_numbers_here", "_law_at", "_law_side"]) fun _ _ _ _ _ _ us hl => match us, hl with | [_, _, _], _ => rfl) ?_
  refine F.ok sc__law_attitude (fun vs H Q E h => h.1) (fun cdv A outer s H vs Q E hr h => ?_)
  have hu := hu_of hr
  have nd := sc__law_attitude.nd
  obtain ⟨_, R, ⟨a, ns, i, n, rfl, ha, hok, hi0, hi, hn, rfl⟩, k⟩ := h
  refine ⟨_, (pss_one (ps_ret (pe_tup (pa_cons (pe_op op_mod (pe_callTy call_int1 (by rfl) B.int (by decide +kernel) (pa_cons (pe_ix ix_list (pv 0) (pv 1) (fun _ _ => rfl)) pa_nil)) (pv 2)) (pa_cons (pe_op op_mod (pe_callTy call_int1 (by rfl) B.int (by decide +kernel) (pa_cons (pe_ix ix_list (pv 0) (pe_op op_add (pv 1) pe_int) (fun _ _ => rfl)) pa_nil)) (pv 2)) (pa_cons (pe_op op_mod (pe_callTy call_int1 (by rfl) B.int (by decide +kernel) (pa_cons (pe_ix ix_list (pv 0) (pe_op op_add (pv 1) pe_int) (fun _ _ => rfl)) pa_nil)) pe_int) pa_nil)))))), ?_⟩
  have hn4 : 4 ≤ n := by rcases hn with e | e | e <;> rw [e] <;> decide
  refine s_retU (eu_tup (ea_cons (ev_op (ev_int (by walk_at "ev")) (ev_var rfl) (rv_mod (by omega))) (ea_cons (ev_op (ev_int (by walk_at "ev")) (ev_var rfl) (rv_mod (by omega))) (ea_cons (ev_op (ev_int (by walk_at "ev")) ev_c (rv_mod (by decide))) ea_nil))) (Nat.le_of_ble_eq_true rfl)) fun p H1 hp e1 h1 => k _ H1 e1 ⟨(num ns i % n, num ns (i + 1) % n, num ns (i + 2) % 4), ?_, p, rfl, h1⟩
  have k1 := Int.emod_nonneg (num ns i) (show n ≠ 0 by omega)
  have k2 := Int.emod_lt_of_pos (num ns i) (show 0 < n by omega)
  have k3 := Int.emod_nonneg (num ns (i + 1)) (show n ≠ 0 by omega)
  have k4 := Int.emod_lt_of_pos (num ns (i + 1)) (show 0 < n by omega)
  have k5 : 0 ≤ num ns (i + 2) % 4 := by omega
  have k6 : num ns (i + 2) % 4 ≤ 3 := by omega
  exact ⟨k1, k2, k3, k4, k5, k6⟩
theorem use_att {a : Addr} {ns : List Int} {i n : Int} {H : Hp} (ha : H a = some (.lst (ns.map V.int))) (hok : NumOk ns) (h0 : 0 ≤ i) (h1 : i ≤ 76) (hn : SideOk n) : SpP spAtt [.ref a, .int i, .int n] H (AttV n) := spg fun _ e => ⟨a, ns, i, n, rfl, e _ _ ha, hok, h0, h1, hn, rfl⟩
def spBeside : Sp := SpG 4 fun vs H R => ∃ (a : Addr) (ns : List Int) (i n : Int) (b : Att) (v : V), vs = [.ref a, .int i, .int n, v] ∧ H a = some (.lst (ns.map V.int)) ∧ NumOk ns ∧ 0 ≤ i ∧ i ≤ 76 ∧ SideOk n ∧ T3 b v H ∧ AttOk n b ∧ R = AttV n
theorem lit_two {p : Int → Prop} {x y z : Int} (hx : p x) (hy : p y) : ∃ q, atI [V.int x, .int y] (z % 2) = some (.int q) ∧ p q := by
  have h : z % 2 = 0 ∨ z % 2 = 1 := by omega
  rcases h with h | h <;> rw [h]
  · exact ⟨_, rfl, hx⟩
  · exact ⟨_, rfl, hy⟩
abbrev s__law_beside : Stmt := top 50
abbrev N__law_beside : List PySem.Str := ["_law_numbers_here", "_law_at", "_law_side", "_law_one", "_law_other", "_law_quarter"]
theorem sc__law_beside : FnScope N__law_beside ["_law_numbers_here", "_law_at", "_law_side", "_law_one"] (defScope s__law_beside) := ⟨rfl, rfl, rfl, by decide +kernel, rfl, by decide +kernel, by decide +kernel⟩
theorem ok__law_beside (B : Bl mg) (G__law_attitude : Kn P w K mg base "_law_attitude" 1 ["_law_numbers_here", "_law_at", "_law_side"] spAtt) (D : Df K mg "_law_beside" s__law_beside) : Kn P w K mg base "_law_beside" 2 ["_law_numbers_here", "_law_at", "_law_side", "_law_one"] spBeside := by
  obtain ⟨f, fd, F, hm⟩ := D
  refine kn_mk F hm (F.binds (ps := ["_law_numbers_here", "_law_at", "_law_side", "_law_one"]) fun _ _ _ _ _ _ us hl => match us, hl with | [_, _, _, _], _ => rfl) ?_
  refine F.ok sc__law_beside (fun vs H Q E h => h.1) (fun cdv A outer s H vs Q E hr h => ?_)
  have hu := hu_of hr
  have nd := sc__law_beside.nd
  obtain ⟨_, R, ⟨a, ns, i, n, b, v, rfl, ha, hok, hi0, hi, hn, ⟨pb, rfl, hb⟩, hbt, rfl⟩, k⟩ := h
  refine ⟨_, (pss_cons (ps_set (i := 4) nd rfl (by first | exact Or.inl rfl | exact Or.inr rfl) (pe_own G__law_attitude hr (pa_cons (pv 0) (pa_cons (pv 1) (pa_cons (pv 2) pa_nil)))))
      (pss_cons (ps_if (pt_cmpR op_gt (pe_op op_mod (pe_callTy call_int1 (by rfl) B.int (by decide +kernel) (pa_cons (pe_ix ix_list (pv 0) (pe_op op_add (pv 1) pe_int) (fun _ _ => rfl)) pa_nil)) pe_int) pe_int (nomark _)) (pss_cons (ps_set (i := 5) nd rfl (by first | exact Or.inl rfl | exact Or.inr rfl) (pe_ix ix_list (pe_lst (pa_cons (pe_ix ix_tup (pv 3) pe_int (fun _ _ => rfl)) (pa_cons (pe_ix ix_tup (pv 4) pe_int (fun _ _ => rfl)) pa_nil))) (pe_op op_mod (pe_op op_fdiv (pe_callTy call_int1 (by rfl) B.int (by decide +kernel) (pa_cons (pe_ix ix_list (pv 0) (pe_op op_add (pv 1) pe_int) (fun _ _ => rfl)) pa_nil)) pe_int) pe_int) (fun _ _ => rfl)))
      (pss_one (ps_set (i := 4) nd rfl (by first | exact Or.inl rfl | exact Or.inr rfl) (pe_tup (pa_cons (pe_op op_mod (pe_callTy call_int1 (by rfl) B.int (by decide +kernel) (pa_cons (pe_op op_add (pe_ix ix_tup (pv 3) pe_int (fun _ _ => rfl)) (pe_op op_mod (pe_callTy call_int1 (by rfl) B.int (by decide +kernel) (pa_cons (pe_ix ix_list (pv 0) (pv 1) (fun _ _ => rfl)) pa_nil)) pe_int)) pa_nil)) (pv 2)) (pa_cons (pe_op op_mod (pe_callTy call_int1 (by rfl) B.int (by decide +kernel) (pa_cons (pe_op op_add (pe_ix ix_tup (pv 3) pe_int (fun _ _ => rfl)) (pe_op op_mod (pe_callTy call_int1 (by rfl) B.int (by decide +kernel) (pa_cons (pe_ix ix_list (pv 0) (pe_op op_add (pv 1) pe_int) (fun _ _ => rfl)) pa_nil)) pe_int)) pa_nil)) (pv 2)) (pa_cons (pv 5) pa_nil))))))) pss_nil)
      (pss_one (ps_ret (pv 4))))), ?_⟩
  have hn4 : 4 ≤ n := by rcases hn with e | e | e <;> rw [e] <;> decide
  refine q_asgP (evp_call (by walk_at "ea") (use_att ha hok hi0 hi hn)) fun u H1 e1 ⟨o, hot, po, hu, ho⟩ => ?_
  subst hu
  have ha1 := e1 _ _ ha
  have hb1 := e1 _ _ hb
  refine q_when (b := decide (0 < num ns (i + 3) % 3)) (et_test (ev_op (ev_op (ev_int (ev_num ha1 hok (ev_var rfl) (by walk_at "ev") (by omega) (by omega))) ev_c (rv_mod (by decide))) ev_c rv_I0)) (fun _ H2 e2 => ?_) (fun _ H2 e2 => ?_)
  · obtain ⟨q, hq, hq0, hq3⟩ := lit_two (p := fun q => 0 ≤ q ∧ q ≤ 3) (z := num ns (i + 3) / 3) ⟨hbt.2.2.2.2.1, hbt.2.2.2.2.2⟩ ⟨hot.2.2.2.2.1, hot.2.2.2.2.2⟩
    have ha2 := e2 _ _ ha1
    have hb2 := e2 _ _ hb1
    have ho2 := e2 _ _ ho
    refine q_asg (v := .int q) (ev_ixLit (el_lst (ea_cons (ev_op (ev_var rfl) ev_c (rv_tup hb2 rfl)) (ea_cons (ev_op (ev_var rfl) ev_c (rv_tup ho2 rfl)) ea_nil)) (Nat.le_of_ble_eq_true rfl)) (ev_op (ev_op (ev_int (ev_num ha2 hok (ev_var rfl) (by walk_at "ev") (by omega) (by omega))) ev_c (rv_fdiv (div_ok (by decide)))) ev_c (rv_mod (by decide))) hq) fun H3 e3 => ?_
    have ha3 := e3 _ _ ha2
    have hb3 := e3 _ _ hb2
    refine q_asgU (eu_tup (ea_cons (ev_op (ev_int (ev_op (ev_op (ev_var rfl) ev_c (rv_tup hb3 rfl)) (ev_op (ev_int (ev_num ha3 hok (ev_var rfl) (ev_var rfl) (by omega) (by omega))) ev_c (rv_mod (by decide))) rv_I0)) (ev_var rfl) (rv_mod (by omega))) (ea_cons (ev_op (ev_int (ev_op (ev_op (ev_var rfl) ev_c (rv_tup hb3 rfl)) (ev_op (ev_int (ev_num ha3 hok (ev_var rfl) (by walk_at "ev") (by omega) (by omega))) ev_c (rv_mod (by decide))) rv_I0)) (ev_var rfl) (rv_mod (by omega))) (ea_cons (ev_var rfl) ea_nil))) (Nat.le_of_ble_eq_true rfl)) fun p H4 hp e4 h4 => ?_
    refine s_ret (ev_var rfl) fun H5 e5 => k _ H5 ((((e1.trans e2).trans e3).trans e4).trans e5) ⟨(_, _, _), ?_, p, rfl, e5 _ _ h4⟩
    refine ⟨Int.emod_nonneg _ (by omega), Int.emod_lt_of_pos _ (by omega), Int.emod_nonneg _ (by omega), Int.emod_lt_of_pos _ (by omega), hq0, hq3⟩
  · exact s_ret (ev_var rfl) fun H5 e5 => k _ H5 ((e1.trans e2).trans e5) ⟨o, hot, po, rfl, (e2.trans e5) _ _ ho⟩
theorem use_beside {a : Addr} {ns : List Int} {i n : Int} {b : Att} {v : V} {H : Hp} (ha : H a = some (.lst (ns.map V.int))) (hok : NumOk ns) (h0 : 0 ≤ i) (h1 : i ≤ 76) (hn : SideOk n) (hb : T3 b v H) (hbt : AttOk n b) : SpP spBeside [.ref a, .int i, .int n, v] H (AttV n) := spg fun _ e => ⟨a, ns, i, n, b, v, rfl, e _ _ ha, hok, h0, h1, hn, hb.up e, hbt, rfl⟩
end
end K77
end

section
set_option maxRecDepth 100000
set_option maxHeartbeats 4000000
namespace K77
open PySem L2 Evl
local macro_rules | `(tactic| walk_at "at") => `(tactic| first | assumption | exact Ex.get (by assumption) (by assumption))
local macro_rules | `(tactic| walk_at "sk") => `(tactic| first | assumption | exact SkyA.up (by assumption) (by assumption))
local macro_rules | `(tactic| walk_at "rv") => `(tactic| first
  | with_reducible exact rv_I0
  | with_reducible exact rv_isN
  | with_reducible exact rv_notN
  | (with_reducible show RV (rI (fun _ j => 0 < j) fun i j => .int (i % j)) _ _ _ _; exact rv_mod (by first | assumption | omega))
  | (with_reducible show RV (rI CMul _) _ _ _ _; exact rv_mul (by first | exact mul_l (by omega) | exact mul_r (by omega)))
  | (with_reducible show RV (rI CDiv _) _ _ _ _; exact rv_fdiv (div_ok (by omega)))
  | (with_reducible show RV (rIxT _) _ _ _ _; exact rv_tup (by walk_at "at") rfl)
  | (with_reducible show RV rEq _ _ _ _; exact rv_eq rfl)
  | (with_reducible show RV rNe _ _ _ _; exact rv_ne rfl))
local macro_rules | `(tactic| walk_at "ev") => `(tactic| first
  | (with_reducible show Ev (tVar _) _ _ _; exact ev_var rfl)
  | (with_reducible show Ev (tC _) _ _ _; exact ev_c)
  | (with_reducible show Ev (tOp (rIxL _) _ _) _ _ _; exact ev_num (by walk_at "at") (by assumption) (by walk_at "ev") (by walk_at "ev") (by omega) (by omega))
  | (with_reducible show Ev (tOp _ _ _) _ _ _; exact ev_op (by walk_at "ev") (by walk_at "ev") (by walk_at "rv"))
  | (with_reducible show Ev (tProp _ _ _ _ _) _ _ _; exact ev_sky (by walk_at "ev") (by walk_at "sk"))
  | (with_reducible show Ev (tCB rAbs _) _ _ _; exact ev_abs (by walk_at "ev"))
  | (with_reducible show Ev (tCB rMax _) _ _ _; exact ev_max (by walk_at "ev") (by walk_at "ev"))
  | (with_reducible show Ev (tCB rMin _) _ _ _; exact ev_min (by walk_at "ev") (by walk_at "ev"))
  | (with_reducible show Ev (tCB rInt _) _ _ _; exact ev_int (by walk_at "ev"))
  | (with_reducible show Ev (tCB rInt _) _ _ _; exact ev_intB (by walk_at "ev"))
  | (with_reducible show Ev (tChain _ _ _ _ _) _ _ _; exact ev_chain (by walk_at "ev") (by walk_at "ev") (by walk_at "ev"))
  | (with_reducible show Ev (tAndV _ _) _ _ _; exact ev_andV (by walk_at "ev") (fun _ => by walk_at "ev"))
  | (with_reducible show Ev (tOrV _ _) _ _ _; exact ev_orV (by walk_at "ev") (fun _ => by walk_at "ev"))
  | (with_reducible show Ev (tCB (rLenQ _) _) _ _ _; exact ev_lenL (by walk_at "ev") (by walk_at "at"))
  | (with_reducible show Ev (tCB (rLenQ _) _) _ _ _; exact ev_lenT (by walk_at "ev") (by walk_at "at"))
  | (with_reducible show Ev (tUn _ _) _ _ _; exact ev_un (by walk_at "ev") ru_neg))
local macro_rules | `(tactic| walk_at "et") => `(tactic| first
  | (with_reducible show EvT (tTest _) _ _ _; exact et_test (by walk_at "ev"))
  | (with_reducible show EvT (tB _) _ _ _; exact et_B (by walk_at "ev"))
  | (with_reducible show EvT (tNot _) _ _ _; exact et_not (by walk_at "et"))
  | (with_reducible show EvT (tAnd _ _) _ _ _; exact et_and (by walk_at "et") (fun _ => by walk_at "et"))
  | (with_reducible show EvT (tOr _ _) _ _ _; exact et_or (by walk_at "et") (fun _ => by walk_at "et"))
  | exact et_tru (by walk_at "ev") (by walk_at "at"))
local macro_rules | `(tactic| walk_at "ea") => `(tactic| first
  | (with_reducible show EvA tNil _ _ _; exact ea_nil)
  | (with_reducible show EvA (tCons _ _) _ _ _; exact ea_cons (by walk_at "ev") (by walk_at "ea")))
section
variable {P : Program} {w : World} {K : PySem.W.Frag} {mg : PySem.Str → Option Value} {base : Heap}
theorem s_forZ2 {σ : St} {H : Hp} {D : Ends} {tu : TS} {ta : TA} {j : Nat} {lo n : Int} (h : EvA ta σ H [.int lo, .int n]) (hn : -100000 ≤ lo ∧ lo ≤ 100000 ∧ -100000 ≤ n ∧ n ≤ 100000) (Pv : Nat → St → Hp → Prop) (h0 : ∀ H1, Ex H H1 → Pv 0 σ H1)
    (hs : ∀ (i : Nat) σ' H', i < (n - lo).toNat → Pv i σ' H' → tu { D with nx := Pv (i + 1), ct := Pv (i + 1), bk := D.nx } (σ'.set j (some (.int (lo + (i : Int))))) H') (hd : ∀ σ' H', Pv (n - lo).toNat σ' H' → D.nx σ' H') : tFor (iRng2 ta) (gName j) tu D σ H :=
  h H (Ex.refl H) _ fun H1 e => ⟨lo, n, rfl, by omega, for_it walk_range Pv (h0 H1 e) (fun _ _ _ _ _ => trivial) (fun i x σ' H' H'' hi p ⟨h1, h2⟩ => by
    subst h1 h2
    exact hs i σ' _ hi p) hd⟩
theorem q_forZ2 {σ : St} {H : Hp} {D : Ends} {tu tz : TS} {ta : TA} {j : Nat} {lo n : Int} (h : EvA ta σ H [.int lo, .int n]) (hn : -100000 ≤ lo ∧ lo ≤ 100000 ∧ -100000 ≤ n ∧ n ≤ 100000) (Pv : Nat → St → Hp → Prop) (h0 : ∀ H1, Ex H H1 → Pv 0 σ H1)
    (hs : ∀ (i : Nat) σ' H', i < (n - lo).toNat → Pv i σ' H' → tu { D with nx := Pv (i + 1), ct := Pv (i + 1), bk := tz D } (σ'.set j (some (.int (lo + (i : Int))))) H') (hd : ∀ σ' H', Pv (n - lo).toNat σ' H' → tz D σ' H') : tSeq (tFor (iRng2 ta) (gName j) tu) tz D σ H :=
  s_forZ2 (D := { D with nx := tz D }) h hn Pv h0 hs hd
theorem s_dputV {σ : St} {H : Hp} {D : Ends} {td ty tv : TE} {a : Addr} {c : Nat} {kvs : List (Key × V)} {R : PH} (hv : EvP tv σ H R) (hR : Stb R) (hd : Ev td σ H (.ref a)) (hk : Ev ty σ H (nV c)) (h : H a = some (.dK kvs)) (hz : kvs.length < 100000) (k : ∀ v H1, Ex H H1 → R v H1 → D.nx σ (upd H1 a (.dK (putK kvs (kN c) v)))) : sDPut td ty tv D σ H :=
  hv H (Ex.refl H) _ fun v H1 e1 r => hd H1 e1 _ fun H2 e2 => hk H2 (e1.trans e2) _ fun H3 e3 => by
    have e' := (e1.trans e2).trans e3
    exact ⟨a, _, rfl, DPut.k (k := kN c) (e' _ _ h) (sz_lt hz), k v H3 e' (hR _ _ _ (e2.trans e3) r)⟩
/-! ### _law_turned -/
def spTurn3 : Sp := SpG 3 fun vs H R => ∃ (q x y : Int), vs = [.int q, .int x, .int y] ∧ 0 ≤ q ∧ q ≤ 3 ∧ R = T2 (turn q.toNat (x, y))
abbrev s__law_turned : Stmt := top 51
abbrev N__law_turned : List PySem.Str := ["_law_quarter", "_law_x", "_law_y", "_law_turn"]
theorem sc__law_turned : FnScope N__law_turned ["_law_quarter", "_law_x", "_law_y"] (defScope s__law_turned) := ⟨rfl, rfl, rfl, by decide +kernel, rfl, by decide +kernel, by decide +kernel⟩
theorem ok__law_turned (B : Bl mg) (D : Df K mg "_law_turned" s__law_turned) : Kn P w K mg base "_law_turned" 1 ["_law_quarter", "_law_x", "_law_y"] spTurn3 := by
  obtain ⟨f, fd, F, hm⟩ := D
  refine kn_mk F hm (F.binds (ps := ["_law_quarter", "_law_x", "_law_y"]) fun _ _ _ _ _ _ us hl => match us, hl with | [_, _, _], _ => rfl) ?_
  refine F.ok sc__law_turned (fun vs H Q E h => h.1) (fun cdv A outer s H vs Q E hr h => ?_)
  have hu := hu_of hr
  have nd := sc__law_turned.nd
  obtain ⟨_, R, ⟨q, x, y, rfl, hq0, hq3, rfl⟩, k⟩ := h
  refine ⟨_, (pss_cons (ps_for PassesOwn.never rfl (pi_range1 (by rfl) B.range (pa_cons (pv 0) pa_nil)) (pg_name (i := 3) nd rfl (by first | exact Or.inl rfl | exact Or.inr rfl))
      (pss_one (ps_par (i := 1) (j := 2) rfl nd rfl rfl (by decide) rfl rfl (pa_cons (pe_op op_sub pe_int (pv 2)) (pa_cons (pv 1) pa_nil)) (by rfl))))
      (pss_one (ps_ret (pe_tup (pa_cons (pv 1) (pa_cons (pv 2) pa_nil)))))), ?_⟩
  refine q_forR1 (by walk_at "ea") (by omega) (fun i σ' H' => (∃ u, σ' = [some (.int q), some (.int (turn i (x, y)).1), some (.int (turn i (x, y)).2), u]) ∧ Ex H H') (fun H2 e2 => ⟨⟨_, rfl⟩, e2⟩) ?_ ?_
  · rintro i σ' H' hi ⟨⟨u, rfl⟩, e2⟩
    refine s_par (by walk_at "ea") fun H2 e3 => ⟨⟨some (.int (i : Nat)), ?_⟩, e2.trans e3⟩
    rw [turn_succ]
    show _ = [some (V.int q), some (V.int (-(turn i (x, y)).2)), some (V.int (turn i (x, y)).1), _]
    rw [← Int.zero_sub]
    rfl
  · rintro σ' H' ⟨⟨u, rfl⟩, e2⟩
    exact s_retU (eu_tup (by walk_at "ea") (Nat.le_of_ble_eq_true rfl)) fun p2 H2 hp e3 h2 => k _ H2 (e2.trans e3) ⟨p2, rfl, h2⟩
theorem use_turn3 {q x y : Int} {H : Hp} (h0 : 0 ≤ q) (h3 : q ≤ 3) : SpP spTurn3 [.int q, .int x, .int y] H (T2 (turn q.toNat (x, y))) := spg fun _ _ => ⟨q, x, y, rfl, h0, h3, rfl⟩
/-! ### _law_offsets -/
/-- the dict holds the offsets of the numbers of F, and of no others below n -/
def OffI (S : Sk) (a : Att) (F : Nat → Prop) (kvs : List (Key × V)) (H : Hp) : Prop := ∀ m, m < S.st.length → (F m → ∃ x, valV kvs (kN m) = some x ∧ T2 (S.off a m) x H) ∧ (¬ F m → valV kvs (kN m) = none)
theorem OffI.tups {S : Sk} {a : Att} {F : Nat → Prop} {kvs : List (Key × V)} {H H' : Hp} (e : Tups H H') (h : OffI S a F kvs H) : OffI S a F kvs H' := fun m hm => ⟨fun f => let ⟨x, h1, h2⟩ := (h m hm).1 f; ⟨x, h1, im_T2 _ _ _ _ e h2⟩, (h m hm).2⟩
theorem OffI.ext {S : Sk} {a : Att} {F G : Nat → Prop} {kvs : List (Key × V)} {H : Hp} (e : ∀ m, m < S.st.length → (G m ↔ F m)) (h : OffI S a F kvs H) : OffI S a G kvs H := fun m hm => ⟨fun f => (h m hm).1 ((e m hm).mp f), fun f => (h m hm).2 fun g => f ((e m hm).mpr g)⟩
theorem OffI.put {S : Sk} {a : Att} {F : Nat → Prop} {kvs : List (Key × V)} {H : Hp} {c : Nat} {v : V} (h : OffI S a F kvs H) (hv : T2 (S.off a c) v H) : OffI S a (fun m => F m ∨ m = c) (putK kvs (kN c) v) H := fun m hm => by
  rw [valV_put]
  by_cases e : m = c
  · rw [if_pos (by rw [e]), e]
    exact ⟨fun _ => ⟨v, rfl, hv⟩, fun f => absurd (.inr rfl) f⟩
  · rw [if_neg (fun z => e (kN_inj.mp z))]
    exact ⟨fun f => (h m hm).1 (f.resolve_right e), fun f => (h m hm).2 fun g => f (.inl g)⟩
def OffD (S : Sk) (a : Att) (F : Nat → Prop) : PH := fun v H => ∃ D kvs, v = .ref D ∧ H D = some (.dK kvs) ∧ OffI S a F kvs H
def spOffs : Sp := SpG 2 fun vs H R => ∃ S a v1 v2, vs = [v1, v2] ∧ PartsAt S v1 H ∧ T3 a v2 H ∧ SkGood S ∧ AttOk S.n a ∧ R = OffD S a (S.inReach a)
def pairD (p : Int × Int) : PyData := .tuple [.int p.1, .int p.2]
theorem pairD_eqv (a b : Int × Int) : PyData.eqv (pairD a) (pairD b) = decide (a = b) := by
  obtain ⟨a1, a2⟩ := a
  obtain ⟨b1, b2⟩ := b
  simp only [pairD, PyData.eqv, PyData.eqvAll, Bool.and_true]
  rw [Bool.eq_iff_iff]
  simp
theorem pairD_shaped (p : Int × Int) : SeqAt.shaped (pairD p) = true := by
  simp [SeqAt.shaped, pairD, PyData.canLay0, PyData.canLayAll0, PyData.depth, PyData.depthAll]
theorem dp_pair {d : Int × Int} {x : V} {H : Hp} (h : T2 d x H) : Dp K H x (pairD d) := by
  obtain ⟨p, rfl, hp⟩ := h
  exact .tup (st_of hp) (.cons (.int _) (.cons (.int _) .nil))
/-- t[:2] == q -/
theorem ev_cut2 {σ : St} {H : Hp} {ta tb : TE} {p : Addr} {s : Star} {q : Addr} {d : Int × Int} (ha : Ev ta σ H (.ref p)) (hp : H p = some (.tup [.int s.1, .int s.2.1, .int s.2.2])) (hb : Ev tb σ H (.ref q)) (hq : H q = some (.tup [.int d.1, .int d.2])) :
    Ev (tOp (rEqD K) (tSl (rSlT K) ta tNoPart (tPart (tC (.int 2)))) tb) σ H (.bl (decide ((s.1, s.2.1) = d))) := fun H1 e Q k => by
  refine ha H1 e _ fun H2 e2 => ?_
  refine eo_none (σ := σ) H2 (Ex.refl H2) _ fun H3 e3 => eo_some (σ := σ) (i := 2) ev_c H3 (Ex.refl H3) _ fun H4 e4 => ?_
  have e24 := (e2.trans e3).trans e4
  refine ⟨p, _, rfl, st_of ((e.trans e24) _ _ hp), (by show ¬ (0 = 0 ∧ 2 = 3); decide), fun t ht => ?_⟩
  have e5 : Ex H4 (upd H4 t (.tup (cutV [.int s.1, .int s.2.1, .int s.2.2] none (some 2)))) := Ex.new ht
  refine hb _ ((e.trans e24).trans e5) _ fun H6 e6 => ?_
  have e16 := (e24.trans e5).trans e6
  refine ⟨pairD (s.1, s.2.1), pairD d, dp_pair ⟨t, rfl, e6 _ _ upd_same⟩, dp_pair ⟨q, rfl, (e.trans e16) _ _ hq⟩, pairD_shaped _, pairD_shaped _, ?_⟩
  rw [pairD_eqv]
  exact k H6 e16
abbrev s__law_offsets : Stmt := top 52
abbrev N__law_offsets : List PySem.Str := ["_law_parts_here", "_law_attitude_here", "_law_side", "_law_stars_here", "_law_camera_here", "_law_room", "_law_found", "_law_dx", "_law_dy", "_law_x", "_law_y", "_law_here", "_law_number"]
theorem sc__law_offsets : FnScope N__law_offsets ["_law_parts_here", "_law_attitude_here"] (defScope s__law_offsets) := ⟨rfl, rfl, rfl, by decide +kernel, rfl, by decide +kernel, by decide +kernel⟩
theorem ok__law_offsets (B : Bl mg) (G__law_turned : Kn P w K mg base "_law_turned" 1 ["_law_quarter", "_law_x", "_law_y"] spTurn3) (D : Df K mg "_law_offsets" s__law_offsets) : Kn P w K mg base "_law_offsets" 2 ["_law_parts_here", "_law_attitude_here"] spOffs := by
  obtain ⟨f, fd, F, hm⟩ := D
  refine kn_mk F hm (F.binds (ps := ["_law_parts_here", "_law_attitude_here"]) fun _ _ _ _ _ _ us hl => match us, hl with | [_, _], _ => rfl) ?_
  refine F.ok sc__law_offsets (fun vs H Q E h => h.1) (fun cdv A outer s H vs Q E hr h => ?_)
  have hu := hu_of hr
  have nd := sc__law_offsets.nd
  obtain ⟨_, R, ⟨S, a, v1, v2, rfl, ⟨p, sa, ca, xs, rfl, hP⟩, ⟨pa, rfl, ha⟩, hg, hat, rfl⟩, k⟩ := h
  refine ⟨_, (pss_cons (ps_asg (pv 0) (pg_tup rfl (pgs_cons (pg_name (i := 2) nd rfl (by first | exact Or.inl rfl | exact Or.inr rfl)) (pgs_cons (pg_name (i := 3) nd rfl (by first | exact Or.inl rfl | exact Or.inr rfl)) (pgs_cons (pg_name (i := 4) nd rfl (by first | exact Or.inl rfl | exact Or.inr rfl)) pgs_nil)))))
      (pss_cons (ps_set (i := 5) nd rfl (by first | exact Or.inl rfl | exact Or.inr rfl) (pe_op op_add (pe_ix ix_tup (pv 4) pe_int (fun _ _ => rfl)) (pe_ix ix_tup (pv 4) pe_int (fun _ _ => rfl))))
      (pss_cons (ps_set (i := 6) nd rfl (by first | exact Or.inl rfl | exact Or.inr rfl) pe_dnewK)
      (pss_cons (ps_for PassesOwn.never rfl (pi_range2 (by rfl) B.range (pa_cons (pe_op op_sub pe_int (pv 5)) (pa_cons (pe_op op_add (pv 5) pe_int) pa_nil))) (pg_name (i := 7) nd rfl (by first | exact Or.inl rfl | exact Or.inr rfl))
      (pss_one (ps_for PassesOwn.never rfl (pi_range2 (by rfl) B.range (pa_cons (pe_op op_sub pe_int (pv 5)) (pa_cons (pe_op op_add (pv 5) pe_int) pa_nil))) (pg_name (i := 8) nd rfl (by first | exact Or.inl rfl | exact Or.inr rfl))
      (pss_cons (ps_asg (pe_own G__law_turned hr (pa_cons (pe_ix ix_tup (pv 1) pe_int (fun _ _ => rfl)) (pa_cons (pv 7) (pa_cons (pv 8) pa_nil)))) (pg_tup rfl (pgs_cons (pg_name (i := 9) nd rfl (by first | exact Or.inl rfl | exact Or.inr rfl)) (pgs_cons (pg_name (i := 10) nd rfl (by first | exact Or.inl rfl | exact Or.inr rfl)) pgs_nil))))
      (pss_cons (ps_set (i := 11) nd rfl (by first | exact Or.inl rfl | exact Or.inr rfl) (pe_tup (pa_cons (pe_op op_mod (pe_callTy call_int1 (by rfl) B.int (by decide +kernel) (pa_cons (pe_op op_add (pe_ix ix_tup (pv 1) pe_int (fun _ _ => rfl)) (pv 9)) pa_nil)) (pv 2)) (pa_cons (pe_op op_mod (pe_callTy call_int1 (by rfl) B.int (by decide +kernel) (pa_cons (pe_op op_add (pe_ix ix_tup (pv 1) pe_int (fun _ _ => rfl)) (pv 10)) pa_nil)) (pv 2)) pa_nil))))
      (pss_one (ps_for PassesOwn.never rfl (pi_range1 (by rfl) B.range (pa_cons (pe_callB call_len_seq (by rfl) B.len (by decide +kernel) (pa_cons (pv 3) pa_nil)) pa_nil)) (pg_name (i := 12) nd rfl (by first | exact Or.inl rfl | exact Or.inr rfl))
      (pss_one (ps_if (pt_cmpR (op_eqD hr.units) (pe_slice sl_tup (pe_ix ix_list (pv 3) (pv 12) (fun _ _ => rfl)) po_none (po_some pe_int)) (pv 11) (nomark _)) (pss_one (ps_dput hu (pv 6) (pv 12) (pe_tup (pa_cons (pv 7) (pa_cons (pv 8) pa_nil))) rfl)) pss_nil)))))))))
      (pss_one (ps_ret (pv 6))))))), ?_⟩
  obtain ⟨c1, c2, c3, c4, c5, c6, c7, c8, c9, c10⟩ := hg.cam
  have hn6 : 4 ≤ S.n ∧ S.n ≤ 6 := by rcases hg.side with e | e | e <;> rw [e] <;> decide
  have hlen := hg.st.few
  have hxl : xs.length = S.st.length := hP.sts.1
  refine q_unp3 (ev_var rfl) hP.tp fun H1 e1 => ?_
  have hP1 := hP.up e1
  refine q_asg (ev_op (ev_op (ev_var rfl) ev_c (rv_tup hP1.cm rfl)) (ev_op (ev_var rfl) ev_c (rv_tup hP1.cm rfl)) rv_I0) fun H2 e2 => ?_
  generalize hroom : S.cam.r + S.cam.b = room at *
  refine q_dnew fun D hD => ?_
  have e12 := e1.trans e2
  have hD0 : H D = none := fresh_back e12 hD
  have e3 : Ex H2 (upd H2 D (.dK [])) := Ex.new hD
  have cnt : (room + 1 - (0 - room)).toNat ≤ 6 := by omega
  refine q_forZ2 (by walk_at "ea") (by omega) (fun i σ' H' => (∃ u7 u8 u9 u10 u11 u12, σ' = [some (.ref p), some (.ref pa), some (.int S.n), some (.ref sa), some (.ref ca), some (.int room), some (.ref D), u7, u8, u9, u10, u11, u12]) ∧ Ex H H' ∧ ∃ kvs, H' D = some (.dK kvs) ∧ OffI S a (fun m => S.inReach a m ∧ (S.off a m).1 < 0 - room + (i : Int)) kvs H' ∧ kvs.length ≤ 120 * i) (fun H4 e4 => ⟨⟨_, _, _, _, _, _, rfl⟩, (e12.trans e3).trans e4, [], e4 _ _ upd_same, fun m hm => ⟨fun ⟨f1, f2⟩ => ?_, fun _ => rfl⟩, Nat.le_refl _⟩) ?_ ?_
  · exfalso
    unfold Sk.inReach at f1
    rw [far_le] at f1
    omega
  · rintro i σ' H' hi ⟨⟨u7, u8, u9, u10, u11, u12, rfl⟩, e4, kvs, hk, hO, hkl⟩
    generalize hdx : 0 - room + (i : Int) = dx at *
    refine s_forZ2 (by walk_at "ea") (by omega) (fun j σ' H' => (∃ u8 u9 u10 u11 u12, σ' = [some (.ref p), some (.ref pa), some (.int S.n), some (.ref sa), some (.ref ca), some (.int room), some (.ref D), some (.int dx), u8, u9, u10, u11, u12]) ∧ Ex H H' ∧ ∃ kvs, H' D = some (.dK kvs) ∧ OffI S a (fun m => S.inReach a m ∧ ((S.off a m).1 < dx ∨ (S.off a m).1 = dx ∧ (S.off a m).2 < 0 - room + (j : Int))) kvs H' ∧ kvs.length ≤ 120 * i + 20 * j) (fun H5 e5 => ⟨⟨_, _, _, _, _, rfl⟩, e4.trans e5, kvs, e5 _ _ hk, (hO.tups (.of e5)).ext fun m hm => ?_, by omega⟩) ?_ ?_
    · refine ⟨fun ⟨f1, f2⟩ => ⟨f1, ?_⟩, fun ⟨f1, f2⟩ => ⟨f1, .inl f2⟩⟩
      unfold Sk.inReach at f1
      rw [far_le] at f1
      omega
    · rintro j σ' H' hj ⟨⟨u8, u9, u10, u11, u12, rfl⟩, e4, kvs, hk, hO, hkl⟩
      generalize hdy : 0 - room + (j : Int) = dy at *
      have ha4 := e4 _ _ ha
      refine cpsP (σ := _) (evp_call (ea_cons (ev_op (ev_var rfl) ev_c (rv_tup ha4 rfl)) (ea_cons (ev_var rfl) (ea_cons (ev_var rfl) ea_nil))) (use_turn3 (q := a.2.2) (x := dx) (y := dy) hat.2.2.2.2.1 hat.2.2.2.2.2)) fun v5 H5 e5 ⟨q, hv, hq⟩ => ?_
      subst hv
      refine g_tup2 hq ?_
      have ha5 := e5 _ _ ha4
      refine q_asgU (eu_tup (ea_cons (ev_op (ev_int (ev_op (ev_op (ev_var rfl) ev_c (rv_tup ha5 rfl)) (ev_var rfl) rv_I0)) (ev_var rfl) (rv_mod (by omega))) (ea_cons (ev_op (ev_int (ev_op (ev_op (ev_var rfl) ev_c (rv_tup ha5 rfl)) (ev_var rfl) rv_I0)) (ev_var rfl) (rv_mod (by omega))) ea_nil)) (Nat.le_of_ble_eq_true rfl)) fun qh H6 hqh0 e6 hqh => ?_
      have e46 := (e4.trans e5).trans e6
      have hP6 := hP.up e46
      refine s_forR1 (ea_cons (ev_lenL (ev_var rfl) hP6.st) ea_nil) (by omega) (fun m σ' H' => (∃ u12, σ' = [some (.ref p), some (.ref pa), some (.int S.n), some (.ref sa), some (.ref ca), some (.int room), some (.ref D), some (.int dx), some (.int dy), some (.int (turn a.2.2.toNat (dx, dy)).1), some (.int (turn a.2.2.toNat (dx, dy)).2), some (.ref qh), u12]) ∧ Ex H H' ∧ H' qh = some (.tup [.int ((a.1 + (turn a.2.2.toNat (dx, dy)).1) % S.n), .int ((a.2.1 + (turn a.2.2.toNat (dx, dy)).2) % S.n)]) ∧
        ∃ kvs, H' D = some (.dK kvs) ∧ OffI S a (fun l => S.inReach a l ∧ ((S.off a l).1 < dx ∨ (S.off a l).1 = dx ∧ (S.off a l).2 < dy ∨ S.off a l = (dx, dy) ∧ l < m)) kvs H' ∧ kvs.length ≤ 120 * i + 20 * j + m) (fun H7 e7 => ⟨⟨_, rfl⟩, e46.trans e7, e7 _ _ hqh, kvs, ((e5.trans e6).trans e7) _ _ hk, (hO.tups (.of ((e5.trans e6).trans e7))).ext fun m hm => ?_, by omega⟩) ?_ ?_
      · refine ⟨fun ⟨f1, f2⟩ => ⟨f1, by rcases f2 with z | z | z <;> omega⟩, fun ⟨f1, f2⟩ => ⟨f1, by rcases f2 with z | z <;> omega⟩⟩
      · rintro m σ' H7 hm ⟨⟨u12, rfl⟩, e7, hqh7, kvs, hk7, hO7, hkl7⟩
        have hm' : m < S.st.length := by
          have : ((xs.length : Int)).toNat = xs.length := rfl
          omega
        have hst : S.st[m]? = some (S.starAt m) := by
          unfold Sk.starAt
          rw [List.getElem?_eq_getElem hm', List.getD_eq_getElem?_getD, List.getElem?_eq_getElem hm']
          rfl
        obtain ⟨y, hy, ps, rfl, hps⟩ := hP.sts.at hst
        have hg2 := geo (room := room) hg.side (by omega) hat (d := (dx, dy)) (s := S.starAt m) (by
          obtain ⟨k1, k2, k3, k4, _⟩ := hg.st.ok _ (List.mem_of_getElem? hst)
          exact ⟨k1, k2, k3, k4⟩) (by refine ⟨?_, ?_, ?_, ?_⟩ <;> simp only [] <;> omega)
        have hiff : ((S.starAt m).1, (S.starAt m).2.1) = ((a.1 + (turn a.2.2.toNat (dx, dy)).1) % S.n, (a.2.1 + (turn a.2.2.toNat (dx, dy)).2) % S.n) ↔ S.inReach a m ∧ S.off a m = (dx, dy) := by
          have e9 : S.inReach a m ↔ far (near2 S.n a (S.starAt m)) ≤ room := by
            unfold Sk.inReach Sk.off
            rw [far_offs, hroom]
          rw [Prod.mk.injEq, e9]
          refine Iff.trans ⟨fun ⟨k1, k2⟩ => ⟨k1.symm, k2.symm⟩, fun ⟨k1, k2⟩ => ⟨k1.symm, k2.symm⟩⟩ hg2
        refine s_if (b := decide (((S.starAt m).1, (S.starAt m).2.1) = ((a.1 + (turn a.2.2.toNat (dx, dy)).1) % S.n, (a.2.1 + (turn a.2.2.toNat (dx, dy)).2) % S.n))) (et_test (ev_cut2 (ev_op (ev_var rfl) (ev_var rfl) (rv_lst (e7 _ _ hP.st) (atI_nth hy))) (e7 _ _ hps) (ev_var rfl) hqh7)) (fun hb H8 e8 => ?_) (fun hb H8 e8 => ?_)
        · have hb' := hiff.mp (of_decide_eq_true hb)
          refine s_dputV (R := T2 (S.off a m)) (K77.EvP.imp (evp_U (xs := [V.int dx, V.int dy]) (eu_tup (by walk_at "ea") (Nat.le_of_ble_eq_true rfl))) fun v H9 e9 ⟨t, h1, h2⟩ => ⟨t, h1, by rw [hb'.2]; exact h2⟩) (st_T2 _) (ev_var rfl) (ev_var rfl) (e8 _ _ hk7) (by omega) fun v H9 e9 r => ?_
          have hD9 := (e8.trans e9) _ _ hk7
          have tz : Tups H9 (upd H9 D (.dK (putK kvs (kN m) v))) := Tups.dk hD9
          refine ⟨⟨_, rfl⟩, Ex.mut ((e7.trans e8).trans e9) hD0, tz _ _ ((e8.trans e9) _ _ hqh7), _, upd_same, (((hO7.tups (.of (e8.trans e9))).put r).tups tz).ext fun l hl => ?_, Nat.le_trans (length_putK kvs (kN m) v) (by omega)⟩
          constructor
          · rintro ⟨f1, f2⟩
            rcases f2 with z | z | ⟨z1, z2⟩
            · exact .inl ⟨f1, .inl z⟩
            · exact .inl ⟨f1, .inr (.inl z)⟩
            · by_cases c : l = m
              · exact .inr c
              · exact .inl ⟨f1, .inr (.inr ⟨z1, by omega⟩)⟩
          · rintro (⟨f1, f2⟩ | rfl)
            · refine ⟨f1, ?_⟩
              rcases f2 with z | z | ⟨z1, z2⟩
              · exact .inl z
              · exact .inr (.inl z)
              · exact .inr (.inr ⟨z1, by omega⟩)
            · exact ⟨hb'.1, .inr (.inr ⟨hb'.2, by omega⟩)⟩
        · have hb' := fun z => of_decide_eq_false hb (hiff.mpr z)
          refine ⟨⟨_, rfl⟩, e7.trans e8, e8 _ _ hqh7, kvs, e8 _ _ hk7, (hO7.tups (.of e8)).ext fun l hl => ?_, by omega⟩
          constructor
          · rintro ⟨f1, f2⟩
            refine ⟨f1, ?_⟩
            rcases f2 with z | z | ⟨z1, z2⟩
            · exact .inl z
            · exact .inr (.inl z)
            · by_cases c : l = m
              · rw [c] at f1 z1
                exact absurd ⟨f1, z1⟩ hb'
              · exact .inr (.inr ⟨z1, by omega⟩)
          · rintro ⟨f1, f2⟩
            refine ⟨f1, ?_⟩
            rcases f2 with z | z | ⟨z1, z2⟩
            · exact .inl z
            · exact .inr (.inl z)
            · exact .inr (.inr ⟨z1, by omega⟩)
      · rintro σ' H7 ⟨⟨u12, rfl⟩, e7, hqh7, kvs, hk7, hO7, hkl7⟩
        have ex : ((xs.length : Int)).toNat = S.st.length := hxl
        rw [ex] at hO7 hkl7
        refine ⟨⟨_, _, _, _, _, rfl⟩, e7, kvs, hk7, hO7.ext fun l hl => ?_, by omega⟩
        have e9 : S.off a l = (dx, dy) ↔ (S.off a l).1 = dx ∧ (S.off a l).2 = dy := Prod.ext_iff
        rw [e9]
        refine and_congr_right fun _ => ?_
        push_cast
        constructor
        · intro z
          omega
        · intro z
          omega
    · rintro σ' H' ⟨⟨u8, u9, u10, u11, u12, rfl⟩, e4, kvs, hk, hO, hkl⟩
      refine ⟨⟨_, _, _, _, _, _, rfl⟩, e4, kvs, hk, hO.ext fun l hl => ?_, by omega⟩
      refine and_congr_right fun f1 => ?_
      unfold Sk.inReach at f1
      rw [far_le] at f1
      push_cast
      constructor
      · intro z
        omega
      · intro z
        omega
  · rintro σ' H' ⟨⟨u7, u8, u9, u10, u11, u12, rfl⟩, e4, kvs, hk, hO, hkl⟩
    refine s_ret (ev_var rfl) fun H5 e5 => k _ H5 (e4.trans e5) ⟨D, kvs, rfl, e5 _ _ hk, (hO.tups (.of e5)).ext fun l hl => ?_⟩
    refine ⟨fun f1 => ⟨f1, ?_⟩, fun f1 => f1.1⟩
    unfold Sk.inReach at f1
    rw [far_le] at f1
    omega
theorem use_offs {S : Sk} {a : Att} {v1 v2 : V} {H : Hp} (hP : PartsAt S v1 H) (ha : T3 a v2 H) (hg : SkGood S) (hat : AttOk S.n a) : SpP spOffs [v1, v2] H (OffD S a (S.inReach a)) := spg fun _ e => ⟨S, a, v1, v2, rfl, hP.up e, ha.up e, hg, hat, rfl⟩
end
end K77
end

section
set_option maxRecDepth 100000
set_option maxHeartbeats 4000000
namespace K77
open PySem L2 Evl
local macro_rules | `(tactic| walk_at "at") => `(tactic| first | assumption | exact Ex.get (by assumption) (by assumption))
local macro_rules | `(tactic| walk_at "sk") => `(tactic| first | assumption | exact SkyA.up (by assumption) (by assumption))
local macro_rules | `(tactic| walk_at "rv") => `(tactic| first
  | with_reducible exact rv_I0
  | with_reducible exact rv_isN
  | with_reducible exact rv_notN
  | (with_reducible show RV (rI (fun _ j => 0 < j) fun i j => .int (i % j)) _ _ _ _; exact rv_mod (by first | assumption | omega))
  | (with_reducible show RV (rI CMul _) _ _ _ _; exact rv_mul (by first | exact mul_l (by omega) | exact mul_r (by omega)))
  | (with_reducible show RV (rI CDiv _) _ _ _ _; exact rv_fdiv (div_ok (by omega)))
  | (with_reducible show RV (rIxT _) _ _ _ _; exact rv_tup (by walk_at "at") rfl)
  | (with_reducible show RV rEq _ _ _ _; exact rv_eq rfl)
  | (with_reducible show RV rNe _ _ _ _; exact rv_ne rfl))
local macro_rules | `(tactic| walk_at "ev") => `(tactic| first
  | (with_reducible show Ev (tVar _) _ _ _; exact ev_var rfl)
  | (with_reducible show Ev (tC _) _ _ _; exact ev_c)
  | (with_reducible show Ev (tOp (rIxL _) _ _) _ _ _; exact ev_num (by walk_at "at") (by assumption) (by walk_at "ev") (by walk_at "ev") (by omega) (by omega))
  | (with_reducible show Ev (tOp _ _ _) _ _ _; exact ev_op (by walk_at "ev") (by walk_at "ev") (by walk_at "rv"))
  | (with_reducible show Ev (tProp _ _ _ _ _) _ _ _; exact ev_sky (by walk_at "ev") (by walk_at "sk"))
  | (with_reducible show Ev (tCB rAbs _) _ _ _; exact ev_abs (by walk_at "ev"))
  | (with_reducible show Ev (tCB rMax _) _ _ _; exact ev_max (by walk_at "ev") (by walk_at "ev"))
  | (with_reducible show Ev (tCB rMin _) _ _ _; exact ev_min (by walk_at "ev") (by walk_at "ev"))
  | (with_reducible show Ev (tCB rInt _) _ _ _; exact ev_int (by walk_at "ev"))
  | (with_reducible show Ev (tCB rInt _) _ _ _; exact ev_intB (by walk_at "ev"))
  | (with_reducible show Ev (tChain _ _ _ _ _) _ _ _; exact ev_chain (by walk_at "ev") (by walk_at "ev") (by walk_at "ev"))
  | (with_reducible show Ev (tAndV _ _) _ _ _; exact ev_andV (by walk_at "ev") (fun _ => by walk_at "ev"))
  | (with_reducible show Ev (tOrV _ _) _ _ _; exact ev_orV (by walk_at "ev") (fun _ => by walk_at "ev"))
  | (with_reducible show Ev (tCB (rLenQ _) _) _ _ _; exact ev_lenL (by walk_at "ev") (by walk_at "at"))
  | (with_reducible show Ev (tCB (rLenQ _) _) _ _ _; exact ev_lenT (by walk_at "ev") (by walk_at "at"))
  | (with_reducible show Ev (tUn _ _) _ _ _; exact ev_un (by walk_at "ev") ru_neg))
local macro_rules | `(tactic| walk_at "et") => `(tactic| first
  | (with_reducible show EvT (tTest _) _ _ _; exact et_test (by walk_at "ev"))
  | (with_reducible show EvT (tB _) _ _ _; exact et_B (by walk_at "ev"))
  | (with_reducible show EvT (tNot _) _ _ _; exact et_not (by walk_at "et"))
  | (with_reducible show EvT (tAnd _ _) _ _ _; exact et_and (by walk_at "et") (fun _ => by walk_at "et"))
  | (with_reducible show EvT (tOr _ _) _ _ _; exact et_or (by walk_at "et") (fun _ => by walk_at "et"))
  | exact et_tru (by walk_at "ev") (by walk_at "at"))
local macro_rules | `(tactic| walk_at "ea") => `(tactic| first
  | (with_reducible show EvA tNil _ _ _; exact ea_nil)
  | (with_reducible show EvA (tCons _ _) _ _ _; exact ea_cons (by walk_at "ev") (by walk_at "ea")))
section
variable {P : Program} {w : World} {K : PySem.W.Frag} {mg : PySem.Str → Option Value} {base : Heap}
theorem et_dinK {σ : St} {H : Hp} {td ty : TE} {a : Addr} {c : Nat} {kvs : List (Key × V)} (hk : Ev ty σ H (nV c)) (hd : Ev td σ H (.ref a)) (h : H a = some (.dK kvs)) : EvT (tB (tDIn ty td)) σ H (valV kvs (kN c)).isSome := fun H1 e Q q =>
  hk H1 e _ fun H2 e2 => hd H2 (e.trans e2) _ fun H3 e3 => ⟨a, valV kvs (kN c), rfl, DGet.k (k := kN c) (((e.trans e2).trans e3) _ _ h), (valV kvs (kN c)).isSome, rfl, q H3 (e2.trans e3)⟩
theorem ev_dgetK {σ : St} {H : Hp} {td ty : TE} {a : Addr} {c : Nat} {kvs : List (Key × V)} {v : V} (hd : Ev td σ H (.ref a)) (hk : Ev ty σ H (nV c)) (h : H a = some (.dK kvs)) (hl : valV kvs (kN c) = some v) : Ev (tDGet td ty) σ H v := fun H1 e Q q =>
  hd H1 e _ fun H2 e2 => hk H2 (e.trans e2) _ fun H3 e3 => by
    refine ⟨a, v, rfl, ?_, q H3 (e2.trans e3)⟩
    have g : DGet H3 a (kV (kN c)) (valV kvs (kN c)) := DGet.k (k := kN c) (((e.trans e2).trans e3) _ _ h)
    rw [hl] at g
    exact g
theorem OffI.is {S : Sk} {a : Att} {F : Nat → Prop} [DecidablePred F] {kvs : List (Key × V)} {H : Hp} {m : Nat} (h : OffI S a F kvs H) (hm : m < S.st.length) : (valV kvs (kN m)).isSome = decide (F m) := by
  by_cases c : F m
  · obtain ⟨x, h1, _⟩ := (h m hm).1 c
    rw [h1, decide_eq_true c]
    rfl
  · rw [(h m hm).2 c, decide_eq_false c]
    rfl
theorem Sk.star_at {S : Sk} {m : Nat} (h : m < S.st.length) : S.st[m]? = some (S.starAt m) := by
  unfold starAt
  rw [List.getElem?_eq_getElem h, List.getD_eq_getElem?_getD, List.getElem?_eq_getElem h]
  rfl
/-- parts[1][m][2] -/
theorem ev_bright {σ : St} {H : Hp} {S : Sk} {p sa ca : Addr} {xs : List V} {m : Nat} {ta tb : TE} (hP : PartsA S p sa ca xs H) (hm : m < S.st.length) (ha : Ev ta σ H (.ref p)) (hb : Ev tb σ H (nV m)) : Ev (tOp (rIxT K) (tOp (rIxL K) (tOp (rIxT K) ta (tC (.int 1))) tb) (tC (.int 2))) σ H (.int (S.starAt m).2.2) := by
  obtain ⟨y, hy, ps, rfl, hps⟩ := hP.sts.at (S.star_at hm)
  exact ev_op (ev_op (ev_op ha ev_c (rv_tup hP.tp rfl)) hb (rv_lst hP.st (atI_nth hy))) ev_c (rv_tup hps rfl)
/-- parts[2][i] -/
theorem ev_cam {σ : St} {H : Hp} {S : Sk} {p sa ca : Addr} {xs : List V} {ta : TE} {i : Int} {v : V} (hP : PartsA S p sa ca xs H) (ha : Ev ta σ H (.ref p)) (hv : atI [V.int S.cam.r, .int S.cam.b, .int S.cam.g, .int S.cam.l] i = some v) : Ev (tOp (rIxT K) (tOp (rIxT K) ta (tC (.int 2))) (tC (.int i))) σ H v :=
  ev_op (ev_op ha ev_c (rv_tup hP.tp rfl)) ev_c (rv_tup hP.cm hv)
theorem ev_many {σ : St} {H : Hp} {S : Sk} {p sa ca : Addr} {xs : List V} {ta : TE} (hP : PartsA S p sa ca xs H) (ha : Ev ta σ H (.ref p)) : Ev (tCB (rLenQ K) (tCons (tOp (rIxT K) ta (tC (.int 1))) tNil)) σ H (.int (S.st.length : Int)) := by
  rw [← hP.sts.1]
  exact ev_lenL (ev_op ha ev_c (rv_tup hP.tp rfl)) hP.st
instance (S : Sk) (a : Att) : DecidablePred (S.inReach a) := fun i => inferInstance
def spLSeen : Sp := SpG 2 fun vs H R => ∃ S a v1 v2, vs = [v1, v2] ∧ PartsAt S v1 H ∧ T3 a v2 H ∧ SkGood S ∧ AttOk S.n a ∧ R = OffD S a (S.seen a)
abbrev s__law_seen : Stmt := top 53
abbrev N__law_seen : List PySem.Str := ["_law_parts_here", "_law_attitude_here", "_law_offsets_here", "_law_found", "_law_number"]
theorem sc__law_seen : FnScope N__law_seen ["_law_parts_here", "_law_attitude_here"] (defScope s__law_seen) := ⟨rfl, rfl, rfl, by decide +kernel, rfl, by decide +kernel, by decide +kernel⟩
theorem ok__law_seen (B : Bl mg) (G__law_offsets : Kn P w K mg base "_law_offsets" 2 ["_law_parts_here", "_law_attitude_here"] spOffs) (D : Df K mg "_law_seen" s__law_seen) : Kn P w K mg base "_law_seen" 3 ["_law_parts_here", "_law_attitude_here"] spLSeen := by
  obtain ⟨f, fd, F, hm⟩ := D
  refine kn_mk F hm (F.binds (ps := ["_law_parts_here", "_law_attitude_here"]) fun _ _ _ _ _ _ us hl => match us, hl with | [_, _], _ => rfl) ?_
  refine F.ok sc__law_seen (fun vs H Q E h => h.1) (fun cdv A outer s H vs Q E hr h => ?_)
  have hu := hu_of hr
  have nd := sc__law_seen.nd
  obtain ⟨_, R, ⟨S, a, v1, v2, rfl, ⟨p, sa, ca, xs, rfl, hP⟩, ha, hg, hat, rfl⟩, k⟩ := h
  refine ⟨_, (pss_cons (ps_set (i := 2) nd rfl (by first | exact Or.inl rfl | exact Or.inr rfl) (pe_own G__law_offsets hr (pa_cons (pv 0) (pa_cons (pv 1) pa_nil))))
      (pss_cons (ps_set (i := 3) nd rfl (by first | exact Or.inl rfl | exact Or.inr rfl) pe_dnewK)
      (pss_cons (ps_for PassesOwn.never rfl (pi_range1 (by rfl) B.range (pa_cons (pe_callB call_len_seq (by rfl) B.len (by decide +kernel) (pa_cons (pe_ix ix_tup (pv 0) pe_int (fun _ _ => rfl)) pa_nil)) pa_nil)) (pg_name (i := 4) nd rfl (by first | exact Or.inl rfl | exact Or.inr rfl))
      (pss_one (ps_if (PW.pt (pw_and (pt_cmp (pc_din hu (pv 4) (pv 2))) (pw_and1 (pt_cmpR op_ge (pe_ix ix_tup (pe_ix ix_list (pe_ix ix_tup (pv 0) pe_int (fun _ _ => rfl)) (pv 4) (fun _ _ => rfl)) pe_int (fun _ _ => rfl)) (pe_op op_sub (pe_ix ix_tup (pe_ix ix_tup (pv 0) pe_int (fun _ _ => rfl)) pe_int (fun _ _ => rfl)) (pe_ix ix_tup (pe_ix ix_tup (pv 0) pe_int (fun _ _ => rfl)) pe_int (fun _ _ => rfl))) (nomark _))))) (pss_one (ps_dput hu (pv 3) (pv 4) (pe_dget hu (pv 2) (pv 4) (fun _ _ => rfl)) rfl)) pss_nil)))
      (pss_one (ps_ret (pv 3)))))), ?_⟩
  have hlen := hg.st.few
  refine q_asgP (evp_call (by walk_at "ea") (use_offs ⟨p, sa, ca, xs, rfl, hP⟩ ha hg hat)) fun v H1 e1 ⟨D1, kv1, hv, hD1, hO1⟩ => ?_
  subst hv
  refine q_dnew fun D hD => ?_
  have hD0 : H D = none := fresh_back e1 hD
  have e2 : Ex H1 (upd H1 D (.dK [])) := Ex.new hD
  refine q_forR1 (ea_cons (ev_many (hP.up (e1.trans e2)) (ev_var rfl)) ea_nil) (by omega) (fun i σ' H' => (∃ u4, σ' = [some (.ref p), some v2, some (.ref D1), some (.ref D), u4]) ∧ Ex H H' ∧ H' D1 = some (.dK kv1) ∧ OffI S a (S.inReach a) kv1 H' ∧ ∃ kvs, H' D = some (.dK kvs) ∧ OffI S a (fun m => S.seen a m ∧ m < i) kvs H' ∧ kvs.length ≤ i) (fun H3 e3 => ⟨⟨_, rfl⟩, (e1.trans e2).trans e3, (e2.trans e3) _ _ hD1, hO1.tups (.of (e2.trans e3)), [], e3 _ _ upd_same, fun m hm => ⟨fun f => absurd f.2 (Nat.not_lt_zero _), fun _ => rfl⟩, Nat.le_refl _⟩) ?_ ?_
  · rintro i σ' H' hi ⟨⟨u4, rfl⟩, e, hd1, ho1, kvs, hk, hO, hkl⟩
    have hm : i < S.st.length := by omega
    have hP' := hP.up e
    have hne : D1 ≠ D := fun z => by rw [← z, hD1] at hD; cases hD
    refine s_if (b := decide (S.inReach a i) && decide (S.cam.l - S.cam.g ≤ (S.starAt i).2.2)) (et_and (et_is (et_dinK (ev_var rfl) (ev_var rfl) hd1) (ho1.is hm)) (fun _ => et_test (ev_op (ev_bright hP' hm (ev_var rfl) (ev_var rfl)) (ev_op (ev_cam hP' (ev_var rfl) rfl) (ev_cam hP' (ev_var rfl) rfl) rv_I0) rv_I0))) (fun hb H4 e4 => ?_) (fun hb H4 e4 => ?_)
    · rw [Bool.and_eq_true, decide_eq_true_eq, decide_eq_true_eq] at hb
      obtain ⟨x, hx, hT⟩ := (ho1 i hm).1 hb.1
      have hseen : S.seen a i := ⟨hm, hb.1, hb.1, hb.2⟩
      refine s_dputV (R := T2 (S.off a i)) (K77.Ev.p (ev_dgetK (ev_var rfl) (ev_var rfl) (e4 _ _ hd1) hx) fun H5 e5 => T2.up (e4.trans e5) hT) (st_T2 _) (ev_var rfl) (ev_var rfl) (e4 _ _ hk) (by omega) fun v H5 e5 r => ?_
      have hk5 := (e4.trans e5) _ _ hk
      have tz : Tups H5 (upd H5 D (.dK (putK kvs (kN i) v))) := Tups.dk hk5
      refine ⟨⟨_, rfl⟩, Ex.mut ((e.trans e4).trans e5) hD0, by rw [upd_ne hne]; exact (e4.trans e5) _ _ hd1, ho1.tups ((Tups.of (e4.trans e5)).trans tz), _, upd_same, (((hO.tups (.of (e4.trans e5))).put r).tups tz).ext fun l hl => ?_, Nat.le_trans (length_putK kvs (kN i) v) (by omega)⟩
      constructor
      · rintro ⟨f1, f2⟩
        by_cases c : l = i
        · exact .inr c
        · exact .inl ⟨f1, by omega⟩
      · rintro (⟨f1, f2⟩ | rfl)
        · exact ⟨f1, by omega⟩
        · exact ⟨hseen, by omega⟩
    · have hns : ¬ S.seen a i := fun z => by
        rw [Bool.and_eq_false_iff, decide_eq_false_iff_not, decide_eq_false_iff_not] at hb
        rcases hb with q | q
        · exact q z.2.1
        · exact q z.2.2.2
      refine ⟨⟨_, rfl⟩, e.trans e4, e4 _ _ hd1, ho1.tups (.of e4), kvs, e4 _ _ hk, (hO.tups (.of e4)).ext fun l hl => ?_, by omega⟩
      constructor
      · rintro ⟨f1, f2⟩
        by_cases c : l = i
        · rw [c] at f1
          exact absurd f1 hns
        · exact ⟨f1, by omega⟩
      · rintro ⟨f1, f2⟩
        exact ⟨f1, by omega⟩
  · rintro σ' H' ⟨⟨u4, rfl⟩, e, hd1, ho1, kvs, hk, hO, hkl⟩
    refine s_ret (ev_var rfl) fun H5 e5 => k _ H5 (e.trans e5) ⟨D, kvs, rfl, e5 _ _ hk, (hO.tups (.of e5)).ext fun l hl => ⟨fun f => ⟨f, ?_⟩, fun f => f.1⟩⟩
    have ex : ((S.st.length : Int)).toNat = S.st.length := rfl
    omega
theorem use_lseen {S : Sk} {a : Att} {v1 v2 : V} {H : Hp} (hP : PartsAt S v1 H) (ha : T3 a v2 H) (hg : SkGood S) (hat : AttOk S.n a) : SpP spLSeen [v1, v2] H (OffD S a (S.seen a)) := spg fun _ e => ⟨S, a, v1, v2, rfl, hP.up e, ha.up e, hg, hat, rfl⟩
def spLSure : Sp := SpG 2 fun vs H R => ∃ S a v1 v2, vs = [v1, v2] ∧ PartsAt S v1 H ∧ T3 a v2 H ∧ SkGood S ∧ AttOk S.n a ∧ R = Nums (S.sureL a)
abbrev s__law_sure : Stmt := top 54
abbrev N__law_sure : List PySem.Str := ["_law_parts_here", "_law_attitude_here", "_law_offsets_here", "_law_room", "_law_found", "_law_number"]
theorem sc__law_sure : FnScope N__law_sure ["_law_parts_here", "_law_attitude_here"] (defScope s__law_sure) := ⟨rfl, rfl, rfl, by decide +kernel, rfl, by decide +kernel, by decide +kernel⟩
theorem ok__law_sure (B : Bl mg) (G__law_offsets : Kn P w K mg base "_law_offsets" 2 ["_law_parts_here", "_law_attitude_here"] spOffs) (D : Df K mg "_law_sure" s__law_sure) : Kn P w K mg base "_law_sure" 3 ["_law_parts_here", "_law_attitude_here"] spLSure := by
  obtain ⟨f, fd, F, hm⟩ := D
  refine kn_mk F hm (F.binds (ps := ["_law_parts_here", "_law_attitude_here"]) fun _ _ _ _ _ _ us hl => match us, hl with | [_, _], _ => rfl) ?_
  refine F.ok sc__law_sure (fun vs H Q E h => h.1) (fun cdv A outer s H vs Q E hr h => ?_)
  have hu := hu_of hr
  have nd := sc__law_sure.nd
  obtain ⟨_, R, ⟨S, a, v1, v2, rfl, ⟨p, sa, ca, xs, rfl, hP⟩, ha, hg, hat, rfl⟩, k⟩ := h
  refine ⟨_, (pss_cons (ps_set (i := 2) nd rfl (by first | exact Or.inl rfl | exact Or.inr rfl) (pe_own G__law_offsets hr (pa_cons (pv 0) (pa_cons (pv 1) pa_nil))))
      (pss_cons (ps_set (i := 3) nd rfl (by first | exact Or.inl rfl | exact Or.inr rfl) (pe_op op_sub (pe_ix ix_tup (pe_ix ix_tup (pv 0) pe_int (fun _ _ => rfl)) pe_int (fun _ _ => rfl)) (pe_ix ix_tup (pe_ix ix_tup (pv 0) pe_int (fun _ _ => rfl)) pe_int (fun _ _ => rfl))))
      (pss_cons (ps_set (i := 4) nd rfl (by first | exact Or.inl rfl | exact Or.inr rfl) (pe_lst pa_nil))
      (pss_cons (ps_for PassesOwn.never rfl (pi_range1 (by rfl) B.range (pa_cons (pe_callB call_len_seq (by rfl) B.len (by decide +kernel) (pa_cons (pe_ix ix_tup (pv 0) pe_int (fun _ _ => rfl)) pa_nil)) pa_nil)) (pg_name (i := 5) nd rfl (by first | exact Or.inl rfl | exact Or.inr rfl))
      (pss_one (ps_if (PW.pt (pw_and (pt_cmp (pc_din hu (pv 5) (pv 2))) (pw_and1 (pt_cmpR op_le (pe_callB (call_max2 rfl) (by rfl) B.max (by decide +kernel) (pa_cons (pe_callB call_abs (by rfl) B.abs (by decide +kernel) (pa_cons (pe_ix ix_tup (pe_dget hu (pv 2) (pv 5) (fun _ _ => rfl)) pe_int (fun _ _ => rfl)) pa_nil)) (pa_cons (pe_callB call_abs (by rfl) B.abs (by decide +kernel) (pa_cons (pe_ix ix_tup (pe_dget hu (pv 2) (pv 5) (fun _ _ => rfl)) pe_int (fun _ _ => rfl)) pa_nil)) pa_nil))) (pv 3) (nomark _))))) (pss_one (ps_if (pt_cmpR op_ge (pe_ix ix_tup (pe_ix ix_list (pe_ix ix_tup (pv 0) pe_int (fun _ _ => rfl)) (pv 5) (fun _ _ => rfl)) pe_int (fun _ _ => rfl)) (pe_op op_add (pe_ix ix_tup (pe_ix ix_tup (pv 0) pe_int (fun _ _ => rfl)) pe_int (fun _ _ => rfl)) (pe_ix ix_tup (pe_ix ix_tup (pv 0) pe_int (fun _ _ => rfl)) pe_int (fun _ _ => rfl))) (nomark _)) (pss_one (ps_expr (pe_bm PySem.F.plainAttrs_list PySem.F.slot_list_append PySem.F.type_list_append mt_append (pv 4) (pa_cons (pv 5) pa_nil)))) pss_nil)) pss_nil)))
      (pss_one (ps_ret (pv 4))))))), ?_⟩
  have hlen := hg.st.few
  refine q_asgP (evp_call (by walk_at "ea") (use_offs ⟨p, sa, ca, xs, rfl, hP⟩ ha hg hat)) fun v H1 e1 ⟨D1, kv1, hv, hD1, hO1⟩ => ?_
  subst hv
  have hP1 := hP.up e1
  refine q_asg (ev_op (ev_cam hP1 (ev_var rfl) rfl) (ev_cam hP1 (ev_var rfl) rfl) rv_I0) fun H2 e2 => ?_
  refine q_asgL (el_lst ea_nil (Nat.zero_le _)) fun q H3 hq e3 h3 => ?_
  have hq0 : H q = none := fresh_back (e1.trans e2) hq
  have e13 := (e1.trans e2).trans e3
  refine q_forR1 (ea_cons (ev_many (hP.up e13) (ev_var rfl)) ea_nil) (by omega) (fun i σ' H' => (∃ u5, σ' = [some (.ref p), some v2, some (.ref D1), some (.int (S.cam.r - S.cam.b)), some (.ref q), u5]) ∧ Ex H H' ∧ H' D1 = some (.dK kv1) ∧ OffI S a (S.inReach a) kv1 H' ∧ H' q = some (.lst (((List.range i).filter fun i => decide (S.sure a i)).map nV))) (fun H4 e4 => ⟨⟨_, rfl⟩, e13.trans e4, ((e2.trans e3).trans e4) _ _ hD1, hO1.tups (.of ((e2.trans e3).trans e4)), e4 _ _ h3⟩) ?_ ?_
  · rintro i σ' H' hi ⟨⟨u5, rfl⟩, e, hd1, ho1, hl⟩
    have hm : i < S.st.length := by omega
    have hP' := hP.up e
    have hne : D1 ≠ q := fun z => by rw [← z, (e2 _ _ hD1)] at hq; cases hq
    by_cases hR : S.inReach a i
    · obtain ⟨x, hx, t, rfl, hT⟩ := (ho1 i hm).1 hR
      refine s_if (b := decide (far (S.off a i) ≤ S.cam.r - S.cam.b)) (et_is (et_and (a := true) (b := decide (far (S.off a i) ≤ S.cam.r - S.cam.b)) (et_is (et_dinK (ev_var rfl) (ev_var rfl) hd1) ((ho1.is hm).trans (decide_eq_true hR))) (fun _ => et_test (ev_op (ev_max (ev_abs (ev_op (ev_dgetK (ev_var rfl) (ev_var rfl) hd1 hx) ev_c (rv_tup hT rfl))) (ev_abs (ev_op (ev_dgetK (ev_var rfl) (ev_var rfl) hd1 hx) ev_c (rv_tup hT rfl)))) (ev_var rfl) rv_I0))) (Bool.true_and _)) (fun hb H4 e4 => ?_) (fun hb H4 e4 => ?_)
      · have hb' := of_decide_eq_true hb
        have hP4 := hP'.up e4
        refine s_if (b := decide (S.cam.l + S.cam.g ≤ (S.starAt i).2.2)) (et_test (ev_op (ev_bright hP4 hm (ev_var rfl) (ev_var rfl)) (ev_op (ev_cam hP4 (ev_var rfl) rfl) (ev_cam hP4 (ev_var rfl) rfl) rv_I0) rv_I0)) (fun hb2 H5 e5 => ?_) (fun hb2 H5 e5 => ?_)
        · have hs : S.sure a i := ⟨hm, hR, hb', of_decide_eq_true hb2⟩
          have hl5 := (e4.trans e5) _ _ hl
          refine s_app hl5 (by walk_at "ev") (by walk_at "ev") (by
            rw [List.length_map]
            have := rf_len (fun i => decide (S.sure a i)) i
            omega) fun H6 e6 => ?_
          refine ⟨⟨_, rfl⟩, Ex.mut (((e.trans e4).trans e5).trans e6) hq0, by rw [upd_ne hne]; exact ((e4.trans e5).trans e6) _ _ hd1, ho1.tups ((Tups.of ((e4.trans e5).trans e6)).trans (Tups.lst (e6 _ _ hl5))), ?_⟩
          rw [upd_same, rf_yes (decide_eq_true hs), List.map_append]
          rfl
        · refine ⟨⟨_, rfl⟩, (e.trans e4).trans e5, (e4.trans e5) _ _ hd1, ho1.tups (.of (e4.trans e5)), ?_⟩
          rw [rf_no (decide_eq_false fun z => of_decide_eq_false hb2 z.2.2.2)]
          exact (e4.trans e5) _ _ hl
      · refine ⟨⟨_, rfl⟩, e.trans e4, e4 _ _ hd1, ho1.tups (.of e4), ?_⟩
        rw [rf_no (decide_eq_false fun z => of_decide_eq_false hb z.2.2.1)]
        exact e4 _ _ hl
    · refine s_if (b := false) (et_and (a := false) (b := false) (et_is (et_dinK (ev_var rfl) (ev_var rfl) hd1) ((ho1.is hm).trans (decide_eq_false hR))) (fun z => by cases z)) (fun hb => by cases hb) (fun hb H4 e4 => ?_)
      refine ⟨⟨_, rfl⟩, e.trans e4, e4 _ _ hd1, ho1.tups (.of e4), ?_⟩
      rw [rf_no (decide_eq_false fun z => hR z.2.1)]
      exact e4 _ _ hl
  · rintro σ' H' ⟨⟨u5, rfl⟩, e, hd1, ho1, hl⟩
    exact s_ret (ev_var rfl) fun H5 e5 => k _ H5 (e.trans e5) ⟨q, rfl, e5 _ _ hl⟩
theorem use_lsure {S : Sk} {a : Att} {v1 v2 : V} {H : Hp} (hP : PartsAt S v1 H) (ha : T3 a v2 H) (hg : SkGood S) (hat : AttOk S.n a) : SpP spLSure [v1, v2] H (Nums (S.sureL a)) := spg fun _ e => ⟨S, a, v1, v2, rfl, hP.up e, ha.up e, hg, hat, rfl⟩
/-! ### _law_common -/
def spCommon : Sp := SpG 5 fun vs H R => ∃ (lo hi x y b : Int), vs = [.int lo, .int hi, .int x, .int y, .int b] ∧ (lo - b ≤ x ∧ x ≤ hi + b) ∧ (lo - b ≤ y ∧ y ≤ hi + b) ∧ lo ≤ hi ∧ 0 ≤ b ∧ -100 ≤ lo ∧ hi ≤ 100 ∧ R = is (.bl (decide (iabs (x - y) ≤ 2 * b)))
abbrev s__law_common : Stmt := top 55
abbrev N__law_common : List PySem.Str := ["_law_low", "_law_high", "_law_one", "_law_other", "_law_by", "_law_k"]
theorem sc__law_common : FnScope N__law_common ["_law_low", "_law_high", "_law_one", "_law_other", "_law_by"] (defScope s__law_common) := ⟨rfl, rfl, rfl, by decide +kernel, rfl, by decide +kernel, by decide +kernel⟩
theorem ok__law_common (B : Bl mg) (D : Df K mg "_law_common" s__law_common) : Kn P w K mg base "_law_common" 1 ["_law_low", "_law_high", "_law_one", "_law_other", "_law_by"] spCommon := by
  obtain ⟨f, fd, F, hm⟩ := D
  refine kn_mk F hm (F.binds (ps := ["_law_low", "_law_high", "_law_one", "_law_other", "_law_by"]) fun _ _ _ _ _ _ us hl => match us, hl with | [_, _, _, _, _], _ => rfl) ?_
  refine F.ok sc__law_common (fun vs H Q E h => h.1) (fun cdv A outer s H vs Q E hr h => ?_)
  have hu := hu_of hr
  have nd := sc__law_common.nd
  obtain ⟨_, R, ⟨lo, hi, x, y, b, rfl, hx, hy, hlh, hb, hl, hh, rfl⟩, k⟩ := h
  refine ⟨_, (pss_one (ps_ret (pe_callB (cr_any rfl) (by rfl) B.any (by decide +kernel) (pa_cons (pe_lc (own := [("_law_k", 5)]) rfl nd (pi_range2 (by rfl) B.range (pa_cons (pv 0) (pa_cons (pe_op op_add (pv 1) pe_int) pa_nil))) (blkOk_by (N := N__law_common) (sc := defScope s__law_common) (by decide +kernel)) (fun _ _ _ _ _ => (pg_name (i := 5) nd rfl (by first | exact Or.inl rfl | exact Or.inr rfl))) (fun _ _ _ _ _ => pts_nil) (fun _ _ _ _ _ => (pe_and (pe_cmpR op_le (pe_callB call_abs (by rfl) B.abs (by decide +kernel) (pa_cons (pe_op op_sub (pv 5) (pv 2)) pa_nil)) (pv 4) (nomark _)) (pe_one (pe_cmpR op_le (pe_callB call_abs (by rfl) B.abs (by decide +kernel) (pa_cons (pe_op op_sub (pv 5) (pv 3)) pa_nil)) (pv 4) (nomark _)))))) pa_nil)))), ?_⟩
  refine s_ret (ev_is (ev_anyL (bs := (List.range (hi + 1 - lo).toNat).map fun (i : Nat) => decide (iabs (lo + (i : Int) - x) ≤ b) && decide (iabs (lo + (i : Int) - y) ≤ b)) (ev_lcN (G := fun _ => True) (Y := YFn fun i => .int (lo + (i : Int))) (fun b => im_is _) (walks_rng2 (by walk_at "ea") (by omega)) walk_range (fun _ _ => trivial) (fun n => (List.range n).map fun (i : Nat) => decide (iabs (lo + (i : Int) - x) ≤ b) && decide (iabs (lo + (i : Int) - y) ≤ b)) rfl (by omega) ?_)) ?_) fun H1 e => k _ H1 e rfl
  · rintro i v H1 H2 hi' e1 ⟨rfl, rfl⟩
    refine ⟨Ex.refl _, rfl, true, fun H3 e3 Q' q' => q' H3 (Ex.refl H3), fun _ => ⟨_, by rw [List.range_succ, List.map_append] <;> rfl, K77.Ev.p (ev_andV (by walk_at "ev") (fun _ => by walk_at "ev")) fun _ _ => rfl⟩, fun z => by cases z⟩
  · congr 1
    rw [Bool.eq_iff_iff, decide_eq_true_eq, List.any_eq_true, ← common_iff hx hy hlh hb]
    constructor
    · rintro ⟨z, hz, hz'⟩
      obtain ⟨i, hi', rfl⟩ := List.mem_map.mp hz
      have hz2 : (decide (iabs (lo + (i : Int) - x) ≤ b) && decide (iabs (lo + (i : Int) - y) ≤ b)) = true := hz'
      rw [Bool.and_eq_true, decide_eq_true_eq, decide_eq_true_eq] at hz2
      have := List.mem_range.mp hi'
      exact ⟨lo + i, by omega, by omega, hz2.1, hz2.2⟩
    · rintro ⟨k, h1, h2, h3, h4⟩
      have ek : lo + ((k - lo).toNat : Int) = k := by omega
      refine ⟨true, List.mem_map.mpr ⟨(k - lo).toNat, List.mem_range.mpr (by omega), ?_⟩, rfl⟩
      rw [ek, decide_eq_true h3, decide_eq_true h4]
      rfl
theorem use_common {lo hi x y b : Int} {H : Hp} (hx : lo - b ≤ x ∧ x ≤ hi + b) (hy : lo - b ≤ y ∧ y ≤ hi + b) (hlh : lo ≤ hi) (hb : 0 ≤ b) (hl : -100 ≤ lo) (hh : hi ≤ 100) : SpV spCommon [.int lo, .int hi, .int x, .int y, .int b] H (.bl (decide (iabs (x - y) ≤ 2 * b))) :=
  spgV fun _ _ => ⟨lo, hi, x, y, b, rfl, hx, hy, hlh, hb, hl, hh, rfl⟩
end
end K77
end

section
set_option maxRecDepth 100000
set_option maxHeartbeats 4000000
namespace K77
open PySem L2 Evl
local macro_rules | `(tactic| walk_at "at") => `(tactic| first | assumption | exact Ex.get (by assumption) (by assumption))
local macro_rules | `(tactic| walk_at "sk") => `(tactic| first | assumption | exact SkyA.up (by assumption) (by assumption))
local macro_rules | `(tactic| walk_at "rv") => `(tactic| first
  | with_reducible exact rv_I0
  | with_reducible exact rv_isN
  | with_reducible exact rv_notN
  | (with_reducible show RV (rI (fun _ j => 0 < j) fun i j => .int (i % j)) _ _ _ _; exact rv_mod (by first | assumption | omega))
  | (with_reducible show RV (rI CMul _) _ _ _ _; exact rv_mul (by first | exact mul_l (by omega) | exact mul_r (by omega)))
  | (with_reducible show RV (rI CDiv _) _ _ _ _; exact rv_fdiv (div_ok (by omega)))
  | (with_reducible show RV (rIxT _) _ _ _ _; exact rv_tup (by walk_at "at") rfl)
  | (with_reducible show RV rEq _ _ _ _; exact rv_eq rfl)
  | (with_reducible show RV rNe _ _ _ _; exact rv_ne rfl))
local macro_rules | `(tactic| walk_at "ev") => `(tactic| first
  | (with_reducible show Ev (tVar _) _ _ _; exact ev_var rfl)
  | (with_reducible show Ev (tC _) _ _ _; exact ev_c)
  | (with_reducible show Ev (tOp (rIxL _) _ _) _ _ _; exact ev_num (by walk_at "at") (by assumption) (by walk_at "ev") (by walk_at "ev") (by omega) (by omega))
  | (with_reducible show Ev (tOp _ _ _) _ _ _; exact ev_op (by walk_at "ev") (by walk_at "ev") (by walk_at "rv"))
  | (with_reducible show Ev (tProp _ _ _ _ _) _ _ _; exact ev_sky (by walk_at "ev") (by walk_at "sk"))
  | (with_reducible show Ev (tCB rAbs _) _ _ _; exact ev_abs (by walk_at "ev"))
  | (with_reducible show Ev (tCB rMax _) _ _ _; exact ev_max (by walk_at "ev") (by walk_at "ev"))
  | (with_reducible show Ev (tCB rMin _) _ _ _; exact ev_min (by walk_at "ev") (by walk_at "ev"))
  | (with_reducible show Ev (tCB rInt _) _ _ _; exact ev_int (by walk_at "ev"))
  | (with_reducible show Ev (tCB rInt _) _ _ _; exact ev_intB (by walk_at "ev"))
  | (with_reducible show Ev (tChain _ _ _ _ _) _ _ _; exact ev_chain (by walk_at "ev") (by walk_at "ev") (by walk_at "ev"))
  | (with_reducible show Ev (tAndV _ _) _ _ _; exact ev_andV (by walk_at "ev") (fun _ => by walk_at "ev"))
  | (with_reducible show Ev (tOrV _ _) _ _ _; exact ev_orV (by walk_at "ev") (fun _ => by walk_at "ev"))
  | (with_reducible show Ev (tCB (rLenQ _) _) _ _ _; exact ev_lenL (by walk_at "ev") (by walk_at "at"))
  | (with_reducible show Ev (tCB (rLenQ _) _) _ _ _; exact ev_lenT (by walk_at "ev") (by walk_at "at"))
  | (with_reducible show Ev (tUn _ _) _ _ _; exact ev_un (by walk_at "ev") ru_neg))
local macro_rules | `(tactic| walk_at "et") => `(tactic| first
  | (with_reducible show EvT (tTest _) _ _ _; exact et_test (by walk_at "ev"))
  | (with_reducible show EvT (tB _) _ _ _; exact et_B (by walk_at "ev"))
  | (with_reducible show EvT (tNot _) _ _ _; exact et_not (by walk_at "et"))
  | (with_reducible show EvT (tAnd _ _) _ _ _; exact et_and (by walk_at "et") (fun _ => by walk_at "et"))
  | (with_reducible show EvT (tOr _ _) _ _ _; exact et_or (by walk_at "et") (fun _ => by walk_at "et"))
  | exact et_tru (by walk_at "ev") (by walk_at "at"))
local macro_rules | `(tactic| walk_at "ea") => `(tactic| first
  | (with_reducible show EvA tNil _ _ _; exact ea_nil)
  | (with_reducible show EvA (tCons _ _) _ _ _; exact ea_cons (by walk_at "ev") (by walk_at "ea")))
section
variable {P : Program} {w : World} {K : PySem.W.Frag} {mg : PySem.Str → Option Value} {base : Heap}
/-! ### _law_links -/
def PN (p : Nat × Nat) : PH := T2 ((p.1 : Int), (p.2 : Int))
theorem im_PN (p : Nat × Nat) : Imm (PN p) := im_T2 _
/-- the list l of the pairs of F -/
def PairsV (F : Nat → Nat → Prop) : PH := fun v H => ∃ p xs l, v = .ref p ∧ H p = some (.lst xs) ∧ Lst PN l xs H ∧ (∀ x y, (x, y) ∈ l ↔ F x y) ∧ l.length ≤ 400
def spLLinks : Sp := SpG 3 fun vs H R => ∃ S a b v1 v2 v3, vs = [v1, v2, v3] ∧ PartsAt S v1 H ∧ T3 a v2 H ∧ T3 b v3 H ∧ SkGood S ∧ AttOk S.n a ∧ AttOk S.n b ∧ R = PairsV (S.link a b)
theorem ev_pair2 {σ : St} {H : Hp} {td ty : TE} {D t : Addr} {c : Nat} {kvs : List (Key × V)} {d : Int × Int} {i : Int} {v : V} (hd : Ev td σ H (.ref D)) (hk : Ev ty σ H (nV c)) (h : H D = some (.dK kvs)) (hl : valV kvs (kN c) = some (.ref t)) (ht : H t = some (.tup [.int d.1, .int d.2])) (hv : atI [V.int d.1, .int d.2] i = some v) :
    Ev (tOp (rIxT K) (tDGet td ty) (tC (.int i))) σ H v := ev_op (ev_dgetK hd hk h hl) ev_c (rv_tup ht hv)
abbrev s__law_links : Stmt := top 56
abbrev N__law_links : List PySem.Str := ["_law_parts_here", "_law_one", "_law_other", "_law_reach", "_law_blur", "_law_glare", "_law_limit", "_law_first", "_law_second", "_law_found", "_law_a", "_law_b"]
theorem sc__law_links : FnScope N__law_links ["_law_parts_here", "_law_one", "_law_other"] (defScope s__law_links) := ⟨rfl, rfl, rfl, by decide +kernel, rfl, by decide +kernel, by decide +kernel⟩
theorem ok__law_links (B : Bl mg) (G__law_seen : Kn P w K mg base "_law_seen" 3 ["_law_parts_here", "_law_attitude_here"] spLSeen) (G__law_common : Kn P w K mg base "_law_common" 1 ["_law_low", "_law_high", "_law_one", "_law_other", "_law_by"] spCommon) (D : Df K mg "_law_links" s__law_links) : Kn P w K mg base "_law_links" 4 ["_law_parts_here", "_law_one", "_law_other"] spLLinks := by
  obtain ⟨f, fd, F, hm⟩ := D
  refine kn_mk F hm (F.binds (ps := ["_law_parts_here", "_law_one", "_law_other"]) fun _ _ _ _ _ _ us hl => match us, hl with | [_, _, _], _ => rfl) ?_
  refine F.ok sc__law_links (fun vs H Q E h => h.1) (fun cdv A outer s H vs Q E hr h => ?_)
  have hu := hu_of hr
  have nd := sc__law_links.nd
  obtain ⟨_, R, ⟨S, a, b, v1, v2, v3, rfl, ⟨p, sa, ca, xs, rfl, hP⟩, ha, hb, hg, hat, hbt, rfl⟩, k⟩ := h
  refine ⟨_, (pss_cons (ps_asg (pe_ix ix_tup (pv 0) pe_int (fun _ _ => rfl)) (pg_tup rfl (pgs_cons (pg_name (i := 3) nd rfl (by first | exact Or.inl rfl | exact Or.inr rfl)) (pgs_cons (pg_name (i := 4) nd rfl (by first | exact Or.inl rfl | exact Or.inr rfl)) (pgs_cons (pg_name (i := 5) nd rfl (by first | exact Or.inl rfl | exact Or.inr rfl)) (pgs_cons (pg_name (i := 6) nd rfl (by first | exact Or.inl rfl | exact Or.inr rfl)) pgs_nil))))))
      (pss_cons (ps_par (i := 7) (j := 8) rfl nd rfl rfl (by decide) rfl rfl (pa_cons (pe_own G__law_seen hr (pa_cons (pv 0) (pa_cons (pv 1) pa_nil))) (pa_cons (pe_own G__law_seen hr (pa_cons (pv 0) (pa_cons (pv 2) pa_nil))) pa_nil)) (by rfl))
      (pss_cons (ps_set (i := 9) nd rfl (by first | exact Or.inl rfl | exact Or.inr rfl) (pe_lst pa_nil))
      (pss_cons (ps_for PassesOwn.never rfl (pi_range1 (by rfl) B.range (pa_cons (pe_callB call_len_seq (by rfl) B.len (by decide +kernel) (pa_cons (pe_ix ix_tup (pv 0) pe_int (fun _ _ => rfl)) pa_nil)) pa_nil)) (pg_name (i := 10) nd rfl (by first | exact Or.inl rfl | exact Or.inr rfl))
      (pss_one (ps_for PassesOwn.never rfl (pi_range1 (by rfl) B.range (pa_cons (pe_callB call_len_seq (by rfl) B.len (by decide +kernel) (pa_cons (pe_ix ix_tup (pv 0) pe_int (fun _ _ => rfl)) pa_nil)) pa_nil)) (pg_name (i := 11) nd rfl (by first | exact Or.inl rfl | exact Or.inr rfl))
      (pss_one (ps_if (PW.pt (pw_and (pt_cmp (pc_din hu (pv 10) (pv 7))) (pw_and (pt_cmp (pc_din hu (pv 11) (pv 8))) (pw_and1 (pt_val (pe_own G__law_common hr (pa_cons (pv 6) (pa_cons (pe_op op_add pe_int (pv 5)) (pa_cons (pe_ix ix_tup (pe_ix ix_list (pe_ix ix_tup (pv 0) pe_int (fun _ _ => rfl)) (pv 10) (fun _ _ => rfl)) pe_int (fun _ _ => rfl)) (pa_cons (pe_ix ix_tup (pe_ix ix_list (pe_ix ix_tup (pv 0) pe_int (fun _ _ => rfl)) (pv 11) (fun _ _ => rfl)) pe_int (fun _ _ => rfl)) (pa_cons (pv 5) pa_nil))))))))))) (pss_one (ps_if (pt_val (pe_own G__law_common hr (pa_cons (pe_op op_sub pe_int (pv 3)) (pa_cons (pv 3) (pa_cons (pe_ix ix_tup (pe_dget hu (pv 7) (pv 10) (fun _ _ => rfl)) pe_int (fun _ _ => rfl)) (pa_cons (pe_ix ix_tup (pe_dget hu (pv 8) (pv 11) (fun _ _ => rfl)) pe_int (fun _ _ => rfl)) (pa_cons (pv 4) pa_nil))))))) (pss_one (ps_if (pt_val (pe_own G__law_common hr (pa_cons (pe_op op_sub pe_int (pv 3)) (pa_cons (pv 3) (pa_cons (pe_ix ix_tup (pe_dget hu (pv 7) (pv 10) (fun _ _ => rfl)) pe_int (fun _ _ => rfl)) (pa_cons (pe_ix ix_tup (pe_dget hu (pv 8) (pv 11) (fun _ _ => rfl)) pe_int (fun _ _ => rfl)) (pa_cons (pv 4) pa_nil))))))) (pss_one (ps_expr (pe_bm PySem.F.plainAttrs_list PySem.F.slot_list_append PySem.F.type_list_append mt_append (pv 9) (pa_cons (pe_tup (pa_cons (pv 10) (pa_cons (pv 11) pa_nil))) pa_nil)))) pss_nil)) pss_nil)) pss_nil)))))
      (pss_one (ps_ret (pv 9))))))), ?_⟩
  have hlen := hg.st.few
  obtain ⟨c1, c2, c3, c4, c5, c6, c7, c8, c9, c10⟩ := hg.cam
  refine q_unp4 (ev_op (ev_var rfl) ev_c (rv_tup hP.tp rfl)) hP.cm fun H1 e1 => ?_
  refine evp_call (σ := _) (by walk_at "ea") (use_lseen (S := S) (a := a) ⟨p, sa, ca, xs, rfl, hP.up e1⟩ (ha.up e1) hg hat) H1 (Ex.refl H1) _ fun v4 H2 e2 ⟨D1, kv1, hv1, hD1, hO1⟩ => ?_
  have e12 := e1.trans e2
  refine evp_call (σ := _) (by walk_at "ea") (use_lseen (S := S) (a := b) ⟨p, sa, ca, xs, rfl, hP.up e12⟩ (hb.up e12) hg hbt) H2 (Ex.refl H2) _ fun v5 H3 e3 ⟨D2, kv2, hv2, hD2, hO2⟩ => ?_
  subst hv1 hv2
  refine ⟨_, _, rfl, ?_⟩
  replace hD1 := e3 _ _ hD1
  replace hO1 := hO1.tups (.of e3)
  refine q_asgL (el_lst ea_nil (Nat.zero_le _)) fun q H4 hq e4 h4 => ?_
  have e14 := (e12.trans e3).trans e4
  have hq0 : H q = none := fresh_back (e12.trans e3) hq
  have n1 : D1 ≠ q := fun z => by rw [← z, hD1] at hq; cases hq
  have n2 : D2 ≠ q := fun z => by rw [← z, hD2] at hq; cases hq
  have ex : ((S.st.length : Int)).toNat = S.st.length := rfl
  refine q_forR1 (ea_cons (ev_many (hP.up e14) (ev_var rfl)) ea_nil) (by omega) (fun i σ' H' => (∃ u10 u11, σ' = [some (.ref p), some v2, some v3, some (.int S.cam.r), some (.int S.cam.b), some (.int S.cam.g), some (.int S.cam.l), some (.ref D1), some (.ref D2), some (.ref q), u10, u11]) ∧ Ex H H' ∧ H' D1 = some (.dK kv1) ∧ OffI S a (S.seen a) kv1 H' ∧ H' D2 = some (.dK kv2) ∧ OffI S b (S.seen b) kv2 H' ∧
    ∃ l ys, H' q = some (.lst ys) ∧ Lst PN l ys H' ∧ (∀ x y, (x, y) ∈ l ↔ (S.link a b x y ∧ x < i)) ∧ l.length ≤ 20 * i) (fun H5 e5 => ⟨⟨_, _, rfl⟩, e14.trans e5, (e4.trans e5) _ _ hD1, hO1.tups (.of (e4.trans e5)), (e4.trans e5) _ _ hD2, hO2.tups (.of (e4.trans e5)), [], [], e5 _ _ h4, Lst.nil, fun x y => ⟨(fun z => by cases z), fun z => absurd z.2 (Nat.not_lt_zero _)⟩, Nat.le_refl _⟩) ?_ ?_
  · rintro i σ' H' hi ⟨⟨u10, u11, rfl⟩, e, hd1, ho1, hd2, ho2, l, ys, hl, hL, hm, hz⟩
    have hi' : i < S.st.length := by omega
    refine s_forR1 (ea_cons (ev_many (hP.up e) (ev_var rfl)) ea_nil) (by omega) (fun j σ' H' => (∃ u11, σ' = [some (.ref p), some v2, some v3, some (.int S.cam.r), some (.int S.cam.b), some (.int S.cam.g), some (.int S.cam.l), some (.ref D1), some (.ref D2), some (.ref q), some (.int (i : Nat)), u11]) ∧ Ex H H' ∧ H' D1 = some (.dK kv1) ∧ OffI S a (S.seen a) kv1 H' ∧ H' D2 = some (.dK kv2) ∧ OffI S b (S.seen b) kv2 H' ∧
      ∃ l ys, H' q = some (.lst ys) ∧ Lst PN l ys H' ∧ (∀ x y, (x, y) ∈ l ↔ (S.link a b x y ∧ (x < i ∨ x = i ∧ y < j))) ∧ l.length ≤ 20 * i + j) (fun H5 e5 => ⟨⟨_, rfl⟩, e.trans e5, e5 _ _ hd1, ho1.tups (.of e5), e5 _ _ hd2, ho2.tups (.of e5), l, ys, e5 _ _ hl, hL.up (fun d => (im_PN d).stb) e5, fun x y => (hm x y).trans (and_congr_right fun _ => by omega), by omega⟩) ?_ ?_
    · rintro j σ' H' hj ⟨⟨u11, rfl⟩, e, hd1, ho1, hd2, ho2, l, ys, hl, hL, hm, hz⟩
      have hj' : j < S.st.length := by omega
      have hP' := hP.up e
      -- what is kept if the pair is no link
      have keep : ∀ H5, Ex H' H5 → ¬ S.link a b i j → (∃ u11, [some (V.ref p), some v2, some v3, some (V.int S.cam.r), some (.int S.cam.b), some (.int S.cam.g), some (.int S.cam.l), some (.ref D1), some (.ref D2), some (.ref q), some (.int (i : Nat)), some (V.int (j : Nat))] = [some (V.ref p), some v2, some v3, some (V.int S.cam.r), some (.int S.cam.b), some (.int S.cam.g), some (.int S.cam.l), some (.ref D1), some (.ref D2), some (.ref q), some (.int (i : Nat)), u11]) ∧ Ex H H5 ∧ H5 D1 = some (.dK kv1) ∧ OffI S a (S.seen a) kv1 H5 ∧ H5 D2 = some (.dK kv2) ∧ OffI S b (S.seen b) kv2 H5 ∧
          ∃ l ys, H5 q = some (.lst ys) ∧ Lst PN l ys H5 ∧ (∀ x y, (x, y) ∈ l ↔ (S.link a b x y ∧ (x < i ∨ x = i ∧ y < j + 1))) ∧ l.length ≤ 20 * i + (j + 1) := fun H5 e5 hn => by
        refine ⟨⟨_, rfl⟩, e.trans e5, e5 _ _ hd1, ho1.tups (.of e5), e5 _ _ hd2, ho2.tups (.of e5), l, ys, e5 _ _ hl, hL.up (fun d => (im_PN d).stb) e5, fun x y => (hm x y).trans ⟨fun ⟨f1, f2⟩ => ⟨f1, by omega⟩, fun ⟨f1, f2⟩ => ⟨f1, ?_⟩⟩, by omega⟩
        by_cases c : x = i ∧ y = j
        · rw [c.1, c.2] at f1
          exact absurd f1 hn
        · omega
      by_cases h1 : S.seen a i
      · by_cases h2 : S.seen b j
        · obtain ⟨x1, hx1, t1, rfl, hT1⟩ := (ho1 i hi').1 h1
          obtain ⟨x2, hx2, t2, rfl, hT2⟩ := (ho2 j hj').1 h2
          have o1 := hg.st.ok _ (List.mem_of_getElem? (S.star_at hi'))
          have o2 := hg.st.ok _ (List.mem_of_getElem? (S.star_at hj'))
          have r1 := far_le.mp h1.2.2.1
          have r2 := far_le.mp h2.2.2.1
          have k1 := h1.2.2.2
          have k2 := h2.2.2.2
          obtain ⟨_, _, _, _, o15, o16⟩ := o1
          obtain ⟨_, _, _, _, o25, o26⟩ := o2
          have one : ∀ {H5 : Hp}, Ex H' H5 → Ev _ _ H5 _ := fun {H5} e5 => (ev_callV (sp := spCommon) (σ := [some (.ref p), some v2, some v3, some (.int S.cam.r), some (.int S.cam.b), some (.int S.cam.g), some (.int S.cam.l), some (.ref D1), some (.ref D2), some (.ref q), some (.int (i : Nat)), some (.int (j : Nat))]) (H := H5)
            (ea_cons (ev_op (r := rI0 fun i j => .int (i - j)) (ev_c (v := .int 0)) (ev_var (i := 3) rfl) (rv_I0 (g := fun i j => .int (i - j)))) (ea_cons (ev_var (i := 3) rfl) (ea_cons (ev_pair2 (K := K) (ev_var (i := 7) rfl) (ev_var (i := 10) rfl) (e5 _ _ hd1) hx1 (e5 _ _ hT1) (i := 0) rfl) (ea_cons (ev_pair2 (K := K) (ev_var (i := 8) rfl) (ev_var (i := 11) rfl) (e5 _ _ hd2) hx2 (e5 _ _ hT2) (i := 0) rfl) (ea_cons (ev_var (i := 4) rfl) ea_nil)))))
            (use_common (lo := 0 - S.cam.r) (hi := S.cam.r) (x := (S.off a i).1) (y := (S.off b j).1) (b := S.cam.b) (by omega) (by omega) (by omega) (by omega) (by omega) (by omega)))
          have two : ∀ {H5 : Hp}, Ex H' H5 → Ev _ _ H5 _ := fun {H5} e5 => (ev_callV (sp := spCommon) (σ := [some (.ref p), some v2, some v3, some (.int S.cam.r), some (.int S.cam.b), some (.int S.cam.g), some (.int S.cam.l), some (.ref D1), some (.ref D2), some (.ref q), some (.int (i : Nat)), some (.int (j : Nat))]) (H := H5)
            (ea_cons (ev_op (r := rI0 fun i j => .int (i - j)) (ev_c (v := .int 0)) (ev_var (i := 3) rfl) (rv_I0 (g := fun i j => .int (i - j)))) (ea_cons (ev_var (i := 3) rfl) (ea_cons (ev_pair2 (K := K) (ev_var (i := 7) rfl) (ev_var (i := 10) rfl) (e5 _ _ hd1) hx1 (e5 _ _ hT1) (i := 1) rfl) (ea_cons (ev_pair2 (K := K) (ev_var (i := 8) rfl) (ev_var (i := 11) rfl) (e5 _ _ hd2) hx2 (e5 _ _ hT2) (i := 1) rfl) (ea_cons (ev_var (i := 4) rfl) ea_nil)))))
            (use_common (lo := 0 - S.cam.r) (hi := S.cam.r) (x := (S.off a i).2) (y := (S.off b j).2) (b := S.cam.b) (by omega) (by omega) (by omega) (by omega) (by omega) (by omega)))
          refine s_if (b := decide (iabs ((S.starAt i).2.2 - (S.starAt j).2.2) ≤ 2 * S.cam.g)) (et_is (et_and (a := true) (b := decide (iabs ((S.starAt i).2.2 - (S.starAt j).2.2) ≤ 2 * S.cam.g)) (et_is (et_dinK (ev_var rfl) (ev_var rfl) hd1) ((ho1.is hi').trans (decide_eq_true h1))) (fun _ => et_is (et_and (a := true) (b := decide (iabs ((S.starAt i).2.2 - (S.starAt j).2.2) ≤ 2 * S.cam.g)) (et_is (et_dinK (ev_var rfl) (ev_var rfl) hd2) ((ho2.is hj').trans (decide_eq_true h2)))
            (fun _ => et_B (ev_callV (ea_cons (ev_var rfl) (ea_cons (ev_op ev_c (ev_var rfl) rv_I0) (ea_cons (ev_bright hP' hi' (ev_var rfl) (ev_var rfl)) (ea_cons (ev_bright hP' hj' (ev_var rfl) (ev_var rfl)) (ea_cons (ev_var rfl) ea_nil))))) (use_common (by omega) (by omega) (by omega) (by omega) (by omega) (by omega))))) (Bool.true_and _))) (Bool.true_and _)) (fun hb5 H5 e5 => ?_) (fun hb5 H5 e5 => keep H5 e5 fun z => of_decide_eq_false hb5 z.2.2.2.2)
          refine s_if (et_B (one e5)) (fun hb6 H6 e6 => ?_) (fun hb6 H6 e6 => keep H6 (e5.trans e6) fun z => of_decide_eq_false hb6 z.2.2.1)
          refine s_if (et_B (two (e5.trans e6))) (fun hb7 H7 e7 => ?_) (fun hb7 H7 e7 => keep H7 ((e5.trans e6).trans e7) fun z => of_decide_eq_false hb7 z.2.2.2.1)
          have hlink : S.link a b i j := ⟨h1, h2, of_decide_eq_true hb6, of_decide_eq_true hb7, of_decide_eq_true hb5⟩
          have e57 := (e5.trans e6).trans e7
          refine s_appU (e57 _ _ hl) (by walk_at "ev") (eu_tup (by walk_at "ea") (Nat.le_of_ble_eq_true rfl)) (by rw [hL.1]; omega) fun t H8 ht0 e8 h8 => ?_
          have e58 := e57.trans e8
          have hl8 := e58 _ _ hl
          have tz : Tups H8 (upd H8 q (.lst (ys ++ [.ref t]))) := Tups.lst hl8
          have t58 := (Tups.of e58).trans tz
          refine ⟨⟨_, rfl⟩, Ex.mut (e.trans e58) hq0, by rw [upd_ne n1]; exact e58 _ _ hd1, ho1.tups t58, by rw [upd_ne n2]; exact e58 _ _ hd2, ho2.tups t58, l ++ [(i, j)], _, upd_same, Lst.snoc (hL.tups im_PN t58) ⟨t, rfl, tz _ _ h8⟩, fun x y => ?_, by rw [List.length_append]; simp; omega⟩
          rw [List.mem_append, hm x y, List.mem_singleton, Prod.mk.injEq]
          constructor
          · rintro (⟨f1, f2⟩ | ⟨rfl, rfl⟩)
            · exact ⟨f1, by omega⟩
            · exact ⟨hlink, by omega⟩
          · rintro ⟨f1, f2⟩
            by_cases c : x = i ∧ y = j
            · exact .inr c
            · exact .inl ⟨f1, by omega⟩
        · refine s_if (b := false) (et_is (et_and (a := true) (b := false) (et_is (et_dinK (ev_var rfl) (ev_var rfl) hd1) ((ho1.is hi').trans (decide_eq_true h1))) (fun _ => et_and (a := false) (b := false) (et_is (et_dinK (ev_var rfl) (ev_var rfl) hd2) ((ho2.is hj').trans (decide_eq_false h2))) (fun z => by cases z))) rfl) (fun hb => by cases hb) (fun _ H5 e5 => keep H5 e5 fun z => h2 z.2.1)
      · refine s_if (b := false) (et_and (a := false) (b := false) (et_is (et_dinK (ev_var rfl) (ev_var rfl) hd1) ((ho1.is hi').trans (decide_eq_false h1))) (fun z => by cases z)) (fun hb => by cases hb) (fun _ H5 e5 => keep H5 e5 fun z => h1 z.1)
    · rintro σ' H' ⟨⟨u11, rfl⟩, e, hd1, ho1, hd2, ho2, l, ys, hl, hL, hm, hz⟩
      rw [ex] at hm hz
      refine ⟨⟨_, _, rfl⟩, e, hd1, ho1, hd2, ho2, l, ys, hl, hL, fun x y => (hm x y).trans (and_congr_right fun f1 => ?_), by omega⟩
      have := f1.2.1.1
      omega
  · rintro σ' H' ⟨⟨u10, u11, rfl⟩, e, hd1, ho1, hd2, ho2, l, ys, hl, hL, hm, hz⟩
    rw [ex] at hm hz
    refine s_ret (ev_var rfl) fun H5 e5 => k _ H5 (e.trans e5) ⟨q, ys, l, rfl, e5 _ _ hl, hL.up (fun d => (im_PN d).stb) e5, fun x y => (hm x y).trans ⟨fun f => f.1, fun f => ⟨f, f.1.1⟩⟩, by omega⟩
theorem use_llinks {S : Sk} {a b : Att} {v1 v2 v3 : V} {H : Hp} (hP : PartsAt S v1 H) (ha : T3 a v2 H) (hb : T3 b v3 H) (hg : SkGood S) (hat : AttOk S.n a) (hbt : AttOk S.n b) : SpP spLLinks [v1, v2, v3] H (PairsV (S.link a b)) := spg fun _ e => ⟨S, a, b, v1, v2, v3, rfl, hP.up e, ha.up e, hb.up e, hg, hat, hbt, rfl⟩
end
end K77
end

section
set_option maxRecDepth 100000
set_option maxHeartbeats 4000000
namespace K77
/-! The way that is sought in depth: f, the owners by column; T, the columns tried. Plain Lean. -/
structure WayPre (L : Nat → Nat → Prop) (f : Nat → Option Nat) (T : List Nat) (num : Nat) : Prop where
  inj : ∀ c c' r, c ∉ T → c' ∉ T → f c = some r → f c' = some r → c = c'
  free : ∀ c, c ∉ T → f c ≠ some num
  link : ∀ c r, f c = some r → L r c
structure WayYes (L : Nat → Nat → Prop) (f : Nat → Option Nat) (T : List Nat) (num : Nat) (f' : Nat → Option Nat) : Prop where
  same : ∀ c, c ∈ T → f' c = f c
  inj : ∀ c c' r, c ∉ T → c' ∉ T → f' c = some r → f' c' = some r → c = c'
  link : ∀ c r, f' c = some r → L r c
  rows : ∀ r, (∃ c, c ∉ T ∧ f' c = some r) ↔ ((∃ c, c ∉ T ∧ f c = some r) ∨ r = num)
structure WayNo (L : Nat → Nat → Prop) (f : Nat → Option Nat) (T : List Nat) (num : Nat) (T' : List Nat) : Prop where
  sub : ∀ c, c ∈ T → c ∈ T'
  own : ∀ c, L num c → c ∈ T'
  shut : ∀ c, c ∈ T' → c ∉ T → ∃ r, f c = some r ∧ ∀ c', L r c' → c' ∈ T'
/-- in the midst of the pairs: T1 tried so far -/
structure WayMid (L : Nat → Nat → Prop) (f : Nat → Option Nat) (T T1 : List Nat) : Prop where
  sub : ∀ c, c ∈ T → c ∈ T1
  shut : ∀ c, c ∈ T1 → c ∉ T → ∃ r, f c = some r ∧ ∀ c', L r c' → c' ∈ T1
theorem WayMid.zero {L : Nat → Nat → Prop} {f : Nat → Option Nat} {T : List Nat} : WayMid L f T T := ⟨fun _ h => h, fun _ h n => absurd h n⟩
section
variable {L : Nat → Nat → Prop} {f : Nat → Option Nat} {T T1 : List Nat} {num s : Nat}
/-- the call for the row that owns the column s -/
theorem WayMid.call {r : Nat} (P : WayPre L f T num) (M : WayMid L f T T1) (hs : s ∉ T1) (hf : f s = some r) : WayPre L f (T1 ++ [s]) r := by
  have sub : ∀ c, c ∉ T1 ++ [s] → c ∉ T := fun c h z => h (List.mem_append_left _ (M.sub c z))
  refine ⟨fun c c' r h h' => P.inj c c' r (sub c h) (sub c' h'), fun c h z => ?_, P.link⟩
  have := P.inj c s r (sub c h) (fun z => hs (M.sub s z)) z hf
  rw [this] at h
  exact h (List.mem_append_right _ (List.mem_singleton.mpr rfl))
/-- it came back with no way -/
theorem WayMid.no {r : Nat} {T2 : List Nat} (M : WayMid L f T T1) (hf : f s = some r) (h : WayNo L f (T1 ++ [s]) r T2) : WayMid L f T T2 ∧ s ∈ T2 := by
  have s2 : s ∈ T2 := h.sub s (List.mem_append_right _ (List.mem_singleton.mpr rfl))
  refine ⟨⟨fun c hc => h.sub c (List.mem_append_left _ (M.sub c hc)), fun c hc hn => ?_⟩, s2⟩
  by_cases c1 : c ∈ T1
  · obtain ⟨r', h1, h2⟩ := M.shut c c1 hn
    exact ⟨r', h1, fun c' hc' => h.sub c' (List.mem_append_left _ (h2 c' hc'))⟩
  · by_cases c2 : c = s
    · rw [c2]
      exact ⟨r, hf, h.own⟩
    · refine h.shut c hc fun z => ?_
      rcases List.mem_append.mp z with z | z
      · exact c1 z
      · exact c2 (List.mem_singleton.mp z)
/-- the column s is free -/
theorem WayMid.free (P : WayPre L f T num) (M : WayMid L f T T1) (hs : s ∉ T1) (hf : f s = none) (hl : L num s) : WayYes L f T num (setF f s num) := by
  have hsT : s ∉ T := fun z => hs (M.sub s z)
  refine ⟨fun c hc => ?_, fun c c' r h h' e e' => ?_, fun c r e => ?_, fun r => ?_⟩
  · show (if c = s then some num else f c) = f c
    rw [if_neg (fun z : c = s => hsT (z ▸ hc))]
  · have e : (if c = s then some num else f c) = some r := e
    have e' : (if c' = s then some num else f c') = some r := e'
    by_cases c1 : c = s
    · by_cases c2 : c' = s
      · rw [c1, c2]
      · rw [if_pos c1] at e
        rw [if_neg c2, ← Option.some.inj e] at e'
        exact absurd e' (P.free c' h')
    · by_cases c2 : c' = s
      · rw [if_pos c2] at e'
        rw [if_neg c1, ← Option.some.inj e'] at e
        exact absurd e (P.free c h)
      · rw [if_neg c1] at e
        rw [if_neg c2] at e'
        exact P.inj c c' r h h' e e'
  · have e : (if c = s then some num else f c) = some r := e
    by_cases c1 : c = s
    · rw [if_pos c1] at e
      rw [c1, ← Option.some.inj e]
      exact hl
    · rw [if_neg c1] at e
      exact P.link c r e
  · constructor
    · rintro ⟨c, hc, e⟩
      have e : (if c = s then some num else f c) = some r := e
      by_cases c1 : c = s
      · rw [if_pos c1] at e
        exact .inr (Option.some.inj e).symm
      · rw [if_neg c1] at e
        exact .inl ⟨c, hc, e⟩
    · rintro (⟨c, hc, e⟩ | rfl)
      · refine ⟨c, hc, ?_⟩
        show (if c = s then some num else f c) = some r
        rw [if_neg (fun z : c = s => by rw [z, hf] at e; cases e)]
        exact e
      · refine ⟨s, hsT, ?_⟩
        show (if s = s then some r else f s) = some r
        rw [if_pos rfl]
/-- it came back with a way for the row that owned s -/
theorem WayMid.yes {r0 : Nat} {f1 : Nat → Option Nat} (P : WayPre L f T num) (M : WayMid L f T T1) (hs : s ∉ T1) (hf : f s = some r0) (hl : L num s) (Y : WayYes L f (T1 ++ [s]) r0 f1) : WayYes L f T num (setF f1 s num) := by
  have hsT : s ∉ T := fun z => hs (M.sub s z)
  have m1 : ∀ c, c ∈ T1 → c ∈ T1 ++ [s] := fun c h => List.mem_append_left _ h
  have ms : s ∈ T1 ++ [s] := List.mem_append_right _ (List.mem_singleton.mpr rfl)
  have out : ∀ c, c ∉ T1 → c ≠ s → c ∉ T1 ++ [s] := fun c h n z => by
    rcases List.mem_append.mp z with z | z
    · exact h z
    · exact n (List.mem_singleton.mp z)
  have sub : ∀ c, c ∉ T1 ++ [s] → c ∉ T := fun c h z => h (m1 c (M.sub c z))
  have r0n : r0 ≠ num := fun z => P.free s hsT (by rw [hf, z])
  have val : ∀ c, c ≠ s → setF f1 s num c = f1 c := fun c h => by
    show (if c = s then some num else f1 c) = f1 c
    rw [if_neg h]
  have vs : setF f1 s num s = some num := by
    show (if s = s then some num else f1 s) = some num
    rw [if_pos rfl]
  have old : ∀ c, c ∈ T1 → c ≠ s → setF f1 s num c = f c := fun c h n => by
    rw [val c n, Y.same c (m1 c h)]
  -- no other column outside T than s holds num
  have nonum : ∀ c, c ∉ T → c ≠ s → setF f1 s num c ≠ some num := fun c h n e => by
    by_cases c1 : c ∈ T1
    · rw [old c c1 n] at e
      exact P.free c h e
    · rw [val c n] at e
      rcases (Y.rows num).mp ⟨c, out c c1 n, e⟩ with ⟨c', h1, h2⟩ | z
      · exact P.free c' (sub c' h1) h2
      · exact r0n z.symm
  -- a column in T1 and one outside
  have cross : ∀ c c' r, c ∉ T → c ∈ T1 → c' ∉ T1 → c' ≠ s → f c = some r → f1 c' = some r → False := fun c c' r h c1 c1' n' e e' => by
    rcases (Y.rows r).mp ⟨c', out c' c1' n', e'⟩ with ⟨c2, h1, h2⟩ | z
    · have := P.inj c c2 r h (sub c2 h1) e h2
      rw [← this] at h1
      exact h1 (m1 c c1)
    · have := P.inj c s r0 h hsT (by rw [e, z]) hf
      rw [this] at c1
      exact hs c1
  refine ⟨fun c hc => ?_, fun c c' r h h' e e' => ?_, fun c r e => ?_, fun r => ?_⟩
  · have n : c ≠ s := fun z => hsT (z ▸ hc)
    exact old c (M.sub c hc) n
  · by_cases n : c = s
    · by_cases n' : c' = s
      · rw [n, n']
      · rw [n, vs] at e
        rw [← Option.some.inj e] at e'
        exact absurd e' (nonum c' h' n')
    · by_cases n' : c' = s
      · rw [n', vs] at e'
        rw [← Option.some.inj e'] at e
        exact absurd e (nonum c h n)
      · by_cases c1 : c ∈ T1
        · rw [old c c1 n] at e
          by_cases c1' : c' ∈ T1
          · rw [old c' c1' n'] at e'
            exact P.inj c c' r h h' e e'
          · rw [val c' n'] at e'
            exact (cross c c' r h c1 c1' n' e e').elim
        · rw [val c n] at e
          by_cases c1' : c' ∈ T1
          · rw [old c' c1' n'] at e'
            exact (cross c' c r h' c1' c1 n e' e).elim
          · rw [val c' n'] at e'
            exact Y.inj c c' r (out c c1 n) (out c' c1' n') e e'
  · by_cases n : c = s
    · rw [n, vs] at e
      rw [n, ← Option.some.inj e]
      exact hl
    · rw [val c n] at e
      exact Y.link c r e
  · constructor
    · rintro ⟨c, hc, e⟩
      by_cases n : c = s
      · rw [n, vs] at e
        exact .inr (Option.some.inj e).symm
      · by_cases c1 : c ∈ T1
        · rw [old c c1 n] at e
          exact .inl ⟨c, hc, e⟩
        · rw [val c n] at e
          rcases (Y.rows r).mp ⟨c, out c c1 n, e⟩ with ⟨c', h1, h2⟩ | z
          · exact .inl ⟨c', sub c' h1, h2⟩
          · exact .inl ⟨s, hsT, by rw [z]; exact hf⟩
    · rintro (⟨c, hc, e⟩ | rfl)
      · by_cases n : c = s
        · rw [n, hf] at e
          obtain ⟨c', h1, h2⟩ := (Y.rows r).mpr (.inr (Option.some.inj e).symm)
          have n' : c' ≠ s := fun z => h1 (z ▸ ms)
          exact ⟨c', sub c' h1, by rw [val c' n']; exact h2⟩
        · by_cases c1 : c ∈ T1
          · exact ⟨c, hc, by rw [old c c1 n]; exact e⟩
          · obtain ⟨c', h1, h2⟩ := (Y.rows r).mpr (.inl ⟨c, out c c1 n, e⟩)
            have n' : c' ≠ s := fun z => h1 (z ▸ ms)
            exact ⟨c', sub c' h1, by rw [val c' n']; exact h2⟩
      · exact ⟨s, hsT, vs⟩
end
end K77
end

section
set_option maxRecDepth 100000
set_option maxHeartbeats 4000000
namespace K77
open PySem L2 Evl
local macro_rules | `(tactic| walk_at "at") => `(tactic| first | assumption | exact Ex.get (by assumption) (by assumption))
local macro_rules | `(tactic| walk_at "sk") => `(tactic| first | assumption | exact SkyA.up (by assumption) (by assumption))
local macro_rules | `(tactic| walk_at "rv") => `(tactic| first
  | with_reducible exact rv_I0
  | with_reducible exact rv_isN
  | with_reducible exact rv_notN
  | (with_reducible show RV (rI (fun _ j => 0 < j) fun i j => .int (i % j)) _ _ _ _; exact rv_mod (by first | assumption | omega))
  | (with_reducible show RV (rI CMul _) _ _ _ _; exact rv_mul (by first | exact mul_l (by omega) | exact mul_r (by omega)))
  | (with_reducible show RV (rI CDiv _) _ _ _ _; exact rv_fdiv (div_ok (by omega)))
  | (with_reducible show RV (rIxT _) _ _ _ _; exact rv_tup (by walk_at "at") rfl)
  | (with_reducible show RV rEq _ _ _ _; exact rv_eq rfl)
  | (with_reducible show RV rNe _ _ _ _; exact rv_ne rfl))
local macro_rules | `(tactic| walk_at "ev") => `(tactic| first
  | (with_reducible show Ev (tVar _) _ _ _; exact ev_var rfl)
  | (with_reducible show Ev (tC _) _ _ _; exact ev_c)
  | (with_reducible show Ev (tOp (rIxL _) _ _) _ _ _; exact ev_num (by walk_at "at") (by assumption) (by walk_at "ev") (by walk_at "ev") (by omega) (by omega))
  | (with_reducible show Ev (tOp _ _ _) _ _ _; exact ev_op (by walk_at "ev") (by walk_at "ev") (by walk_at "rv"))
  | (with_reducible show Ev (tProp _ _ _ _ _) _ _ _; exact ev_sky (by walk_at "ev") (by walk_at "sk"))
  | (with_reducible show Ev (tCB rAbs _) _ _ _; exact ev_abs (by walk_at "ev"))
  | (with_reducible show Ev (tCB rMax _) _ _ _; exact ev_max (by walk_at "ev") (by walk_at "ev"))
  | (with_reducible show Ev (tCB rMin _) _ _ _; exact ev_min (by walk_at "ev") (by walk_at "ev"))
  | (with_reducible show Ev (tCB rInt _) _ _ _; exact ev_int (by walk_at "ev"))
  | (with_reducible show Ev (tCB rInt _) _ _ _; exact ev_intB (by walk_at "ev"))
  | (with_reducible show Ev (tChain _ _ _ _ _) _ _ _; exact ev_chain (by walk_at "ev") (by walk_at "ev") (by walk_at "ev"))
  | (with_reducible show Ev (tAndV _ _) _ _ _; exact ev_andV (by walk_at "ev") (fun _ => by walk_at "ev"))
  | (with_reducible show Ev (tOrV _ _) _ _ _; exact ev_orV (by walk_at "ev") (fun _ => by walk_at "ev"))
  | (with_reducible show Ev (tCB (rLenQ _) _) _ _ _; exact ev_lenL (by walk_at "ev") (by walk_at "at"))
  | (with_reducible show Ev (tCB (rLenQ _) _) _ _ _; exact ev_lenT (by walk_at "ev") (by walk_at "at"))
  | (with_reducible show Ev (tUn _ _) _ _ _; exact ev_un (by walk_at "ev") ru_neg))
local macro_rules | `(tactic| walk_at "et") => `(tactic| first
  | (with_reducible show EvT (tTest _) _ _ _; exact et_test (by walk_at "ev"))
  | (with_reducible show EvT (tB _) _ _ _; exact et_B (by walk_at "ev"))
  | (with_reducible show EvT (tNot _) _ _ _; exact et_not (by walk_at "et"))
  | (with_reducible show EvT (tAnd _ _) _ _ _; exact et_and (by walk_at "et") (fun _ => by walk_at "et"))
  | (with_reducible show EvT (tOr _ _) _ _ _; exact et_or (by walk_at "et") (fun _ => by walk_at "et"))
  | exact et_tru (by walk_at "ev") (by walk_at "at"))
local macro_rules | `(tactic| walk_at "ea") => `(tactic| first
  | (with_reducible show EvA tNil _ _ _; exact ea_nil)
  | (with_reducible show EvA (tCons _ _) _ _ _; exact ea_cons (by walk_at "ev") (by walk_at "ea")))
theorem pe_ownE {X : Cx} {x : PySem.Str} {k : Nat} {ps : List PySem.Str} {sp : Sp} {p pos : Pos} {e : Expr} {es : List Expr} {t : TA} (G : Kn X.prog X.w X.K X.mg X.base x k ps sp) (hr : Room k X.A) (ha : PA X (e :: es) t) (hg : Gl X x := by rfl)
    (hdb : (x == ("__debug__" : PySem.Str)) = false := by decide) (he : starEach (e :: es) X.env = (false, eval e X.env) :: starEach es X.env := by rfl) (hpl : (backTo pos (starEach es X.env)).any (·.1) = false := by rfl) :
    PE X (.Call (.Name x p) (e :: es) [] pos) (tCall sp [] E0 t) := pe_own G hr ha (Nat.le_refl _) hg hdb he hpl
theorem inV_dec (r : Nat) (rows : List Nat) : inV (nV r) (rows.map nV) = decide (r ∈ rows) := by
  rw [Bool.eq_iff_iff, decide_eq_true_eq]
  constructor
  · intro h
    unfold inV at h
    rw [List.any_eq_true] at h
    obtain ⟨x, hx, h2⟩ := h
    obtain ⟨c, hc, rfl⟩ := List.mem_map.mp hx
    have h3 : ((c : Int) == (r : Int)) = true ∨ ((r : Int) == (c : Int)) = true := by
      first | exact .inl h2 | exact .inr h2
    have : c = r := by
      rcases h3 with h3 | h3
      · have := eq_of_beq h3
        omega
      · have := eq_of_beq h3
        omega
    rw [← this]
    exact hc
  · exact inV_nV
section
variable {P : Program} {w : World} {K : PySem.W.Frag} {mg : PySem.Str → Option Value} {base : Heap}
/-- what the way finds and leaves: pairs at pl, owners at b, the columns tried at t -/
structure WayAt (L : Nat → Nat → Prop) (n pl b t : Nat) (ps : List V) (l : List (Nat × Nat)) (ow : List (Nat × Nat)) (T : List Nat) (H : Hp) : Prop where
  pairs : H pl = some (.lst ps)
  lst : Lst PN l ps H
  all : ∀ x y, (x, y) ∈ l ↔ L x y
  cols : ∀ r c, L r c → c < n
  few : n ≤ 100
  ne : pl ≠ t
  own : H b = some (.dK (dN ow))
  nd : Nd ow
  tr : H t = some (.lst (T.map nV))
  tnd : T.Nodup
  tl : ∀ c ∈ T, c < n
theorem WayAt.up {L : Nat → Nat → Prop} {n pl b t : Nat} {ps : List V} {l : List (Nat × Nat)} {ow : List (Nat × Nat)} {T : List Nat} {H H' : Hp} (e : Ex H H') (h : WayAt L n pl b t ps l ow T H) : WayAt L n pl b t ps l ow T H' :=
  ⟨e _ _ h.pairs, h.lst.up (fun d => (im_PN d).stb) e, h.all, h.cols, h.few, h.ne, e _ _ h.own, h.nd, e _ _ h.tr, h.tnd, h.tl⟩
theorem WayAt.len {L : Nat → Nat → Prop} {n pl b t : Nat} {ps : List V} {l : List (Nat × Nat)} {ow : List (Nat × Nat)} {T : List Nat} {H : Hp} (h : WayAt L n pl b t ps l ow T H) : T.length ≤ n := by
  have := len_le T (List.range n) h.tnd fun c hc => List.mem_range.mpr (h.tl c hc)
  rwa [List.length_range] at this
def spWay (m : Nat) : Sp := fun vs H Q _ => vs.length = 4 ∧ ∃ (L : Nat → Nat → Prop) (n pl b t : Nat) (ps : List V) (l : List (Nat × Nat)) (num : Nat) (ow : List (Nat × Nat)) (T : List Nat), vs = [.ref pl, nV num, .ref b, .ref t] ∧ WayAt L n pl b t ps l ow T H ∧ n < m + T.length ∧ WayPre L (lk ow) T num ∧
  ∀ (res : Bool) H' ow' T', Fr2 b t H H' → WayAt L n pl b t ps l ow' T' H' → (res = true → WayYes L (lk ow) T num (lk ow')) → (res = false → ow' = ow ∧ WayNo L (lk ow) T num T') → Q (.bl res) H'
theorem way0 {vs : List V} {H : Hp} {Q : VK} {E : XK} (h : spWay 0 vs H Q E) : False := by
  obtain ⟨_, L, n, pl, b, t, ps, l, num, ow, T, _, hW, hlt, _⟩ := h
  have := hW.len
  omega
abbrev s__law_way : Stmt := top 57
abbrev N__law_way : List PySem.Str := ["_law_pairs", "_law_number", "_law_owners", "_law_tried", "_law_first", "_law_second"]
theorem sc__law_way : FnScope N__law_way ["_law_pairs", "_law_number", "_law_owners", "_law_tried"] (defScope s__law_way) := ⟨rfl, rfl, rfl, by decide +kernel, rfl, by decide +kernel, by decide +kernel⟩
theorem kn_way (D : Df K mg "_law_way" s__law_way) : ∀ m, Kn P w K mg base "_law_way" m ["_law_pairs", "_law_number", "_law_owners", "_law_tried"] (spWay m)
  | 0 => by
    obtain ⟨f, fd, F, hm⟩ := D
    exact kn_mk F hm (F.binds (ps := ["_law_pairs", "_law_number", "_law_owners", "_law_tried"]) fun _ _ _ _ _ _ us hl => match us, hl with | [_, _, _, _], _ => rfl) ⟨fun vs H Q E h => h.1, fun _ _ _ _ _ _ _ _ _ _ _ _ _ h => (way0 h).elim⟩
  | m + 1 => by
    have G__law_way : Kn P w K mg base "_law_way" m ["_law_pairs", "_law_number", "_law_owners", "_law_tried"] (spWay m) := kn_way D m
    obtain ⟨f, fd, F, hm⟩ := D
    refine kn_mk F hm (F.binds (ps := ["_law_pairs", "_law_number", "_law_owners", "_law_tried"]) fun _ _ _ _ _ _ us hl => match us, hl with | [_, _, _, _], _ => rfl) ?_
    refine F.ok sc__law_way (fun vs H Q E h => h.1) (fun cdv A outer s H vs Q E hr h => ?_)
    have hu := hu_of hr
    have nd := sc__law_way.nd
    obtain ⟨_, L, n, pl, b, t, ps, l, num, ow, T, rfl, hW, hlt, hP, k⟩ := h
    refine ⟨_, (pss_cons (ps_for PassesOwn.never rfl (pi_list (pv 0)) (pg_tup rfl (pgs_cons (pg_name (i := 4) nd rfl (by first | exact Or.inl rfl | exact Or.inr rfl)) (pgs_cons (pg_name (i := 5) nd rfl (by first | exact Or.inl rfl | exact Or.inr rfl)) pgs_nil)))
      (pss_one (ps_if (PW.pt (pw_and (pt_cmpR op_eq (pv 4) (pv 1) (nomark _)) (pw_and1 (pt_cmpR op_notIn_seq (pv 5) (pv 3) (by rfl))))) (pss_cons (ps_expr (pe_bm PySem.F.plainAttrs_list PySem.F.slot_list_append PySem.F.type_list_append mt_append (pv 3) (pa_cons (pv 5) pa_nil)))
      (pss_one (ps_if (PW.pt (pw_or (pt_cmp (pc_dnotin hu (pv 5) (pv 2))) (pw_or1 (pt_val (pe_ownE G__law_way hr (pa_cons (pv 0) (pa_cons (pe_dget hu (pv 2) (pv 5) (fun _ _ => rfl)) (pa_cons (pv 2) (pa_cons (pv 3) pa_nil))))))))) (pss_cons (ps_dput hu (pv 2) (pv 5) (pv 1) rfl)
      (pss_one (ps_ret pe_bl))) pss_nil))) pss_nil)))
      (pss_one (ps_ret pe_bl))), ?_⟩
    have nbt : b ≠ t := fun z => by
      have := hW.own
      rw [z, hW.tr] at this
      cases this
    have npb : pl ≠ b := fun z => by
      have := hW.own
      rw [← z, hW.pairs] at this
      cases this
    refine q_forL (ev_var rfl) (sq_of hW.pairs) (fun i σ' H' => (∃ u4 u5, σ' = [some (.ref pl), some (nV num), some (.ref b), some (.ref t), u4, u5]) ∧ Fr2 b t H H' ∧ ∃ T1, WayAt L n pl b t ps l ow T1 H' ∧ WayMid L (lk ow) T T1 ∧ ∀ j c, j < i → l[j]? = some (num, c) → c ∈ T1) (fun H1 e1 => ⟨⟨_, _, rfl⟩, .of e1, T, hW.up e1, WayMid.zero, fun j c hj _ => absurd hj (Nat.not_lt_zero _)⟩) ?_ ?_ ?_
    · rintro i σ' H' _ ⟨_, _, T1, h1, _⟩
      exact sq_of h1.pairs
    · rintro i x σ' H' hi ⟨⟨u4, u5, rfl⟩, fr, T1, h1, M, hd⟩
      obtain ⟨⟨x1, y⟩, hxy, q, rfl, hq⟩ := h1.lst.2 i x hi
      have hLxy : L x1 y := (h1.all x1 y).mp (List.mem_of_getElem? hxy)
      have hyn := h1.cols _ _ hLxy
      refine g_tup2 hq ?_
      refine s_if (b := decide (V.int (x1 : Int) = V.int (num : Int)) && !decide (y ∈ T1)) (et_is (et_and (a := decide (V.int (x1 : Int) = V.int (num : Int))) (b := !inV (nV y) (T1.map nV)) (et_test (ev_op (ev_var rfl) (ev_var rfl) (rv_eq rfl))) (fun _ => et_test (ev_op (ev_var rfl) (ev_var rfl) (rv_niL (sq_of h1.tr) rfl (flat_nV T1))))) (by rw [inV_dec])) (fun hb H2 e2 => ?_) (fun hb H2 e2 => ?_)
      · rw [Bool.and_eq_true, decide_eq_true_eq, Bool.not_eq_true', decide_eq_false_iff_not] at hb
        obtain ⟨hb1, hs⟩ := hb
        have hxn : x1 = num := by
          injection hb1 with hb1
          omega
        subst hxn
        have h2 := h1.up e2
        have hT1 := h1.len
        refine q_app h2.tr (ev_var rfl) (ev_var rfl) (by rw [List.length_map]; have := h1.few; omega) fun H3 e3 => ?_
        have h3 := h2.up e3
        have n1 : b ≠ t := nbt
        have t4 : Tups H3 (upd H3 t (.lst (T1.map nV ++ [nV y]))) := Tups.lst h3.tr
        have h4 : WayAt L n pl b t ps l ow (T1 ++ [y]) (upd H3 t (.lst (T1.map nV ++ [nV y]))) := by
          refine ⟨by rw [upd_ne h3.ne]; exact h3.pairs, h3.lst.tups im_PN t4, h3.all, h3.cols, h3.few, h3.ne, by rw [upd_ne n1]; exact h3.own, h3.nd, by rw [upd_same, List.map_append] <;> rfl, ?_, fun c hc => ?_⟩
          · rw [List.nodup_append]
            exact ⟨h3.tnd, List.nodup_cons.mpr ⟨nofun, List.nodup_nil⟩, fun a ha c hc => by rw [List.mem_singleton.mp hc]; exact fun z => hs (z ▸ ha)⟩
          · rcases List.mem_append.mp hc with z | z
            · exact h3.tl c z
            · rw [List.mem_singleton.mp z]
              exact hyn
        have fr4 : Fr2 b t H (upd H3 t (.lst (T1.map nV ++ [nV y]))) := (fr.trans (.of (e2.trans e3))).b
        generalize (upd H3 t (.lst (T1.map nV ++ [nV y]))) = H4 at h4 fr4
        -- how owners[second] = number ends
        have fin : ∀ (H5 : Hp) (ow1 : List (Nat × Nat)) (T2 : List Nat), Fr2 b t H H5 → WayAt L n pl b t ps l ow1 T2 H5 → WayYes L (lk ow) T x1 (setF (lk ow1) y x1) → ∀ H6, Ex H5 H6 → Fr2 b t H (upd H6 b (.dK (dN (putN ow1 y x1)))) ∧ WayAt L n pl b t ps l (putN ow1 y x1) T2 (upd H6 b (.dK (dN (putN ow1 y x1)))) ∧ WayYes L (lk ow) T x1 (lk (putN ow1 y x1)) := fun H5 ow1 T2 fr5 h5 hy H6 e6 => by
          have h6 := h5.up e6
          have t6 : Tups H6 (upd H6 b (.dK (dN (putN ow1 y x1)))) := Tups.upd h6.own fun _ z => by cases z
          refine ⟨(fr5.trans (.of e6)).a, ⟨by rw [upd_ne npb]; exact h6.pairs, h6.lst.tups im_PN t6, h6.all, h6.cols, h6.few, h6.ne, upd_same, h6.nd.put y x1, by rw [upd_ne nbt.symm]; exact h6.tr, h6.tnd, h6.tl⟩, ?_⟩
          rw [show lk (putN ow1 y x1) = setF (lk ow1) y x1 from funext fun c => lk_put ow1 y x1 c]
          exact hy
        have short : ∀ (H5 : Hp) (ow1 : List (Nat × Nat)) (T2 : List Nat), WayAt L n pl b t ps l ow1 T2 H5 → (∀ c r, lk ow1 c = some r → L r c) → ow1.length < 100000 := fun H5 ow1 T2 h5 hl => by
          have := keys_few h5.nd fun p hp => h5.cols p.2 p.1 (hl p.1 p.2 (lk_in h5.nd hp))
          have := h5.few
          omega
        cases hO : lk ow y with
        | none =>
          refine s_if (b := true) (et_or (a := true) (b := true) (et_is (et_dnotin (c := y) (ev_var rfl) (ev_var rfl) h4.own) (by rw [hO]; rfl)) (fun z => by cases z)) (fun _ H5 e5 => ?_) (fun z => by cases z)
          have h5 := h4.up e5
          refine q_dput (r := x1) (c := y) (ev_var rfl) (ev_var rfl) (ev_var rfl) h5.own (short H5 ow _ h5 hP.link) fun H6 e6 => ?_
          obtain ⟨f1, f2, f3⟩ := fin H5 ow _ (fr4.trans (.of e5)) h5 (M.free hP hs hO hLxy) H6 e6
          exact s_ret ev_c fun H7 e7 => k true H7 _ _ (f1.trans (.of e7)) (f2.up e7) (fun _ => f3) (fun z => by cases z)
        | some r0 =>
          refine cpsT (σ := _) (et_dnotin (c := y) (ev_var rfl) (ev_var rfl) h4.own) fun H5 e5 => ?_
          rw [hO]
          refine iteF ?_
          have h5 := h4.up e5
          refine cpsC (σ := _) (ea_cons (ev_var rfl) (ea_cons (ev_dget (c := y) (ev_var rfl) (ev_var rfl) h5.own hO) (ea_cons (ev_var rfl) (ea_cons (ev_var rfl) ea_nil)))) fun H6 e6 => ?_
          refine ⟨rfl, L, n, pl, b, t, ps, l, r0, ow, T1 ++ [y], rfl, h5.up e6, ?_, M.call hP hs hO, fun res H7 ow' T' fr7 h7 hy hn => ?_⟩
          · have := len_le T T1 hW.tnd M.sub
            rw [List.length_append, List.length_singleton]
            omega
          · have fr47 : Fr2 b t H H7 := (fr4.trans (.of (e5.trans e6))).trans fr7
            refine ⟨res, rfl, ?_⟩
            cases res with
            | true =>
              refine iteT ?_
              have Y := hy rfl
              refine q_dput (r := x1) (c := y) (ev_var rfl) (ev_var rfl) (ev_var rfl) h7.own (short H7 ow' _ h7 Y.link) fun H8 e8 => ?_
              obtain ⟨f1, f2, f3⟩ := fin H7 ow' _ fr47 h7 (M.yes hP hs hO hLxy Y) H8 e8
              exact s_ret ev_c fun H9 e9 => k true H9 _ _ (f1.trans (.of e9)) (f2.up e9) (fun _ => f3) (fun z => by cases z)
            | false =>
              refine iteF ?_
              obtain ⟨rfl, N⟩ := hn rfl
              obtain ⟨M2, hy2⟩ := M.no hO N
              refine ⟨⟨_, _, rfl⟩, fr47, T', h7, M2, fun j c hj hc => ?_⟩
              rcases Nat.lt_succ_iff_lt_or_eq.mp hj with z | z
              · exact N.sub c (List.mem_append_left _ (hd j c z hc))
              · rw [z, hxy] at hc
                cases hc
                exact hy2
      · refine ⟨⟨_, _, rfl⟩, fr.trans (.of e2), T1, h1.up e2, M, fun j c hj hc => ?_⟩
        rcases Nat.lt_succ_iff_lt_or_eq.mp hj with z | z
        · exact hd j c z hc
        · rw [z, hxy] at hc
          cases hc
          simp at hb
          exact hb
    · rintro σ' H' ⟨⟨u4, u5, rfl⟩, fr, T1, h1, M, hd⟩
      refine s_ret ev_c fun H2 e2 => k false H2 ow T1 (fr.trans (.of e2)) (h1.up e2) (fun z => by cases z) fun _ => ⟨rfl, M.sub, fun c hc => ?_, M.shut⟩
      obtain ⟨j, h2, h3⟩ := List.mem_iff_getElem.mp ((h1.all num c).mpr hc)
      exact hd j c (by rw [h1.lst.1]; exact h2) (by rw [List.getElem?_eq_getElem h2, h3])
end
end K77
end

section
set_option maxRecDepth 100000
set_option maxHeartbeats 4000000
namespace K77
open PySem L2 Evl
local macro_rules | `(tactic| walk_at "at") => `(tactic| first | assumption | exact Ex.get (by assumption) (by assumption))
local macro_rules | `(tactic| walk_at "sk") => `(tactic| first | assumption | exact SkyA.up (by assumption) (by assumption))
local macro_rules | `(tactic| walk_at "rv") => `(tactic| first
  | with_reducible exact rv_I0
  | with_reducible exact rv_isN
  | with_reducible exact rv_notN
  | (with_reducible show RV (rI (fun _ j => 0 < j) fun i j => .int (i % j)) _ _ _ _; exact rv_mod (by first | assumption | omega))
  | (with_reducible show RV (rI CMul _) _ _ _ _; exact rv_mul (by first | exact mul_l (by omega) | exact mul_r (by omega)))
  | (with_reducible show RV (rI CDiv _) _ _ _ _; exact rv_fdiv (div_ok (by omega)))
  | (with_reducible show RV (rIxT _) _ _ _ _; exact rv_tup (by walk_at "at") rfl)
  | (with_reducible show RV rEq _ _ _ _; exact rv_eq rfl)
  | (with_reducible show RV rNe _ _ _ _; exact rv_ne rfl))
local macro_rules | `(tactic| walk_at "ev") => `(tactic| first
  | (with_reducible show Ev (tVar _) _ _ _; exact ev_var rfl)
  | (with_reducible show Ev (tC _) _ _ _; exact ev_c)
  | (with_reducible show Ev (tOp (rIxL _) _ _) _ _ _; exact ev_num (by walk_at "at") (by assumption) (by walk_at "ev") (by walk_at "ev") (by omega) (by omega))
  | (with_reducible show Ev (tOp _ _ _) _ _ _; exact ev_op (by walk_at "ev") (by walk_at "ev") (by walk_at "rv"))
  | (with_reducible show Ev (tProp _ _ _ _ _) _ _ _; exact ev_sky (by walk_at "ev") (by walk_at "sk"))
  | (with_reducible show Ev (tCB rAbs _) _ _ _; exact ev_abs (by walk_at "ev"))
  | (with_reducible show Ev (tCB rMax _) _ _ _; exact ev_max (by walk_at "ev") (by walk_at "ev"))
  | (with_reducible show Ev (tCB rMin _) _ _ _; exact ev_min (by walk_at "ev") (by walk_at "ev"))
  | (with_reducible show Ev (tCB rInt _) _ _ _; exact ev_int (by walk_at "ev"))
  | (with_reducible show Ev (tCB rInt _) _ _ _; exact ev_intB (by walk_at "ev"))
  | (with_reducible show Ev (tChain _ _ _ _ _) _ _ _; exact ev_chain (by walk_at "ev") (by walk_at "ev") (by walk_at "ev"))
  | (with_reducible show Ev (tAndV _ _) _ _ _; exact ev_andV (by walk_at "ev") (fun _ => by walk_at "ev"))
  | (with_reducible show Ev (tOrV _ _) _ _ _; exact ev_orV (by walk_at "ev") (fun _ => by walk_at "ev"))
  | (with_reducible show Ev (tCB (rLenQ _) _) _ _ _; exact ev_lenL (by walk_at "ev") (by walk_at "at"))
  | (with_reducible show Ev (tCB (rLenQ _) _) _ _ _; exact ev_lenT (by walk_at "ev") (by walk_at "at"))
  | (with_reducible show Ev (tUn _ _) _ _ _; exact ev_un (by walk_at "ev") ru_neg))
local macro_rules | `(tactic| walk_at "et") => `(tactic| first
  | (with_reducible show EvT (tTest _) _ _ _; exact et_test (by walk_at "ev"))
  | (with_reducible show EvT (tB _) _ _ _; exact et_B (by walk_at "ev"))
  | (with_reducible show EvT (tNot _) _ _ _; exact et_not (by walk_at "et"))
  | (with_reducible show EvT (tAnd _ _) _ _ _; exact et_and (by walk_at "et") (fun _ => by walk_at "et"))
  | (with_reducible show EvT (tOr _ _) _ _ _; exact et_or (by walk_at "et") (fun _ => by walk_at "et"))
  | exact et_tru (by walk_at "ev") (by walk_at "at"))
local macro_rules | `(tactic| walk_at "ea") => `(tactic| first
  | (with_reducible show EvA tNil _ _ _; exact ea_nil)
  | (with_reducible show EvA (tCons _ _) _ _ _; exact ea_cons (by walk_at "ev") (by walk_at "ea")))
/-! ### rows one by one: behind i rows -/
structure CovL (L : Nat → Nat → Prop) (rows : List Nat) (f : Nat → Option Nat) (D : List Nat) (i : Nat) : Prop where
  inj : ∀ c c' r, f c = some r → f c' = some r → c = c'
  link : ∀ c r, f c = some r → L r c
  inr : ∀ c r, f c = some r → r ∈ rows.take i
  sub : ∀ r ∈ D, r ∈ rows.take i
  closed : Closed L f D
  left : ∀ r ∈ rows.take i, (∀ c, f c ≠ some r) → r ∈ D
theorem CovL.zero {L : Nat → Nat → Prop} {rows : List Nat} {f : Nat → Option Nat} (hf : ∀ c, f c = none) : CovL L rows f [] 0 :=
  ⟨(fun c c' r h => by rw [hf] at h; cases h), (fun c r h => by rw [hf] at h; cases h), (fun c r h => by rw [hf] at h; cases h), nofun, nofun, (fun r h => by rw [List.take_zero] at h; cases h)⟩
/-- a closed lot stays closed as one row more is matched: its columns are as many as their owners -/
theorem closed_keep {L : Nat → Nat → Prop} {f f' : Nat → Option Nat} {D : List Nat} {n : Nat} (hn : ∀ r c, L r c → c < n) (hi : ∀ c c' r, f c = some r → f c' = some r → c = c') (hc : Closed L f D) (hl : ∀ c r, f' c = some r → L r c) (hr : ∀ c r, f c = some r → ∃ c', f' c' = some r) : Closed L f' D := by
  classical
  -- the columns that D sees
  let C := (List.range n).filter fun c => decide (∃ r ∈ D, L r c)
  have mC : ∀ c, c ∈ C ↔ ∃ r ∈ D, L r c := fun c => by
    show c ∈ (List.range n).filter _ ↔ _
    rw [List.mem_filter, List.mem_range, decide_eq_true_eq]
    exact ⟨fun h => h.2, fun ⟨r, h1, h2⟩ => ⟨hn r c h2, r, h1, h2⟩⟩
  have ndC : C.Nodup := List.nodup_range.filter _
  have own : ∀ c, c ∈ C → ∃ r', r' ∈ D ∧ f c = some r' := fun c h => by
    obtain ⟨r, h1, h2⟩ := (mC c).mp h
    obtain ⟨r', h3, h4⟩ := hc r h1 c h2
    exact ⟨r', h3, h4⟩
  -- each column's owner, and where it stands now
  let g : Nat → Nat := fun c => if h : ∃ c', ∃ r, f c = some r ∧ f' c' = some r then h.choose else 0
  have hg : ∀ c, c ∈ C → ∃ r, r ∈ D ∧ f c = some r ∧ f' (g c) = some r := fun c h => by
    obtain ⟨r, h1, h2⟩ := own c h
    obtain ⟨c', h3⟩ := hr c r h2
    have hx : ∃ c', ∃ r, f c = some r ∧ f' c' = some r := ⟨c', r, h2, h3⟩
    have : g c = hx.choose := dif_pos hx
    obtain ⟨r2, k1, k2⟩ := hx.choose_spec
    rw [← this] at k2
    rw [h2] at k1
    cases k1
    exact ⟨r, h1, h2, k2⟩
  have ndG : (C.map g).Nodup := nodup_map_inj ndC fun x hx y hy e => by
    obtain ⟨r, _, h2, h3⟩ := hg x hx
    obtain ⟨r', _, h5, h6⟩ := hg y hy
    rw [e, h6] at h3
    cases h3
    exact hi x y _ h2 h5
  have subG : ∀ c ∈ C.map g, c ∈ C := fun c h => by
    obtain ⟨x, hx, rfl⟩ := List.mem_map.mp h
    obtain ⟨r, h1, h2, h3⟩ := hg x hx
    exact (mC _).mpr ⟨r, h1, hl _ _ h3⟩
  have all : ∀ c ∈ C, c ∈ C.map g := fun c h => by
    by_cases q : c ∈ C.map g
    · exact q
    · have := len_le (c :: C.map g) C (List.nodup_cons.mpr ⟨q, ndG⟩) fun x hx => by
        rcases List.mem_cons.mp hx with z | z
        · rw [z]; exact h
        · exact subG x z
      rw [List.length_cons, List.length_map] at this
      omega
  intro r hrD c hL
  obtain ⟨x, hx, rfl⟩ := List.mem_map.mp (all c ((mC c).mpr ⟨r, hrD, hL⟩))
  obtain ⟨r', h1, _, h3⟩ := hg x hx
  exact ⟨r', h1, h3⟩
section
variable {L : Nat → Nat → Prop} {rows : List Nat} {f f' : Nat → Option Nat} {D T' : List Nat} {i num n : Nat}
theorem CovL.pre (hnd : rows.Nodup) (C : CovL L rows f D i) (h : rows[i]? = some num) : WayPre L f [] num := by
  refine ⟨fun c c' r _ _ => C.inj c c' r, fun c _ e => ?_, C.link⟩
  have h1 := C.inr c num e
  have h2 : (rows.take (i + 1)).Nodup := hnd.sublist (List.take_sublist _ _)
  rw [take_snoc h] at h2
  exact absurd rfl ((List.nodup_append.mp h2).2.2 num h1 num (List.mem_singleton.mpr rfl))
theorem CovL.yes (hn : ∀ r c, L r c → c < n) (C : CovL L rows f D i) (h : rows[i]? = some num) (Y : WayYes L f [] num f') : CovL L rows f' D (i + 1) := by
  have nT : ∀ c, c ∉ ([] : List Nat) := fun c => nofun
  refine ⟨fun c c' r => Y.inj c c' r (nT c) (nT c'), Y.link, fun c r e => ?_, fun r hr => ?_, closed_keep hn C.inj C.closed Y.link fun c r e => ?_, fun r hr hno => ?_⟩
  · rw [take_snoc h]
    rcases (Y.rows r).mp ⟨c, nT c, e⟩ with ⟨c', _, h2⟩ | z
    · exact List.mem_append_left _ (C.inr c' r h2)
    · rw [z]
      exact List.mem_append_right _ (List.mem_singleton.mpr rfl)
  · rw [take_snoc h]
    exact List.mem_append_left _ (C.sub r hr)
  · obtain ⟨c', _, h2⟩ := (Y.rows r).mpr (.inl ⟨c, nT c, e⟩)
    exact ⟨c', h2⟩
  · rw [take_snoc h] at hr
    rcases List.mem_append.mp hr with z | z
    · refine C.left r z fun c e => ?_
      obtain ⟨c', _, h2⟩ := (Y.rows r).mpr (.inl ⟨c, nT c, e⟩)
      exact hno c' h2
    · obtain ⟨c', _, h2⟩ := (Y.rows r).mpr (.inr (List.mem_singleton.mp z))
      exact absurd h2 (hno c')
theorem CovL.no (C : CovL L rows f D i) (h : rows[i]? = some num) (N : WayNo L f [] num T') : CovL L rows f (D ++ num :: T'.filterMap f) (i + 1) := by
  have nT : ∀ c, c ∉ ([] : List Nat) := fun c => nofun
  refine ⟨C.inj, C.link, fun c r e => ?_, fun r hr => ?_, fun r hr c hL => ?_, fun r hr hno => ?_⟩
  · rw [take_snoc h]
    exact List.mem_append_left _ (C.inr c r e)
  · rw [take_snoc h]
    rcases List.mem_append.mp hr with z | z
    · exact List.mem_append_left _ (C.sub r z)
    · rcases List.mem_cons.mp z with z | z
      · rw [z]
        exact List.mem_append_right _ (List.mem_singleton.mpr rfl)
      · obtain ⟨c, _, e⟩ := List.mem_filterMap.mp z
        exact List.mem_append_left _ (C.inr c r e)
  · rcases List.mem_append.mp hr with z | z
    · obtain ⟨r', h1, h2⟩ := C.closed r z c hL
      exact ⟨r', List.mem_append_left _ h1, h2⟩
    · have hc : c ∈ T' := by
        rcases List.mem_cons.mp z with z | z
        · rw [z] at hL
          exact N.own c hL
        · obtain ⟨c0, h0, e⟩ := List.mem_filterMap.mp z
          obtain ⟨r2, e2, h2⟩ := N.shut c0 h0 (nT c0)
          rw [e] at e2
          cases e2
          exact h2 c hL
      obtain ⟨r2, e2, _⟩ := N.shut c hc (nT c)
      exact ⟨r2, List.mem_append_right _ (List.mem_cons_of_mem _ (List.mem_filterMap.mpr ⟨c, hc, e2⟩)), e2⟩
  · rw [take_snoc h] at hr
    rcases List.mem_append.mp hr with z | z
    · exact List.mem_append_left _ (C.left r z hno)
    · rw [List.mem_singleton.mp z]
      exact List.mem_append_right _ (List.mem_cons_self ..)
theorem CovL.cover {ow : List (Nat × Nat)} (hnd : rows.Nodup) (hO : Nd ow) (C : CovL L rows (lk ow) D rows.length) : Cover rows L ow (rows.filter fun r => decide (r ∈ D)) := by
  have inr : ∀ c r, lk ow c = some r → r ∈ rows := fun c r h => by
    have := C.inr c r h
    rwa [List.take_length] at this
  refine ⟨hO, nodup_map_inj (nodup_of_keys hO) fun p hp q hq e => ?_, fun p hp => C.link _ _ (lk_in hO hp), fun p hp => inr _ _ (lk_in hO hp), hnd.filter _, fun r hr => (List.mem_filter.mp hr).1, fun r hr c hl => ?_, fun r hr hv => ?_⟩
  · have h1 := lk_in hO hp
    have h2 := lk_in hO hq
    have e' : p.2 = q.2 := e
    rw [e'] at h1
    exact Prod.ext (C.inj _ _ _ h1 h2) e'
  · obtain ⟨r', h1, h2⟩ := C.closed r (of_decide_eq_true (List.mem_filter.mp hr).2) c hl
    exact ⟨r', List.mem_filter.mpr ⟨inr c r' h2, decide_eq_true h1⟩, (lk_mem hO).mpr h2⟩
  · exact List.mem_filter.mpr ⟨hr, decide_eq_true (C.left r (by rw [List.take_length]; exact hr) fun c e => hv ((lk_val hO).mpr ⟨c, e⟩))⟩
end
section
variable {P : Program} {w : World} {K : PySem.W.Frag} {mg : PySem.Str → Option Value} {base : Heap}
/-! ### _law_at_once, _law_lack, _law_unlike -/
def OnceV (L : Nat → Nat → Prop) (rows : List Nat) : PH := IntP fun k => ∃ ow D, Cover rows L ow D ∧ k = (ow.length : Int)
def spOnce : Sp := SpG 2 fun vs H R => ∃ (L : Nat → Nat → Prop) (n pl kp : Nat) (ps : List V) (l : List (Nat × Nat)) (rows : List Nat), vs = [.ref pl, .ref kp] ∧ H pl = some (.lst ps) ∧ Lst PN l ps H ∧ (∀ x y, (x, y) ∈ l ↔ L x y) ∧ (∀ r c, L r c → c < n) ∧ n ≤ 20 ∧ H kp = some (.lst (rows.map nV)) ∧ rows.Nodup ∧ R = OnceV L rows
abbrev s__law_at_once : Stmt := top 58
abbrev N__law_at_once : List PySem.Str := ["_law_pairs", "_law_numbers_here", "_law_owners", "_law_number"]
theorem sc__law_at_once : FnScope N__law_at_once ["_law_pairs", "_law_numbers_here"] (defScope s__law_at_once) := ⟨rfl, rfl, rfl, by decide +kernel, rfl, by decide +kernel, by decide +kernel⟩
theorem ok__law_at_once (B : Bl mg) (G__law_way : Kn P w K mg base "_law_way" 21 ["_law_pairs", "_law_number", "_law_owners", "_law_tried"] (spWay 21)) (D : Df K mg "_law_at_once" s__law_at_once) : Kn P w K mg base "_law_at_once" 22 ["_law_pairs", "_law_numbers_here"] spOnce := by
  obtain ⟨f, fd, F, hm⟩ := D
  refine kn_mk F hm (F.binds (ps := ["_law_pairs", "_law_numbers_here"]) fun _ _ _ _ _ _ us hl => match us, hl with | [_, _], _ => rfl) ?_
  refine F.ok sc__law_at_once (fun vs H Q E h => h.1) (fun cdv A outer s H vs Q E hr h => ?_)
  have hu := hu_of hr
  have nd := sc__law_at_once.nd
  obtain ⟨_, R, ⟨L, n, pl, kp, ps, l, rows, rfl, hps, hL, hall, hcol, hn, hk, hnd, rfl⟩, k⟩ := h
  refine ⟨_, (pss_cons (ps_set (i := 2) nd rfl (by first | exact Or.inl rfl | exact Or.inr rfl) pe_dnewK)
      (pss_cons (ps_for PassesOwn.never rfl (pi_list (pv 1)) (pg_name (i := 3) nd rfl (by first | exact Or.inl rfl | exact Or.inr rfl))
      (pss_one (ps_expr (pe_own G__law_way hr (pa_cons (pv 0) (pa_cons (pv 3) (pa_cons (pv 2) (pa_cons (pe_lst pa_nil) pa_nil))))))))
      (pss_one (ps_ret (pe_callB call_lenD (by rfl) B.len (by decide +kernel) (pa_cons (pv 2) pa_nil)))))), ?_⟩
  refine q_dnew fun b hb => ?_
  have e1 : Ex H (upd H b (.dK [])) := Ex.new hb
  refine q_forL (xs := rows.map nV) (by walk_at "ev") (sq_of (e1 _ _ hk)) (fun i σ' H' => ∃ ow D u, σ' = [some (.ref pl), some (.ref kp), some (.ref b), u] ∧ Ex H H' ∧ H' b = some (.dK (dN ow)) ∧ Nd ow ∧ CovL L rows (lk ow) D i) (fun H1 e2 => ⟨[], [], _, rfl, e1.trans e2, e2 _ _ upd_same, List.nodup_nil, CovL.zero fun _ => rfl⟩) ?_ ?_ ?_
  · rintro i σ' H' _ ⟨_, _, _, _, e, _⟩
    exact sq_of (e _ _ hk)
  · rintro i x σ' H' hi ⟨ow, D, u, rfl, e, ho, hO, C⟩
    obtain ⟨num, hnum, rfl⟩ : ∃ r, rows[i]? = some r ∧ x = nV r := by
      rw [List.getElem?_map] at hi
      obtain ⟨c, h1, h2⟩ := Option.map_eq_some_iff.mp hi
      exact ⟨c, h1, h2.symm⟩
    refine ⟨_, rfl, _, rfl, _, rfl, sz_of (Nat.zero_le _), fun t ht => ?_⟩
    have e2 : Ex H' (upd H' t (.lst [])) := Ex.new ht
    have e02 := e.trans e2
    have ht0 : H t = none := fresh_back e ht
    have hnt : pl ≠ t := fun z => by rw [← z, e _ _ hps] at ht; cases ht
    refine ⟨rfl, L, n, pl, b, t, ps, l, num, ow, [], rfl, ⟨e02 _ _ hps, hL.up (fun d => (im_PN d).stb) e02, hall, hcol, by omega, hnt, e2 _ _ ho, hO, upd_same, List.nodup_nil, nofun⟩, (by show n < 21 + 0; omega), C.pre hnd hnum, fun res H3 ow' T' fr hW hy hno => ?_⟩
    have e3 : Ex H H3 := fun y o hy => fr y o (e02 y o hy) (fun z => by rw [z, hb] at hy; cases hy) (fun z => by rw [z, ht0] at hy; cases hy)
    cases res with
    | true => exact ⟨ow', D, _, rfl, e3, hW.own, hW.nd, C.yes hcol hnum (hy rfl)⟩
    | false =>
      obtain ⟨rfl, N⟩ := hno rfl
      exact ⟨ow', _, _, rfl, e3, hW.own, hW.nd, C.no hnum N⟩
  · rintro σ' H' ⟨ow, D, u, rfl, e, ho, hO, C⟩
    rw [List.length_map] at C
    refine ⟨.ref b, rfl, b, _, rfl, ho, ?_⟩
    refine k _ H' e ⟨_, rfl, ow, _, C.cover hnd hO, ?_⟩
    rw [dN_len]
theorem use_once {L : Nat → Nat → Prop} {n pl kp : Nat} {ps : List V} {l : List (Nat × Nat)} {rows : List Nat} {H : Hp} (hps : H pl = some (.lst ps)) (hL : Lst PN l ps H) (hall : ∀ x y, (x, y) ∈ l ↔ L x y) (hcol : ∀ r c, L r c → c < n) (hn : n ≤ 20) (hk : H kp = some (.lst (rows.map nV))) (hnd : rows.Nodup) :
    SpP spOnce [.ref pl, .ref kp] H (OnceV L rows) := spg fun _ e => ⟨L, n, pl, kp, ps, l, rows, rfl, e _ _ hps, hL.up (fun d => (im_PN d).stb) e, hall, hcol, hn, e _ _ hk, hnd, rfl⟩
def spLLack : Sp := SpG 3 fun vs H R => ∃ S a b v1 v2 v3, vs = [v1, v2, v3] ∧ PartsAt S v1 H ∧ T3 a v2 H ∧ T3 b v3 H ∧ SkGood S ∧ AttOk S.n a ∧ AttOk S.n b ∧ R = LackV S a b
abbrev s__law_lack : Stmt := top 59
abbrev N__law_lack : List PySem.Str := ["_law_parts_here", "_law_one", "_law_other", "_law_held"]
theorem sc__law_lack : FnScope N__law_lack ["_law_parts_here", "_law_one", "_law_other"] (defScope s__law_lack) := ⟨rfl, rfl, rfl, by decide +kernel, rfl, by decide +kernel, by decide +kernel⟩
theorem ok__law_lack (B : Bl mg) (G__law_sure : Kn P w K mg base "_law_sure" 3 ["_law_parts_here", "_law_attitude_here"] spLSure) (G__law_links : Kn P w K mg base "_law_links" 4 ["_law_parts_here", "_law_one", "_law_other"] spLLinks) (G__law_at_once : Kn P w K mg base "_law_at_once" 22 ["_law_pairs", "_law_numbers_here"] spOnce) (D : Df K mg "_law_lack" s__law_lack) : Kn P w K mg base "_law_lack" 23 ["_law_parts_here", "_law_one", "_law_other"] spLLack := by
  obtain ⟨f, fd, F, hm⟩ := D
  refine kn_mk F hm (F.binds (ps := ["_law_parts_here", "_law_one", "_law_other"]) fun _ _ _ _ _ _ us hl => match us, hl with | [_, _, _], _ => rfl) ?_
  refine F.ok sc__law_lack (fun vs H Q E h => h.1) (fun cdv A outer s H vs Q E hr h => ?_)
  have hu := hu_of hr
  have nd := sc__law_lack.nd
  obtain ⟨_, R, ⟨S, a, b, v1, v2, v3, rfl, hP, ha, hb, hg, hat, hbt, rfl⟩, k⟩ := h
  refine ⟨_, (pss_cons (ps_set (i := 3) nd rfl (by first | exact Or.inl rfl | exact Or.inr rfl) (pe_own G__law_sure hr (pa_cons (pv 0) (pa_cons (pv 1) pa_nil))))
      (pss_one (ps_ret (pe_op op_sub (pe_callB call_len_seq (by rfl) B.len (by decide +kernel) (pa_cons (pv 3) pa_nil)) (pe_own G__law_at_once hr (pa_cons (pe_own G__law_links hr (pa_cons (pv 0) (pa_cons (pv 1) (pa_cons (pv 2) pa_nil)))) (pa_cons (pv 3) pa_nil))))))), ?_⟩
  refine q_asgP (evp_call (by walk_at "ea") (use_lsure hP ha hg hat)) fun v H1 e1 ⟨q, hv, hq⟩ => ?_
  subst hv
  refine s_retP (EvP.imp (R' := LackV S a b) (evp_opI (p2 := fun j => ∃ ow D, Cover (S.sureL a) (S.link a b) ow D ∧ j = (ow.length : Int)) (evp_int (ev_lenL (ev_var rfl) hq)) (evp_callP (eap_cons (evp_call (by walk_at "ea") (use_llinks (hP.up e1) (ha.up e1) (hb.up e1) hg hat hbt)) fun v2 H2 e2 ⟨pl, ps, l, hv2, hps, hL, hall, _⟩ => eap_of (ea_cons (ev_var rfl) ea_nil) fun H3 e3 => ?_))) fun v H2 e2 r => ?_) fun v H2 e2 r => k v H2 (e1.trans e2) r
  · subst hv2
    exact use_once (n := S.st.length) (e3 _ _ hps) (hL.up (fun d => (im_PN d).stb) e3) hall (fun r c h => h.2.1.1) hg.st.few ((e2.trans e3) _ _ hq) (S.sureL_nd a)
  · obtain ⟨i, j, hi, ⟨ow, D, hc, hj⟩, rfl⟩ := r
    refine ⟨_, rfl, (S.sureL a).length - ow.length, ⟨ow, D, hc, rfl⟩, ?_⟩
    have := most_le hc
    rw [hi, hj, List.length_map]
    omega
theorem use_llack {S : Sk} {a b : Att} {v1 v2 v3 : V} {H : Hp} (hP : PartsAt S v1 H) (ha : T3 a v2 H) (hb : T3 b v3 H) (hg : SkGood S) (hat : AttOk S.n a) (hbt : AttOk S.n b) : SpP spLLack [v1, v2, v3] H (LackV S a b) := spg fun _ e => ⟨S, a, b, v1, v2, v3, rfl, hP.up e, ha.up e, hb.up e, hg, hat, hbt, rfl⟩
def spLUnl : Sp := SpG 3 fun vs H R => ∃ S a b v1 v2 v3, vs = [v1, v2, v3] ∧ PartsAt S v1 H ∧ T3 a v2 H ∧ T3 b v3 H ∧ SkGood S ∧ AttOk S.n a ∧ AttOk S.n b ∧ R = UnlV S a b
abbrev s__law_unlike : Stmt := top 60
abbrev N__law_unlike : List PySem.Str := ["_law_parts_here", "_law_one", "_law_other"]
theorem sc__law_unlike : FnScope N__law_unlike ["_law_parts_here", "_law_one", "_law_other"] (defScope s__law_unlike) := ⟨rfl, rfl, rfl, by decide +kernel, rfl, by decide +kernel, by decide +kernel⟩
theorem ok__law_unlike (B : Bl mg) (G__law_lack : Kn P w K mg base "_law_lack" 23 ["_law_parts_here", "_law_one", "_law_other"] spLLack) (D : Df K mg "_law_unlike" s__law_unlike) : Kn P w K mg base "_law_unlike" 24 ["_law_parts_here", "_law_one", "_law_other"] spLUnl := by
  obtain ⟨f, fd, F, hm⟩ := D
  refine kn_mk F hm (F.binds (ps := ["_law_parts_here", "_law_one", "_law_other"]) fun _ _ _ _ _ _ us hl => match us, hl with | [_, _, _], _ => rfl) ?_
  refine F.ok sc__law_unlike (fun vs H Q E h => h.1) (fun cdv A outer s H vs Q E hr h => ?_)
  have hu := hu_of hr
  have nd := sc__law_unlike.nd
  obtain ⟨_, R, ⟨S, a, b, v1, v2, v3, rfl, hP, ha, hb, hg, hat, hbt, rfl⟩, k⟩ := h
  refine ⟨_, (pss_one (ps_ret (pe_callB (call_max2 rfl) (by rfl) B.max (by decide +kernel) (pa_cons (pe_own G__law_lack hr (pa_cons (pv 0) (pa_cons (pv 1) (pa_cons (pv 2) pa_nil)))) (pa_cons (pe_own G__law_lack hr (pa_cons (pv 0) (pa_cons (pv 2) (pa_cons (pv 1) pa_nil)))) pa_nil))))), ?_⟩
  refine s_retP (evp_max (evp_call (by walk_at "ea") (use_llack hP ha hb hg hat hbt)) (evp_call (by walk_at "ea") (use_llack hP hb ha hg hbt hat))) fun v H1 e r => k v H1 e ?_
  obtain ⟨_, rfl, _, _, ⟨i, hi, rfl⟩, ⟨j, hj, rfl⟩, rfl⟩ := r
  exact ⟨_, rfl, _, ⟨i, j, hi, hj, rfl⟩, imax_nat i j⟩
theorem use_lunl {S : Sk} {a b : Att} {v1 v2 v3 : V} {H : Hp} (hP : PartsAt S v1 H) (ha : T3 a v2 H) (hb : T3 b v3 H) (hg : SkGood S) (hat : AttOk S.n a) (hbt : AttOk S.n b) : SpP spLUnl [v1, v2, v3] H (UnlV S a b) := spg fun _ e => ⟨S, a, b, v1, v2, v3, rfl, hP.up e, ha.up e, hb.up e, hg, hat, hbt, rfl⟩
def spLIsCam : Sp := SpG 2 fun vs H R => ∃ n c v, vs = [.int n, v] ∧ T4 c v H ∧ R = is (.bl (decide (c.r ≤ 4) && (decide (c.b ≤ imin 2 c.r) && (decide (2 * (c.r + c.b) + 1 ≤ n) && (decide (c.g ≤ 2) && decide (1 ≤ c.l))))))
abbrev s__law_is_camera : Stmt := top 61
abbrev N__law_is_camera : List PySem.Str := ["_law_side", "_law_camera_here", "_law_reach", "_law_blur", "_law_glare", "_law_limit"]
theorem sc__law_is_camera : FnScope N__law_is_camera ["_law_side", "_law_camera_here"] (defScope s__law_is_camera) := ⟨rfl, rfl, rfl, by decide +kernel, rfl, by decide +kernel, by decide +kernel⟩
theorem ok__law_is_camera (B : Bl mg) (D : Df K mg "_law_is_camera" s__law_is_camera) : Kn P w K mg base "_law_is_camera" 1 ["_law_side", "_law_camera_here"] spLIsCam := by
  obtain ⟨f, fd, F, hm⟩ := D
  refine kn_mk F hm (F.binds (ps := ["_law_side", "_law_camera_here"]) fun _ _ _ _ _ _ us hl => match us, hl with | [_, _], _ => rfl) ?_
  refine F.ok sc__law_is_camera (fun vs H Q E h => h.1) (fun cdv A outer s H vs Q E hr h => ?_)
  have hu := hu_of hr
  have nd := sc__law_is_camera.nd
  obtain ⟨_, R, ⟨n, c, v, rfl, ⟨p, rfl, hp⟩, rfl⟩, k⟩ := h
  refine ⟨_, (pss_cons (ps_asg (pv 1) (pg_tup rfl (pgs_cons (pg_name (i := 2) nd rfl (by first | exact Or.inl rfl | exact Or.inr rfl)) (pgs_cons (pg_name (i := 3) nd rfl (by first | exact Or.inl rfl | exact Or.inr rfl)) (pgs_cons (pg_name (i := 4) nd rfl (by first | exact Or.inl rfl | exact Or.inr rfl)) (pgs_cons (pg_name (i := 5) nd rfl (by first | exact Or.inl rfl | exact Or.inr rfl)) pgs_nil))))))
      (pss_one (ps_ret (pe_and (pe_cmpR op_le (pv 2) pe_int (nomark _)) (pe_and (pe_cmpR op_le (pv 3) (pe_callB (call_min2 rfl) (by rfl) B.min (by decide +kernel) (pa_cons pe_int (pa_cons (pv 2) pa_nil))) (nomark _)) (pe_and (pe_cmpR op_le (pe_op op_add (pe_op op_mul pe_int (pe_op op_add (pv 2) (pv 3))) pe_int) (pv 0) (nomark _)) (pe_and (pe_cmpR op_le (pv 4) pe_int (nomark _)) (pe_one (pe_cmpR op_ge (pv 5) pe_int (nomark _)))))))))), ?_⟩
  refine q_unp4 (by walk_at "ev") hp fun H1 e1 => ?_
  exact s_ret (by walk_at "ev") fun H2 e2 => k _ H2 (e1.trans e2) rfl
theorem use_lisCam {n : Int} {c : Cam} {v : V} {H : Hp} (h : T4 c v H) : SpV spLIsCam [.int n, v] H (.bl (decide (c.r ≤ 4) && (decide (c.b ≤ imin 2 c.r) && (decide (2 * (c.r + c.b) + 1 ≤ n) && (decide (c.g ≤ 2) && decide (1 ≤ c.l)))))) := spgV fun _ e => ⟨n, c, v, rfl, h.up e, rfl⟩
end
end K77
end

section
set_option maxRecDepth 100000
set_option maxHeartbeats 4000000
namespace K77
open PySem L2 Evl PyProof.Rows
local macro_rules | `(tactic| walk_at "at") => `(tactic| first | assumption | exact Ex.get (by assumption) (by assumption))
local macro_rules | `(tactic| walk_at "sk") => `(tactic| first | assumption | exact SkyA.up (by assumption) (by assumption))
local macro_rules | `(tactic| walk_at "rv") => `(tactic| first
  | with_reducible exact rv_I0
  | with_reducible exact rv_isN
  | with_reducible exact rv_notN
  | (with_reducible show RV (rI (fun _ j => 0 < j) fun i j => .int (i % j)) _ _ _ _; exact rv_mod (by first | assumption | omega))
  | (with_reducible show RV (rI CMul _) _ _ _ _; exact rv_mul (by first | exact mul_l (by omega) | exact mul_r (by omega)))
  | (with_reducible show RV (rI CDiv _) _ _ _ _; exact rv_fdiv (div_ok (by omega)))
  | (with_reducible show RV (rIxT _) _ _ _ _; exact rv_tup (by walk_at "at") rfl)
  | (with_reducible show RV rEq _ _ _ _; exact rv_eq rfl)
  | (with_reducible show RV rNe _ _ _ _; exact rv_ne rfl))
local macro_rules | `(tactic| walk_at "ev") => `(tactic| first
  | (with_reducible show Ev (tVar _) _ _ _; exact ev_var rfl)
  | (with_reducible show Ev (tC _) _ _ _; exact ev_c)
  | (with_reducible show Ev (tOp (rIxL _) _ _) _ _ _; exact ev_num (by walk_at "at") (by assumption) (by walk_at "ev") (by walk_at "ev") (by omega) (by omega))
  | (with_reducible show Ev (tOp _ _ _) _ _ _; exact ev_op (by walk_at "ev") (by walk_at "ev") (by walk_at "rv"))
  | (with_reducible show Ev (tProp _ _ _ _ _) _ _ _; exact ev_sky (by walk_at "ev") (by walk_at "sk"))
  | (with_reducible show Ev (tCB rAbs _) _ _ _; exact ev_abs (by walk_at "ev"))
  | (with_reducible show Ev (tCB rMax _) _ _ _; exact ev_max (by walk_at "ev") (by walk_at "ev"))
  | (with_reducible show Ev (tCB rMin _) _ _ _; exact ev_min (by walk_at "ev") (by walk_at "ev"))
  | (with_reducible show Ev (tCB rInt _) _ _ _; exact ev_int (by walk_at "ev"))
  | (with_reducible show Ev (tCB rInt _) _ _ _; exact ev_intB (by walk_at "ev"))
  | (with_reducible show Ev (tChain _ _ _ _ _) _ _ _; exact ev_chain (by walk_at "ev") (by walk_at "ev") (by walk_at "ev"))
  | (with_reducible show Ev (tAndV _ _) _ _ _; exact ev_andV (by walk_at "ev") (fun _ => by walk_at "ev"))
  | (with_reducible show Ev (tOrV _ _) _ _ _; exact ev_orV (by walk_at "ev") (fun _ => by walk_at "ev"))
  | (with_reducible show Ev (tCB (rLenQ _) _) _ _ _; exact ev_lenL (by walk_at "ev") (by walk_at "at"))
  | (with_reducible show Ev (tCB (rLenQ _) _) _ _ _; exact ev_lenT (by walk_at "ev") (by walk_at "at"))
  | (with_reducible show Ev (tUn _ _) _ _ _; exact ev_un (by walk_at "ev") ru_neg))
local macro_rules | `(tactic| walk_at "et") => `(tactic| first
  | (with_reducible show EvT (tTest _) _ _ _; exact et_test (by walk_at "ev"))
  | (with_reducible show EvT (tB _) _ _ _; exact et_B (by walk_at "ev"))
  | (with_reducible show EvT (tNot _) _ _ _; exact et_not (by walk_at "et"))
  | (with_reducible show EvT (tAnd _ _) _ _ _; exact et_and (by walk_at "et") (fun _ => by walk_at "et"))
  | (with_reducible show EvT (tOr _ _) _ _ _; exact et_or (by walk_at "et") (fun _ => by walk_at "et"))
  | exact et_tru (by walk_at "ev") (by walk_at "at"))
local macro_rules | `(tactic| walk_at "ea") => `(tactic| first
  | (with_reducible show EvA tNil _ _ _; exact ea_nil)
  | (with_reducible show EvA (tCons _ _) _ _ _; exact ea_cons (by walk_at "ev") (by walk_at "ea")))
/-! ### the texts of three small numbers -/
def dat3 (a b c : Nat) : PyData := .list [.int (a : Int), .int (b : Int), .int (c : Int)]
theorem small_text : ∀ a : Nat, a < 21 → (toString (a : Int) : PySem.Str).length ≤ 2 := by decide +kernel
theorem small_log : ∀ a : Nat, a < 21 → decide ((Int.natAbs (a : Int)).log2 < 1920) = true := by decide +kernel
theorem dat3_show {a b c : Nat} (ha : a < 21) (hb : b < 21) (hc : c < 21) : (dat3 a b c).showable = true := by
  simp only [dat3, PyData.showable, PyData.showableAll, small_log a ha, small_log b hb, small_log c hc, Bool.and_true]
theorem dat3_nod (a b c : Nat) : (dat3 a b c).hasDict = false := by simp [dat3, PyData.hasDict, PyData.hasDictAll]
theorem dat3_dep (a b c : Nat) : (dat3 a b c).depth ≤ 8 := by simp [dat3, PyData.depth, PyData.depthAll]
theorem dat3_len {a b c : Nat} (ha : a < 21) (hb : b < 21) (hc : c < 21) : (dat3 a b c).shown.length ≤ sizeLine := by
  have h1 := small_text a ha
  have h2 := small_text b hb
  have h3 := small_text c hc
  simp only [dat3, PyData.shown, PyData.shownAll, listText, textFrom, strLen_append]
  have k0 : ((if (0 : Nat) > 0 then ", " else "" : String) : PySem.Str).length ≤ 2 := by decide +kernel
  have k1 : ((if 0 + 1 > 0 then ", " else "" : String) : PySem.Str).length ≤ 2 := by decide +kernel
  have k2 : ((if 0 + 1 + 1 > 0 then ", " else "" : String) : PySem.Str).length ≤ 2 := by decide +kernel
  have k3 : (("[" : String) : PySem.Str).length ≤ 1 := by decide +kernel
  have k4 : (("]" : String) : PySem.Str).length ≤ 1 := by decide +kernel
  refine Nat.le_trans ?_ (show 20 ≤ sizeLine by decide)
  omega
theorem Lack_few {S : Sk} {a b : Att} {k : Nat} (h : S.Lack a b k) (hs : S.st.length ≤ 20) : k < 21 := by
  obtain ⟨own, D, _, rfl⟩ := h
  have := rf_len (fun i => decide (S.sure a i)) S.st.length
  have e : (S.sureL a).length ≤ S.st.length := this
  omega
theorem Unl_few {S : Sk} {a b : Att} {k : Nat} (h : S.Unl a b k) (hs : S.st.length ≤ 20) : k < 21 := by
  obtain ⟨i, j, hi, hj, rfl⟩ := h
  have := Lack_few hi hs
  have := Lack_few hj hs
  omega
theorem Unl_one {S : Sk} {a b : Att} {i j : Nat} (hi : S.Unl a b i) (hj : S.Unl a b j) : i = j := by
  obtain ⟨x, y, h1, h2, rfl⟩ := hi
  obtain ⟨x', y', h3, h4, rfl⟩ := hj
  rw [Lack_one h1 h3, Lack_one h2 h4]
section
variable {P : Program} {w : World} {K : PySem.W.Frag} {mg : PySem.Str → Option Value} {base : Heap}
def R3 (S : Sk) (a b : Att) : PH := fun v H => ∃ p k1 k2 k3, v = .ref p ∧ H p = some (.lst [nV k1, nV k2, nV k3]) ∧ S.Lack a b k1 ∧ S.Lack b a k2 ∧ S.Unl a b k3
theorem evp_lstP {σ : St} {H : Hp} {ta : TA} {R : PH} (ha : EvAP ta σ H (fun vs H1 => vs.length ≤ 100000 ∧ ∀ p H2, Ex H1 H2 → H2 p = some (.lst vs) → R (.ref p) H2)) : EvP (tLst ta) σ H R := fun H1 e Q q => ha H1 e _ fun vs H2 e2 ⟨hz, hr⟩ =>
  ⟨sz_of hz, fun p hp => q _ _ (e2.trans (Ex.new hp)) (hr p _ (Ex.new hp) upd_same)⟩
theorem evp_three {σ : St} {H : Hp} {t1 t2 t3 : TE} {S : Sk} {a b : Att} (h1 : EvP t1 σ H (LackV S a b)) (h2 : EvP t2 σ H (LackV S b a)) (h3 : EvP t3 σ H (UnlV S a b)) : EvP (tLst (tCons t1 (tCons t2 (tCons t3 tNil)))) σ H (R3 S a b) :=
  evp_lstP (eap_cons h1 fun v1 H1 e1 ⟨_, hv1, k1, hk1, hi1⟩ => eap_cons (h2.mono e1) fun v2 H2 e2 ⟨_, hv2, k2, hk2, hi2⟩ => eap_cons (h3.mono (e1.trans e2)) fun v3 H3 e3 ⟨_, hv3, k3, hk3, hi3⟩ => eap_of ea_nil fun H4 e4 => ⟨Nat.le_of_ble_eq_true rfl, fun p H5 e5 hp => by
    subst hv1 hv2 hv3 hi1 hi2 hi3
    exact ⟨p, k1, k2, k3, rfl, hp, hk1, hk2, hk3⟩⟩)
theorem ev_repr3 {σ : St} {H : Hp} {te : TE} {S : Sk} {a b : Att} {k1 k2 k3 : Nat} (h : EvP te σ H (R3 S a b)) (hs : S.st.length ≤ 20) (h1 : S.Lack a b k1) (h2 : S.Lack b a k2) (h3 : S.Unl a b k3) : Ev (tCB (rRepr K) (tCons te tNil)) σ H (.str (dat3 k1 k2 k3).shown) := fun H1 e Q q =>
  h H1 e _ fun v H2 e2 ⟨p, j1, j2, j3, hv, hp, g1, g2, g3⟩ => by
    subst hv
    rw [Lack_one g1 h1, Lack_one g2 h2, Unl_one g3 h3] at hp
    exact ⟨p, dat3 k1 k2 k3, rfl, .lst (sq_of hp) (.cons (.int _) (.cons (.int _) (.cons (.int _) .nil))), dat3_show (Lack_few h1 hs) (Lack_few h2 hs) (Unl_few h3 hs), dat3_nod _ _ _, dat3_dep _ _ _, dat3_len (Lack_few h1 hs) (Lack_few h2 hs) (Unl_few h3 hs), q H2 e2⟩
def spRight (C : Addr) : Sp := SpG 4 fun vs H R => ∃ S a b v1 v2 v3 v4, vs = [v1, v2, v3, v4] ∧ PartsAt S v1 H ∧ SkyAt C S v2 H ∧ T3 a v3 H ∧ T3 b v4 H ∧ SkGood S ∧ AttOk S.n a ∧ AttOk S.n b ∧ R = is (.bl true)
abbrev s__law_right : Stmt := top 62
abbrev N__law_right : List PySem.Str := ["_law_parts_here", "_law_made_here", "_law_one", "_law_other", "_law_due"]
theorem sc__law_right : FnScope N__law_right ["_law_parts_here", "_law_made_here", "_law_one", "_law_other"] (defScope s__law_right) := ⟨rfl, rfl, rfl, by decide +kernel, rfl, by decide +kernel, by decide +kernel⟩
theorem ok_right {C : Addr} (B : Bl mg) (G__law_lack : Kn P w K mg base "_law_lack" 23 ["_law_parts_here", "_law_one", "_law_other"] spLLack) (G__law_unlike : Kn P w K mg base "_law_unlike" 24 ["_law_parts_here", "_law_one", "_law_other"] spLUnl) (G_lack : Kn P w K mg base "lack" 7 ["sky", "one", "other"] (spLack C)) (G_unlikeness : Kn P w K mg base "unlikeness" 7 ["sky", "one", "other"] (spUnl C))
    (D : Df K mg "_law_right" s__law_right) : KnG P w K mg base "_law_right" 25 ["_law_parts_here", "_law_made_here", "_law_one", "_law_other"] (spRight C) := by
  obtain ⟨f, fd, F, hm⟩ := D
  refine ⟨f, fd, ?_, hm, F.kp, F.binds (ps := ["_law_parts_here", "_law_made_here", "_law_one", "_law_other"]) fun _ _ _ _ _ _ us hl => match us, hl with | [_, _, _, _], _ => rfl⟩
  refine fn_at F sc__law_right (fun vs H Q E h => h.1) (fun cdv A outer s H vs Q E hgd hr h => ?_)
  have hu := hu_of hr
  have nd := sc__law_right.nd
  obtain ⟨_, R, ⟨S, a, b, v1, v2, v3, v4, rfl, hP, hS, ha, hb, hg, hat, hbt, rfl⟩, k⟩ := h
  refine ⟨_, (pss_cons (ps_set (i := 4) nd rfl (by first | exact Or.inl rfl | exact Or.inr rfl) (pe_lst (pa_cons (pe_own G__law_lack hr (pa_cons (pv 0) (pa_cons (pv 2) (pa_cons (pv 3) pa_nil)))) (pa_cons (pe_own G__law_lack hr (pa_cons (pv 0) (pa_cons (pv 3) (pa_cons (pv 2) pa_nil)))) (pa_cons (pe_own G__law_unlike hr (pa_cons (pv 0) (pa_cons (pv 2) (pa_cons (pv 3) pa_nil)))) pa_nil)))))
      (pss_one (ps_ret (pe_cmpR op_eq (pe_callB (call_repr_D hgd hr) (by rfl) B.repr (by decide +kernel) (pa_cons (pe_lst (pa_cons (pe_own G_lack hr (pa_cons (pv 1) (pa_cons (pv 2) (pa_cons (pv 3) pa_nil)))) (pa_cons (pe_own G_lack hr (pa_cons (pv 1) (pa_cons (pv 3) (pa_cons (pv 2) pa_nil)))) (pa_cons (pe_own G_unlikeness hr (pa_cons (pv 1) (pa_cons (pv 2) (pa_cons (pv 3) pa_nil)))) pa_nil)))) pa_nil)) (pe_callB (call_repr_D hgd hr) (by rfl) B.repr (by decide +kernel) (pa_cons (pv 4) pa_nil)) (nomark _))))), ?_⟩
  refine q_asgP (evp_three (evp_call (by walk_at "ea") (use_llack hP ha hb hg hat hbt)) (evp_call (by walk_at "ea") (use_llack hP hb ha hg hbt hat)) (evp_call (by walk_at "ea") (use_lunl hP ha hb hg hat hbt))) fun v H1 e1 ⟨p, k1, k2, k3, hv, hp, h1, h2, h3⟩ => ?_
  subst hv
  have hS1 := hS.up e1
  refine s_ret (ev_is (ev_op (ev_repr3 (evp_three (evp_call (by walk_at "ea") (use_lack hS1 (ha.up e1) (hb.up e1) hg.ok hat hbt)) (evp_call (by walk_at "ea") (use_lack hS1 (hb.up e1) (ha.up e1) hg.ok hbt hat)) (evp_call (by walk_at "ea") (use_unl hS1 (ha.up e1) (hb.up e1) hg.ok hat hbt))) hg.st.few h1 h2 h3)
    (ev_repr3 (S := S) (a := a) (b := b) (K77.Ev.p (ev_var rfl) fun H2 e2 => ⟨p, k1, k2, k3, rfl, e2 _ _ hp, h1, h2, h3⟩) hg.st.few h1 h2 h3) (rv_eq rfl)) ?_) fun H2 e2 => k _ H2 (e1.trans e2) rfl
  simp
theorem use_right {C : Addr} {S : Sk} {a b : Att} {v1 v2 v3 v4 : V} {H : Hp} (hP : PartsAt S v1 H) (hS : SkyAt C S v2 H) (ha : T3 a v3 H) (hb : T3 b v4 H) (hg : SkGood S) (hat : AttOk S.n a) (hbt : AttOk S.n b) : SpV (spRight C) [v1, v2, v3, v4] H (.bl true) := spgV fun _ e => ⟨S, a, b, v1, v2, v3, v4, rfl, hP.up e, hS.up e, ha.up e, hb.up e, hg, hat, hbt, rfl⟩
end
end K77
end

section
set_option maxRecDepth 100000
set_option maxHeartbeats 4000000
namespace K77
open PySem L2 Evl
local macro_rules | `(tactic| walk_at "at") => `(tactic| first | assumption | exact Ex.get (by assumption) (by assumption))
local macro_rules | `(tactic| walk_at "sk") => `(tactic| first | assumption | exact SkyA.up (by assumption) (by assumption))
local macro_rules | `(tactic| walk_at "rv") => `(tactic| first
  | with_reducible exact rv_I0
  | with_reducible exact rv_isN
  | with_reducible exact rv_notN
  | (with_reducible show RV (rI (fun _ j => 0 < j) fun i j => .int (i % j)) _ _ _ _; exact rv_mod (by first | assumption | omega))
  | (with_reducible show RV (rI CMul _) _ _ _ _; exact rv_mul (by first | exact mul_l (by omega) | exact mul_r (by omega)))
  | (with_reducible show RV (rI CDiv _) _ _ _ _; exact rv_fdiv (div_ok (by omega)))
  | (with_reducible show RV (rIxT _) _ _ _ _; exact rv_tup (by walk_at "at") rfl)
  | (with_reducible show RV rEq _ _ _ _; exact rv_eq rfl)
  | (with_reducible show RV rNe _ _ _ _; exact rv_ne rfl))
local macro_rules | `(tactic| walk_at "ev") => `(tactic| first
  | (with_reducible show Ev (tVar _) _ _ _; exact ev_var rfl)
  | (with_reducible show Ev (tC _) _ _ _; exact ev_c)
  | (with_reducible show Ev (tOp (rIxL _) _ _) _ _ _; exact ev_num (by walk_at "at") (by assumption) (by walk_at "ev") (by walk_at "ev") (by omega) (by omega))
  | (with_reducible show Ev (tOp _ _ _) _ _ _; exact ev_op (by walk_at "ev") (by walk_at "ev") (by walk_at "rv"))
  | (with_reducible show Ev (tProp _ _ _ _ _) _ _ _; exact ev_sky (by walk_at "ev") (by walk_at "sk"))
  | (with_reducible show Ev (tCB rAbs _) _ _ _; exact ev_abs (by walk_at "ev"))
  | (with_reducible show Ev (tCB rMax _) _ _ _; exact ev_max (by walk_at "ev") (by walk_at "ev"))
  | (with_reducible show Ev (tCB rMin _) _ _ _; exact ev_min (by walk_at "ev") (by walk_at "ev"))
  | (with_reducible show Ev (tCB rInt _) _ _ _; exact ev_int (by walk_at "ev"))
  | (with_reducible show Ev (tCB rInt _) _ _ _; exact ev_intB (by walk_at "ev"))
  | (with_reducible show Ev (tChain _ _ _ _ _) _ _ _; exact ev_chain (by walk_at "ev") (by walk_at "ev") (by walk_at "ev"))
  | (with_reducible show Ev (tAndV _ _) _ _ _; exact ev_andV (by walk_at "ev") (fun _ => by walk_at "ev"))
  | (with_reducible show Ev (tOrV _ _) _ _ _; exact ev_orV (by walk_at "ev") (fun _ => by walk_at "ev"))
  | (with_reducible show Ev (tCB (rLenQ _) _) _ _ _; exact ev_lenL (by walk_at "ev") (by walk_at "at"))
  | (with_reducible show Ev (tCB (rLenQ _) _) _ _ _; exact ev_lenT (by walk_at "ev") (by walk_at "at"))
  | (with_reducible show Ev (tUn _ _) _ _ _; exact ev_un (by walk_at "ev") ru_neg))
local macro_rules | `(tactic| walk_at "et") => `(tactic| first
  | (with_reducible show EvT (tTest _) _ _ _; exact et_test (by walk_at "ev"))
  | (with_reducible show EvT (tB _) _ _ _; exact et_B (by walk_at "ev"))
  | (with_reducible show EvT (tNot _) _ _ _; exact et_not (by walk_at "et"))
  | (with_reducible show EvT (tAnd _ _) _ _ _; exact et_and (by walk_at "et") (fun _ => by walk_at "et"))
  | (with_reducible show EvT (tOr _ _) _ _ _; exact et_or (by walk_at "et") (fun _ => by walk_at "et"))
  | exact et_tru (by walk_at "ev") (by walk_at "at"))
local macro_rules | `(tactic| walk_at "ea") => `(tactic| first
  | (with_reducible show EvA tNil _ _ _; exact ea_nil)
  | (with_reducible show EvA (tCons _ _) _ _ _; exact ea_cons (by walk_at "ev") (by walk_at "ea")))
/-- the camera changed -/
def camK (c : Cam) (k : Int) : Cam := if k = 0 then ⟨c.r + 1, c.b, c.g, c.l⟩ else if k = 1 then ⟨c.r, c.b, c.g, c.l - 1⟩ else if k = 2 then ⟨c.r, c.b + 1, c.g, c.l⟩ else ⟨c.r, c.b, c.g + 1, c.l⟩
theorem camK_ok {n : Int} {c : Cam} {k : Int} (h : CamOk n c) (hk : k = 0 ∨ k = 1 ∨ k = 2 ∨ k = 3) (hb : (decide ((camK c k).r ≤ 4) && (decide ((camK c k).b ≤ imin 2 (camK c k).r) && (decide (2 * ((camK c k).r + (camK c k).b) + 1 ≤ n) && (decide ((camK c k).g ≤ 2) && decide (1 ≤ (camK c k).l))))) = true) : CamOk n (camK c k) := by
  simp only [Bool.and_eq_true, decide_eq_true_eq] at hb
  obtain ⟨h1, h2, h3, h4, h5⟩ := hb
  have h6 : (camK c k).b ≤ 2 ∧ (camK c k).b ≤ (camK c k).r := by
    unfold imin at h2
    split at h2 <;> omega
  obtain ⟨c1, c2, c3, c4, c5, c6, c7, c8, c9, c10⟩ := h
  obtain ⟨h6, h7⟩ := h6
  rcases hk with rfl | rfl | rfl | rfl <;> simp only [camK, if_pos, show ((1 : Int) = 0) = False by simp, show ((2 : Int) = 0) = False by simp, show ((2 : Int) = 1) = False by simp, show ((3 : Int) = 0) = False by simp, show ((3 : Int) = 1) = False by simp, show ((3 : Int) = 2) = False by simp, if_false] at * <;> (refine ⟨?_, ?_, ?_, ?_, ?_, ?_, ?_, ?_, ?_, ?_⟩ <;> (try dsimp only) <;> omega)
theorem camK_worse {n : Int} {c : Cam} {k : Int} (h : CamOk n c) (hk : k = 0 ∨ k = 1 ∨ k = 2 ∨ k = 3) : (k ≤ 1 → Worse c (camK c k)) ∧ (1 < k → Worse (camK c k) c) := by
  obtain ⟨c1, c2, c3, c4, c5, c6, c7, c8, c9, c10⟩ := h
  rcases hk with rfl | rfl | rfl | rfl
  · exact ⟨fun _ => ⟨Int.le_refl _, Int.le_refl _, (by show c.r - c.b ≤ c.r + 1 - c.b; omega), Int.le_refl _, c3, c5⟩, fun z => absurd z (by decide)⟩
  · exact ⟨fun _ => ⟨Int.le_refl _, Int.le_refl _, Int.le_refl _, (by show c.l - 1 + c.g ≤ c.l + c.g; omega), c3, c5⟩, fun z => absurd z (by decide)⟩
  · exact ⟨fun z => absurd z (by decide), fun _ => ⟨(by show c.b ≤ c.b + 1; omega), Int.le_refl _, (by show c.r - (c.b + 1) ≤ c.r - c.b; omega), Int.le_refl _, c3, c5⟩⟩
  · exact ⟨fun z => absurd z (by decide), fun _ => ⟨Int.le_refl _, (by show c.g ≤ c.g + 1; omega), Int.le_refl _, (by show c.l + c.g ≤ c.l + (c.g + 1); omega), c3, c5⟩⟩
theorem worse_self {n : Int} {c : Cam} (h : CamOk n c) : Worse c c := ⟨Int.le_refl _, Int.le_refl _, Int.le_refl _, Int.le_refl _, h.2.2.1, h.2.2.2.2.1⟩
theorem ev_ofP {te : TE} {σ : St} {H : Hp} {v : V} (h : EvP te σ H (is v)) : Ev te σ H v := fun H1 e Q q => h H1 e Q fun u H2 e2 hu => by
  have hu : u = v := hu
  rw [hu]
  exact q H2 e2
theorem etp_B {σ : St} {H : Hp} {te : TE} {p : Bool → Prop} (h : EvP te σ H (BoolP p)) : EvTP (tB te) σ H p := fun H1 e Q q => h H1 e _ fun v H2 e2 ⟨b, hv, hp⟩ => by
  subst hv
  exact ⟨b, rfl, q b H2 e2 hp⟩
theorem etp_not {σ : St} {H : Hp} {t : TT} {p : Bool → Prop} (h : EvTP t σ H (fun c => p (!c))) : EvTP (tNot t) σ H p := fun H1 e Q q => h H1 e _ fun b H2 e2 hp => q (!b) H2 e2 hp
theorem etp_and {σ : St} {H : Hp} {t u : TT} {p p1 : Bool → Prop} (h1 : EvTP t σ H p1) (h2 : ∀ H1, Ex H H1 → p1 true → EvTP u σ H1 p) (h3 : p1 false → p false) : EvTP (tAnd t u) σ H p := fun H1 e Q q => h1 H1 e _ fun b H2 e2 hp => by
  cases b with
  | true =>
    show u σ H2 Q
    exact h2 H2 (e.trans e2) hp H2 (Ex.refl H2) Q fun c H3 e3 hc => q c H3 (e2.trans e3) hc
  | false =>
    show Q false H2
    exact q false H2 e2 (h3 hp)
section
variable {P : Program} {w : World} {K : PySem.W.Frag} {mg : PySem.Str → Option Value} {base : Heap}
theorem far_some (slack : Int) : farP 4 slack ≠ [] := by
  have h : (((0, 0, 0), (0, 0, 1)) : Att × Att) ∈ allP 4 := by decide +kernel
  exact List.ne_nil_of_mem (List.mem_filter.mpr ⟨h, rfl⟩)
theorem use_rightP {C : Addr} {S : Sk} {a b : Att} {v1 v2 v3 v4 : V} {H : Hp} (hP : PartsAt S v1 H) (hS : SkyAt C S v2 H) (ha : T3 a v3 H) (hb : T3 b v4 H) (hg : SkGood S) (hat : AttOk S.n a) (hbt : AttOk S.n b) : SpP (spRight C) [v1, v2, v3, v4] H (is (.bl true)) := spg fun _ e => ⟨S, a, b, v1, v2, v3, v4, rfl, hP.up e, hS.up e, ha.up e, hb.up e, hg, hat, hbt, rfl⟩
theorem evp_least0 {σ : St} {H : Hp} {ta : TE} {S : Sk} {slack : Int} (h : EvP ta σ H (LeastV S slack)) : EvP (tOp (rIxT K) ta (tC (.int 0))) σ H (IntP fun i => ∃ m : Nat, i = (m : Int) ∧ (∃ p ∈ farP S.n slack, S.Unl p.1 p.2 m) ∧ (m = 0 ∨ ∀ p ∈ farP S.n slack, PairOk S m p)) := fun H1 e Q q =>
  h H1 e _ fun v H2 e2 ⟨p, m, u1, u2, hv, hp, h1, h2⟩ => by
    subst hv
    exact rv_tup hp rfl H2 (Ex.refl H2) _ fun H3 e3 => q _ H3 (e2.trans e3) ⟨_, rfl, m, rfl, h1, h2⟩
def spLaw : Sp := fun vs H Q _ => ∃ (a : Addr) (ns : List Int), vs = [.ref a] ∧ SqL K H a (ns.map V.int) ∧ ns.length ≤ 63 ∧ ∀ H', Q (.bl true) H'
abbrev s_law : Stmt := top 63
abbrev N_law : List PySem.Str := ["_law_script", "_law_numbers_here", "_law_parts_here", "_law_reach", "_law_blur", "_law_glare", "_law_limit", "_law_kind", "_law_camera_here", "_law_made_here", "_law_changed", "_law_worse", "_law_better", "_law_k", "_law_one", "_law_other", "_law_errors", "_law_slack"]
theorem sc_law : FnScope N_law ["_law_script"] (defScope s_law) := ⟨rfl, rfl, rfl, by decide +kernel, rfl, by decide +kernel, by decide +kernel⟩
theorem ok_law {C : Addr} (B : Bl mg) (G__law_numbers : Kn P w K mg base "_law_numbers" 2 ["_law_script", "_law_many"] (spNumbers (K := K))) (G__law_parts : Kn P w K mg base "_law_parts" 3 ["_law_numbers_here", "_law_at", "_law_sides", "_law_many"] spParts) (G__law_is_camera : Kn P w K mg base "_law_is_camera" 1 ["_law_side", "_law_camera_here"] spLIsCam)
    (G__law_made : Kn P w K mg base "_law_made" 4 ["_law_parts_here"] (spMade C)) (MW : KnMt P w K mg base C "with_camera" 4 ["self", "camera"] (spWith C)) (G__law_attitude : Kn P w K mg base "_law_attitude" 1 ["_law_numbers_here", "_law_at", "_law_side"] spAtt) (G__law_beside : Kn P w K mg base "_law_beside" 2 ["_law_numbers_here", "_law_at", "_law_side", "_law_one"] spBeside)
    (G__law_right : KnG P w K mg base "_law_right" 25 ["_law_parts_here", "_law_made_here", "_law_one", "_law_other"] (spRight C)) (G_lack : Kn P w K mg base "lack" 7 ["sky", "one", "other"] (spLack C)) (G_unlikeness : Kn P w K mg base "unlikeness" 7 ["sky", "one", "other"] (spUnl C)) (G_are_confusable : Kn P w K mg base "are_confusable" 8 ["sky", "one", "other", "missing", "false"] (spConf C))
    (G_least_distance : Kn P w K mg base "least_distance" 8 ["sky", "slack"] (spLeast C)) {f : Addr} {fd : FuncData} (F : Fun K "law" "law" s_law f fd) : FnOkG P w K mg base 26 f fd ["_law_script"] (spLaw (K := K)) := by
  refine fn_at F sc_law (fun vs H Q E h => by obtain ⟨a, ns, rfl, _⟩ := h; rfl) (fun cdv A outer s H vs Q E hgd hr h => ?_)
  have hu := hu_of hr
  have nd := sc_law.nd
  obtain ⟨sc, cs, rfl, hsc, hcl, k⟩ := h
  refine ⟨_, (pss_cons (ps_set (i := 1) nd rfl (by first | exact Or.inl rfl | exact Or.inr rfl) (pe_own G__law_numbers hr (pa_cons (pv 0) (pa_cons pe_int pa_nil))))
      (pss_cons (ps_set (i := 2) nd rfl (by first | exact Or.inl rfl | exact Or.inr rfl) (pe_own G__law_parts hr (pa_cons (pv 1) (pa_cons pe_int (pa_cons (pe_lst (pa_cons pe_int (pa_cons pe_int (pa_cons pe_int (pa_cons pe_int pa_nil))))) (pa_cons pe_int pa_nil))))))
      (pss_cons (ps_asg (pe_ix ix_tup (pv 2) pe_int (fun _ _ => rfl)) (pg_tup rfl (pgs_cons (pg_name (i := 3) nd rfl (by first | exact Or.inl rfl | exact Or.inr rfl)) (pgs_cons (pg_name (i := 4) nd rfl (by first | exact Or.inl rfl | exact Or.inr rfl)) (pgs_cons (pg_name (i := 5) nd rfl (by first | exact Or.inl rfl | exact Or.inr rfl)) (pgs_cons (pg_name (i := 6) nd rfl (by first | exact Or.inl rfl | exact Or.inr rfl)) pgs_nil))))))
      (pss_cons (ps_set (i := 7) nd rfl (by first | exact Or.inl rfl | exact Or.inr rfl) (pe_op op_mod (pe_callTy call_int1 (by rfl) B.int (by decide +kernel) (pa_cons (pe_ix ix_list (pv 1) pe_int (fun _ _ => rfl)) pa_nil)) pe_int))
      (pss_cons (ps_set (i := 8) nd rfl (by first | exact Or.inl rfl | exact Or.inr rfl) (pe_ix ix_list (pe_lst (pa_cons (pe_tup (pa_cons (pe_op op_add (pv 3) pe_int) (pa_cons (pv 4) (pa_cons (pv 5) (pa_cons (pv 6) pa_nil))))) (pa_cons (pe_tup (pa_cons (pv 3) (pa_cons (pv 4) (pa_cons (pv 5) (pa_cons (pe_op op_sub (pv 6) pe_int) pa_nil))))) (pa_cons (pe_tup (pa_cons (pv 3) (pa_cons (pe_op op_add (pv 4) pe_int) (pa_cons (pv 5) (pa_cons (pv 6) pa_nil))))) (pa_cons (pe_tup (pa_cons (pv 3) (pa_cons (pv 4) (pa_cons (pe_op op_add (pv 5) pe_int) (pa_cons (pv 6) pa_nil))))) pa_nil))))) (pv 7) (fun _ _ => rfl)))
      (pss_cut (ps_if (pt_not (pt_val (pe_own G__law_is_camera hr (pa_cons (pe_ix ix_tup (pv 2) pe_int (fun _ _ => rfl)) (pa_cons (pv 8) pa_nil))))) (pss_one (ps_set (i := 8) nd rfl (by first | exact Or.inl rfl | exact Or.inr rfl) (pe_ix ix_tup (pv 2) pe_int (fun _ _ => rfl)))) pss_nil)
      (pss_cons (ps_set (i := 9) nd rfl (by first | exact Or.inl rfl | exact Or.inr rfl) (pe_own G__law_made hr (pa_cons (pv 2) pa_nil)))
      (pss_cons (ps_set (i := 10) nd rfl (by first | exact Or.inl rfl | exact Or.inr rfl) (pe_withCam MW hr (pv 9) (pa_cons (pv 8) pa_nil)))
      (pss_cons (ps_par (i := 11) (j := 12) rfl nd rfl rfl (by decide) rfl rfl (pa_cons (pv 9) (pa_cons (pv 10) pa_nil)) (by rfl))
      (pss_cut (ps_if (pt_cmpR op_gt (pv 7) pe_int (nomark _)) (pss_one (ps_par (i := 11) (j := 12) rfl nd rfl rfl (by decide) rfl rfl (pa_cons (pv 10) (pa_cons (pv 9) pa_nil)) (by rfl))) pss_nil)
      (pss_cons (ps_for PassesOwn.never rfl (pi_range1 (by rfl) B.range (pa_cons pe_int pa_nil)) (pg_name (i := 13) nd rfl (by first | exact Or.inl rfl | exact Or.inr rfl))
      (pss_cons (ps_set (i := 14) nd rfl (by first | exact Or.inl rfl | exact Or.inr rfl) (pe_own G__law_attitude hr (pa_cons (pv 1) (pa_cons (pe_op op_add pe_int (pe_op op_mul pe_int (pv 13))) (pa_cons (pe_ix ix_tup (pv 2) pe_int (fun _ _ => rfl)) pa_nil)))))
      (pss_cons (ps_set (i := 15) nd rfl (by first | exact Or.inl rfl | exact Or.inr rfl) (pe_own G__law_beside hr (pa_cons (pv 1) (pa_cons (pe_op op_add pe_int (pe_op op_mul pe_int (pv 13))) (pa_cons (pe_ix ix_tup (pv 2) pe_int (fun _ _ => rfl)) (pa_cons (pv 14) pa_nil))))))
      (pss_cons (ps_if (PW.pt (pw_and (pt_cmpR op_eq (pv 13) pe_int (nomark _)) (pw_and1 (pt_not (pt_val (pe_ownG G__law_right hgd hr (pa_cons (pv 2) (pa_cons (pv 9) (pa_cons (pv 14) (pa_cons (pv 15) pa_nil)))))))))) (pss_one (ps_ret pe_bl)) pss_nil)
      (pss_cons (ps_if (PW.pt (pw_and (pt_cmpR op_eq (pv 13) pe_int (nomark _)) (pw_and1 (pt_not (pt_val (pe_ownG G__law_right hgd hr (pa_cons (pe_tup (pa_cons (pe_ix ix_tup (pv 2) pe_int (fun _ _ => rfl)) (pa_cons (pe_ix ix_tup (pv 2) pe_int (fun _ _ => rfl)) (pa_cons (pv 8) pa_nil)))) (pa_cons (pv 10) (pa_cons (pv 14) (pa_cons (pv 15) pa_nil)))))))))) (pss_one (ps_ret pe_bl)) pss_nil)
      (pss_cons (ps_if (PW.pt (pw_or (pt_cmpR op_gt (pe_own G_lack hr (pa_cons (pv 11) (pa_cons (pv 14) (pa_cons (pv 15) pa_nil)))) (pe_own G_lack hr (pa_cons (pv 12) (pa_cons (pv 14) (pa_cons (pv 15) pa_nil)))) (nomark _)) (pw_or1 (pt_cmpR op_gt (pe_own G_unlikeness hr (pa_cons (pv 11) (pa_cons (pv 14) (pa_cons (pv 15) pa_nil)))) (pe_own G_unlikeness hr (pa_cons (pv 12) (pa_cons (pv 14) (pa_cons (pv 15) pa_nil)))) (nomark _))))) (pss_one (ps_ret pe_bl)) pss_nil)
      (pss_cons (ps_set (i := 16) nd rfl (by first | exact Or.inl rfl | exact Or.inr rfl) (pe_op op_mod (pe_callTy call_int1 (by rfl) B.int (by decide +kernel) (pa_cons (pe_ix ix_list (pv 1) (pe_op op_add pe_int (pv 13)) (fun _ _ => rfl)) pa_nil)) pe_int))
      (pss_one (ps_if (PW.pt (pw_and (pt_val (pe_own G_are_confusable hr (pa_cons (pv 12) (pa_cons (pv 14) (pa_cons (pv 15) (pa_cons (pv 16) (pa_cons pe_int pa_nil))))))) (pw_and1 (pt_not (pt_val (pe_own G_are_confusable hr (pa_cons (pv 11) (pa_cons (pv 14) (pa_cons (pv 15) (pa_cons pe_int (pa_cons (pv 16) pa_nil))))))))))) (pss_one (ps_ret pe_bl)) pss_nil)))))))))
      (pss_cons (ps_set (i := 17) nd rfl (by first | exact Or.inl rfl | exact Or.inr rfl) (pe_op op_mod (pe_callTy call_int1 (by rfl) B.int (by decide +kernel) (pa_cons (pe_ix ix_list (pv 1) pe_int (fun _ _ => rfl)) pa_nil)) pe_int))
      (pss_one (ps_ret (pe_or (pe_cmpR op_gt (pe_ix ix_tup (pv 2) pe_int (fun _ _ => rfl)) pe_int (nomark _)) (pe_one (pe_cmpR op_le (pe_ix ix_tup (pe_own G_least_distance hr (pa_cons (pv 11) (pa_cons (pv 17) pa_nil))) pe_int (fun _ _ => rfl)) (pe_ix ix_tup (pe_own G_least_distance hr (pa_cons (pv 12) (pa_cons (pv 17) pa_nil))) pe_int (fun _ _ => rfl)) (nomark _)))))))))))))))))), ?_⟩
  refine q_asgP (evp_call (by walk_at "ea") (use_numbers hsc hcl)) fun v1 H1 e1 ⟨p, ns, hv1, hp, hnl, hsm⟩ => ?_
  subst hv1
  have hok : NumOk ns := ⟨hnl, hsm⟩
  refine q_asgP (evp_callP (R := PartsV) (eap_consV (ev_var rfl) fun H2 e2 => eap_consV ev_c fun H3 e3 => eap_cons (evp_L (xs := [V.int 4, .int 5, .int 6, .int 5]) (el_lst (by walk_at "ea") (Nat.le_of_ble_eq_true rfl))) fun v4 H4 e4 ⟨q, hv, hq⟩ => eap_of (ea_cons ev_c ea_nil) fun H5 e5 => by
    subst hv
    exact use_parts ((((e2.trans e3).trans e4).trans e5) _ _ hp) hok (e5 _ _ hq))) fun v2 H2 e2 ⟨S, hg, pp, sa, ca, xs, hv2, hP⟩ => ?_
  subst hv2
  have hp2 := e2 _ _ hp
  obtain ⟨n, st, c⟩ := S
  have hn : SideOk n := hg.side
  have hc : CamOk n c := hg.cam
  refine q_unp4 (ev_op (ev_var rfl) ev_c (rv_tup hP.tp rfl)) hP.cm fun H3 e3 => ?_
  have hP3 := hP.up e3
  have hp3 := e3 _ _ hp2
  refine q_asg (ev_op (ev_int (ev_num hp3 hok (ev_var rfl) ev_c (by decide) (by decide))) ev_c (rv_mod (by decide))) fun H4 e4 => ?_
  have hkd : num ns 30 % 4 = 0 ∨ num ns 30 % 4 = 1 ∨ num ns 30 % 4 = 2 ∨ num ns 30 % 4 = 3 := by omega
  generalize num ns 30 % 4 = kd at hkd
  -- the list of four cameras, one taken
  refine q_asgP (R := T4 (camK c kd)) (fun H5 e5 Q' q => ?_) fun v5 H5 e5 ⟨cp, hv5, hcp⟩ => ?_
  · refine evp_lstP (R := fun v H' => ∃ q a0 a1 a2 a3, v = .ref q ∧ H' q = some (.lst [.ref a0, .ref a1, .ref a2, .ref a3]) ∧ H' a0 = some (.tup [.int (c.r + 1), .int c.b, .int c.g, .int c.l]) ∧ H' a1 = some (.tup [.int c.r, .int c.b, .int c.g, .int (c.l - 1)]) ∧ H' a2 = some (.tup [.int c.r, .int (c.b + 1), .int c.g, .int c.l]) ∧ H' a3 = some (.tup [.int c.r, .int c.b, .int (c.g + 1), .int c.l]))
      (eap_cons (evp_U (xs := [V.int (c.r + 1), .int c.b, .int c.g, .int c.l]) (eu_tup (by walk_at "ea") (Nat.le_of_ble_eq_true rfl))) fun u0 F0 f0 ⟨a0, hu0, ha0⟩ => eap_cons (evp_U (xs := [V.int c.r, .int c.b, .int c.g, .int (c.l - 1)]) (eu_tup (by walk_at "ea") (Nat.le_of_ble_eq_true rfl))) fun u1 F1 f1 ⟨a1, hu1, ha1⟩ => eap_cons (evp_U (xs := [V.int c.r, .int (c.b + 1), .int c.g, .int c.l]) (eu_tup (by walk_at "ea") (Nat.le_of_ble_eq_true rfl))) fun u2 F2 f2 ⟨a2, hu2, ha2⟩ => eap_cons (evp_U (xs := [V.int c.r, .int c.b, .int (c.g + 1), .int c.l]) (eu_tup (by walk_at "ea") (Nat.le_of_ble_eq_true rfl))) fun u3 F3 f3 ⟨a3, hu3, ha3⟩ => eap_of ea_nil fun F4 f4 => ⟨Nat.le_of_ble_eq_true rfl, fun q F5 f5 hq => ?_⟩) H5 (Ex.refl H5) _ fun v6 H6 e6 ⟨q', a0, a1, a2, a3, hv6, hq, h0, h1, h2, h3⟩ => ?_
    · subst hu0 hu1 hu2 hu3
      have f45 := f4.trans f5
      exact ⟨q, a0, a1, a2, a3, rfl, hq, (((f1.trans f2).trans f3).trans f45) _ _ ha0, ((f2.trans f3).trans f45) _ _ ha1, (f3.trans f45) _ _ ha2, f45 _ _ ha3⟩
    · subst hv6
      refine ⟨.int kd, rfl, ?_⟩
      rcases hkd with rfl | rfl | rfl | rfl
      · exact rv_lst hq (v := .ref a0) rfl H6 (Ex.refl H6) _ fun H7 e7 => q _ H7 (e6.trans e7) ⟨a0, rfl, e7 _ _ h0⟩
      · exact rv_lst hq (v := .ref a1) rfl H6 (Ex.refl H6) _ fun H7 e7 => q _ H7 (e6.trans e7) ⟨a1, rfl, e7 _ _ h1⟩
      · exact rv_lst hq (v := .ref a2) rfl H6 (Ex.refl H6) _ fun H7 e7 => q _ H7 (e6.trans e7) ⟨a2, rfl, e7 _ _ h2⟩
      · exact rv_lst hq (v := .ref a3) rfl H6 (Ex.refl H6) _ fun H7 e7 => q _ H7 (e6.trans e7) ⟨a3, rfl, e7 _ _ h3⟩
  subst hv5
  have e35 := e4.trans e5
  have hP5 := hP3.up e35
  -- the camera, if it is one
  refine q_cutI (fun σ' H' => ∃ c2 cp, σ' = [some (.ref sc), some (.ref p), some (.ref pp), some (.int c.r), some (.int c.b), some (.int c.g), some (.int c.l), some (.int kd), some (.ref cp), none, none, none, none, none, none, none, none, none] ∧ Ex H5 H' ∧ H' cp = some (.tup [.int c2.r, .int c2.b, .int c2.g, .int c2.l]) ∧ CamOk n c2 ∧ (kd ≤ 1 → Worse c c2) ∧ (1 < kd → Worse c2 c)) ?_ ?_
  · refine s_if (et_not (et_B (ev_callV (ea_cons (ev_op (ev_var rfl) ev_c (rv_tup hP5.tp rfl)) (ea_cons (ev_var rfl) ea_nil)) (use_lisCam (n := n) (c := camK c kd) ⟨cp, rfl, hcp⟩)))) (fun _ H6 e6 => ?_) (fun hb H6 e6 => ?_)
    · exact s_asg (ev_op (ev_var rfl) ev_c (rv_tup (e6 _ _ hP5.tp) rfl)) fun H7 e7 => ⟨c, ca, rfl, e6.trans e7, (e6.trans e7) _ _ hP5.cm, hc, fun _ => worse_self hc, fun _ => worse_self hc⟩
    · have hb' := Bool.not_inj (y := true) hb
      exact ⟨camK c kd, cp, rfl, e6, e6 _ _ hcp, camK_ok hc hkd hb', (camK_worse hc hkd).1, (camK_worse hc hkd).2⟩
  rintro σ' H6 ⟨c2, cp2, rfl, e6, hcp2, hc2, hw1, hw2⟩
  have hP6 := hP5.up e6
  refine q_asgP (evp_call (by walk_at "ea") (use_made (C := C) (S := ⟨n, st, c⟩) ⟨pp, sa, ca, xs, rfl, hP6⟩ hg)) fun v7 H7 e7 ⟨ps1, ss1, cc1, xs1, hv7, hS1⟩ => ?_
  subst hv7
  refine q_asgP (evp_with (S := ⟨n, st, c⟩) (c := c2) (ev_var rfl) (by walk_at "ea") hS1 (e7 _ _ hcp2) hn hc2 hg.st) fun v8 H8 e8 hS2 => ?_
  refine q_par (ea_cons (ev_var rfl) (ea_cons (ev_var rfl) ea_nil)) fun H9 e9 => ?_
  have hS1' : SkyAt C ⟨n, st, c⟩ (.ref ps1) H9 := ⟨ps1, ss1, cc1, xs1, rfl, hS1.up (e8.trans e9)⟩
  have hS2' := hS2.up e9
  have e69 := (e7.trans e8).trans e9
  have hg2 : SkGood ⟨n, st, c2⟩ := ⟨hn, hc2, hg.st⟩
  refine q_cutI (fun σ' H' => ∃ vw vb cw cb, σ' = [some (.ref sc), some (.ref p), some (.ref pp), some (.int c.r), some (.int c.b), some (.int c.g), some (.int c.l), some (.int kd), some (.ref cp2), some (.ref ps1), some v8, some vw, some vb, none, none, none, none, none] ∧ Ex H9 H' ∧ SkyAt C ⟨n, st, cw⟩ vw H' ∧ SkyAt C ⟨n, st, cb⟩ vb H' ∧ SkGood ⟨n, st, cw⟩ ∧ SkGood ⟨n, st, cb⟩ ∧ Worse cw cb) ?_ ?_
  · refine s_if (b := decide (1 < kd)) (by walk_at "et") (fun hb H10 e10 => ?_) (fun hb H10 e10 => ?_)
    · exact s_par (ea_cons (ev_var rfl) (ea_cons (ev_var rfl) ea_nil)) fun H11 e11 => ⟨v8, .ref ps1, c2, c, rfl, e10.trans e11, hS2'.up (e10.trans e11), hS1'.up (e10.trans e11), hg2, hg, hw2 (of_decide_eq_true hb)⟩
    · exact ⟨.ref ps1, v8, c, c2, rfl, e10, hS1'.up e10, hS2'.up e10, hg, hg2, hw1 (by have := of_decide_eq_false hb; omega)⟩
  rintro σ' H10 ⟨vw, vb, cw, cb, rfl, e10, hSw, hSb, hgw, hgb, hw⟩
  have e610 := e69.trans e10
  have hP10 := hP6.up e610
  have hp10 := ((e35.trans e6).trans e610) _ _ hp3
  have hcp10 := e610 _ _ hcp2
  have hS1a := hS1'.up e10
  have hS2a := hS2'.up e10
  refine q_forR1 (by walk_at "ea") (by decide) (fun i σ' H' => (∃ u13 u14 u15 u16, σ' = [some (.ref sc), some (.ref p), some (.ref pp), some (.int c.r), some (.int c.b), some (.int c.g), some (.int c.l), some (.int kd), some (.ref cp2), some (.ref ps1), some v8, some vw, some vb, u13, u14, u15, u16, none]) ∧ Ex H10 H') (fun H11 e11 => ⟨⟨_, _, _, _, rfl⟩, e11⟩) ?_ ?_
  · rintro i σ' H11 hi ⟨⟨u13, u14, u15, u16, rfl⟩, e11⟩
    have hi4 : (i : Int) < 4 := by omega
    refine q_asgP (evp_call (ea_cons (ev_var rfl) (ea_cons (ev_op ev_c (ev_op ev_c (ev_var rfl) (rv_mul (mul_l (by decide)))) rv_I0) (ea_cons (ev_op (ev_var rfl) ev_c (rv_tup (e11 _ _ hP10.tp) rfl)) ea_nil))) (use_att (e11 _ _ hp10) hok (by omega) (by omega) hn)) fun va H12 e12 ⟨a, hat, hTa⟩ => ?_
    have e112 := e11.trans e12
    refine q_asgP (evp_call (ea_cons (ev_var rfl) (ea_cons (ev_op ev_c (ev_op ev_c (ev_var rfl) (rv_mul (mul_l (by decide)))) rv_I0) (ea_cons (ev_op (ev_var rfl) ev_c (rv_tup (e112 _ _ hP10.tp) rfl)) (ea_cons (ev_var rfl) ea_nil)))) (use_beside (e112 _ _ hp10) hok (by omega) (by omega) hn hTa hat)) fun vo H13 e13 ⟨b, hbt, hTb⟩ => ?_
    have e113 := e112.trans e13
    have hTa13 := hTa.up e13
    have hPa : ∀ {H' : Hp}, Ex H10 H' → PartsAt ⟨n, st, c⟩ (.ref pp) H' := fun e => ⟨pp, sa, ca, xs, rfl, hP10.up e⟩
    refine q_when (b := false) (et_is (et_and (a := decide (V.int (i : Int) = V.int 0)) (b := !true) (et_test (ev_op (ev_var rfl) ev_c (rv_eq rfl))) (fun _ => et_not (et_B (ev_callV (by walk_at "ea") (use_right (hPa e113) (hS1a.up e113) hTa13 hTb hg hat hbt))))) (by simp)) (fun z => by cases z) fun _ H14 e14 => ?_
    have e114 := e113.trans e14
    have hTa14 := hTa13.up e14
    have hTb14 := hTb.up e14
    have hP14 := hP10.up e114
    refine q_when (b := false) (et_is (et_and (a := decide (V.int (i : Int) = V.int 0)) (b := !true) (et_test (ev_op (ev_var rfl) ev_c (rv_eq rfl))) (fun _ => et_not (et_B (ev_ofP (evp_callP (eap_cons (evp_U (xs := [V.int n, .ref sa, .ref cp2]) (eu_tup (ea_cons (ev_op (ev_var rfl) ev_c (rv_tup hP14.tp rfl)) (ea_cons (ev_op (ev_var rfl) ev_c (rv_tup hP14.tp rfl)) (ea_cons (ev_var rfl) ea_nil))) (Nat.le_of_ble_eq_true rfl))) fun vt G1 g1 ⟨tp, hvt, htp⟩ => eap_of (by walk_at "ea") fun G2 g2 => by
      subst hvt
      have g12 := e114.trans (g1.trans g2)
      exact use_rightP (S := ⟨n, st, c2⟩) ⟨tp, sa, cp2, xs, rfl, g2 _ _ htp, (hP10.up g12).st, (hP10.up g12).sts, g12 _ _ hcp10⟩ (hS2a.up g12) (hTa14.up (g1.trans g2)) (hTb14.up (g1.trans g2)) hg2 hat hbt)))))) (by simp)) (fun z => by cases z) fun _ H15 e15 => ?_
    have e115 := e114.trans e15
    have hTa15 := hTa14.up e15
    have hTb15 := hTb14.up e15
    have hSw15 := hSw.up e115
    have hSb15 := hSb.up e115
    refine q_when (b := false) (et_or (a := false) (b := false) (et_test (ev_ofP (EvP.imp (evp_opI (evp_call (by walk_at "ea") (use_lack hSw15 hTa15 hTb15 hgw.ok hat hbt)) (evp_call (by walk_at "ea") (use_lack hSb15 hTa15 hTb15 hgb.ok hat hbt))) fun v G1 g1 r => ?_))) (fun _ => et_test (ev_ofP (EvP.imp (evp_opI (evp_call (by walk_at "ea") (use_unl hSw15 hTa15 hTb15 hgw.ok hat hbt)) (evp_call (by walk_at "ea") (use_unl hSb15 hTa15 hTb15 hgb.ok hat hbt))) fun v G1 g1 r => ?_)))) (fun z => by cases z) fun _ H16 e16 => ?_
    · obtain ⟨_, _, ⟨x, hx, rfl⟩, ⟨y, hy, rfl⟩, rfl⟩ := r
      have := lack_worse hw hx hy
      show V.bl (decide ((y : Int) < (x : Int))) = V.bl false
      rw [decide_eq_false (by omega)]
    · obtain ⟨_, _, ⟨x, hx, rfl⟩, ⟨y, hy, rfl⟩, rfl⟩ := r
      have := unl_worse hw hx hy
      show V.bl (decide ((y : Int) < (x : Int))) = V.bl false
      rw [decide_eq_false (by omega)]
    have e116 := e115.trans e16
    refine q_asg (ev_op (ev_int (ev_num (e116 _ _ hp10) hok (ev_var rfl) (ev_op ev_c (ev_var rfl) rv_I0) (by omega) (by omega))) ev_c (rv_mod (by decide))) fun H17 e17 => ?_
    have e117 := e116.trans e17
    generalize num ns (62 + (i : Int)) % 3 = er
    have hTa17 := hTa15.up (e16.trans e17)
    have hTb17 := hTb15.up (e16.trans e17)
    refine s_ifP (p := fun x => x = false) (etp_and (p1 := fun x => ∃ y : Nat, (Sk.mk n st cb).Unl a b y ∧ x = decide ((y : Int) ≤ er + 0)) (etp_B (EvP.imp (evp_call (by walk_at "ea") (use_conf (m := er) (f := 0) (hSb.up e117) hTa17 hTb17 hgb.ok hat hbt)) fun v G1 g1 ⟨y, hy, hv⟩ => ⟨_, hv, y, hy, rfl⟩)) (fun G1 g1 ⟨y, hy, hle⟩ => etp_not (etp_B (EvP.imp (evp_call (by walk_at "ea") (use_conf (m := 0) (f := er) (hSw.up (e117.trans g1)) (hTa17.up g1) (hTb17.up g1) hgw.ok hat hbt)) fun v G2 g2 ⟨x, hx, hv⟩ => ⟨_, hv, ?_⟩))) (fun _ => rfl)) (fun z => by cases z) fun _ H18 e18 => ⟨⟨_, _, _, _, rfl⟩, e117.trans e18⟩
    have h1 := of_decide_eq_true hle.symm
    have h2 := unl_worse hw hx hy
    rw [decide_eq_true (by omega)]
    rfl
  · rintro σ' H11 ⟨⟨u13, u14, u15, u16, rfl⟩, e11⟩
    refine q_asg (ev_op (ev_int (ev_num (e11 _ _ hp10) hok (ev_var rfl) ev_c (by decide) (by decide))) ev_c (rv_mod (by decide))) fun H12 e12 => ?_
    have e112 := e11.trans e12
    generalize num ns 66 % 4 = slack
    have hP12 := hP10.up e112
    by_cases hn4 : 4 < n
    · exact s_ret (ev_is (ev_orV (a := true) (b := true) (ev_is (ev_op (ev_op (ev_var rfl) ev_c (rv_tup hP12.tp rfl)) ev_c rv_I0) (by show V.bl (decide (4 < n)) = V.bl true; rw [decide_eq_true hn4])) (fun z => by cases z)) rfl) fun H13 e13 => k H13
    · have e4 : n = 4 := by
        rcases hn with z | z | z
        · exact z
        · omega
        · omega
      subst e4
      refine s_ret (v := .bl true) (ev_is (ev_orV (a := false) (b := true) (ev_is (ev_op (ev_op (ev_var rfl) ev_c (rv_tup hP12.tp rfl)) ev_c rv_I0) rfl) (fun _ => ev_ofP (EvP.imp (evp_opI (evp_least0 (evp_call (by walk_at "ea") (use_least (slack := slack) (hSw.up e112) hgw.ok (far_some slack)))) (evp_least0 (evp_call (by walk_at "ea") (use_least (slack := slack) (hSb.up e112) hgb.ok (far_some slack))))) fun v G1 g1 r => ?_))) rfl) fun H13 e13 => k H13
      obtain ⟨_, _, ⟨mw, rfl, _, h2⟩, ⟨mb, rfl, h3, _⟩, rfl⟩ := r
      have := least_worse hw h2 h3
      show V.bl (decide ((mw : Int) ≤ (mb : Int))) = V.bl true
      rw [decide_eq_true (by omega)]
end
end K77
end

section
set_option maxRecDepth 100000
set_option maxHeartbeats 4000000
namespace K77
open PySem PySem.W L2 PyProof.Rows
section
variable {P : Program} {w : World} {K : PySem.W.Frag} {mg mb : PySem.Str → Option Value} {a : Addr} {s₁ : Shared} {vs : List Value} {H : Hp}
/-- what stands where the script does not is hidden from no one -/
theorem shown_of (hA : ∀ b, H b ≠ none → b = a) {h : Heap} {b : Addr} {o : Obj} (e : h.get? b = some o) (hn : b = a → H a = none) : (hidT h H).get? b = some o := by
  refine hidT_get e ?_
  by_cases z : H b = none
  · exact z
  · have hb := hA b z
    rw [hb]
    exact hn hb
/-- the law's around, its module: the script alone may be followed -/
theorem law_env (KX : K.In s₁.heap) (hns : s₁.heap.Ns mainGlobals mg) (hb : s₁.heap.Ns builtinsNs mb) (hbb : ∀ x : PySem.Str, x ≠ "__name__" → mb x = bootBuiltins x) (hlim : s₁.heap.NoLimit) (hg : s₁.gens = #[])
    (ha : s₁.heap.get? a = some { cls := .type "list", data := .seq vs.toArray }) (hok : HOk P w H s₁.heap) (hA : ∀ b, H b ≠ none → b = a) (hK : H a ≠ none → K.lookup a = none) : Env0 P w K mg (hidT s₁.heap H) callerA [] s₁ H := by
  have dict : ∀ {b : Addr} {o : Obj} {es : Array DictEntry} {ep : Nat}, s₁.heap.get? b = some o → o.data = .dict es ep → (hidT s₁.heap H).get? b = some o := fun e d => shown_of hA e fun z => by
    rw [z, ha] at e
    cases e
    cases d
  have ns : ∀ {b : Addr} {m : PySem.Str → Option Value}, s₁.heap.Ns b m → (hidT s₁.heap H).Ns b m := fun h => by
    obtain ⟨o, es, ep, e, d, r⟩ := h
    exact ⟨o, es, ep, dict e d, d, r⟩
  have kin : K.In (hidT s₁.heap H) := fun b o e => shown_of hA (KX b o e) fun z => by
    by_cases q : H a = none
    · exact q
    · have := hK q
      rw [← z, e] at this
      cases this
  obtain ⟨ml, l1, l2⟩ := hlim
  exact { frames := rfl, mod := ⟨kin, ns hns, ⟨mb, ns hb, hbb⟩, ⟨ml, ns l1, l2⟩⟩, bs := fun b o e => of_hidT e, bsz := Nat.le_of_eq (hidT_size _ _), funs := trivial, frf := nofun, hok := hok, bare := .of_eq hg }
end
section
variable {P : Program} {w : World} {K : PySem.W.Frag} {mg mb : PySem.Str → Option Value} {k : Nat} {fa a : Addr} {fd : FuncData} {x : PySem.Str} {sp : Sp} {s₁ : Shared} {vs : List Value} {ns : List Int}
/-- the law is called: as the library's own end, its def known for arounds without a guard -/
theorem law_callG (KX : K.In s₁.heap) (hns : s₁.heap.Ns mainGlobals mg) (hb : s₁.heap.Ns builtinsNs mb) (hbb : ∀ x : PySem.Str, x ≠ "__name__" → mb x = bootBuiltins x) (hlim : s₁.heap.NoLimit) (hg : s₁.gens = #[])
    (ha : s₁.heap.get? a = some { cls := .type "list", data := .seq vs.toArray }) (hi : IntsAre vs ns) (hl : ns.length ≤ sizeLine) (hr : Room k callerA)
    (F : ∀ base : Heap, K.In base → base.Ns mainGlobals mg → FnOkG P w K mg base k fa fd [x] sp) (hbind : ∀ (s : Shared) (u : Value), BindsTo s fd ⟨[u], []⟩ [(x, u)])
    (hsp : ∀ H : Hp, SqL K H a (ns.map V.int) → sp [.ref a] H (fun v _ => v = .bl true) E0) :
    codeAny (model P w) callerA (.call (.ref fa) ⟨[.ref a], []⟩) (fun r s' => r = .ok (.ret (.bool true)) ∧ OldK s₁.heap s'.heap ∧ s'.os = s₁.os ∧ AllBare s'.gens) s₁ := by
  -- any reading of the heap that follows the script alone, as it lies
  have run : ∀ H : Hp, (∀ b, H b = none ∨ ∃ o xs, b = a ∧ H b = some (.frz o (.lst xs))) → HOk P w H s₁.heap → (H a ≠ none → K.lookup a = none) → SqL K H a (ns.map V.int) →
      codeAny (model P w) callerA (.call (.ref fa) ⟨[.ref a], []⟩) (fun r s' => r = .ok (.ret (.bool true)) ∧ OldK s₁.heap s'.heap ∧ s'.os = s₁.os ∧ AllBare s'.gens) s₁ := fun H hO hok hK hS => by
    have e0 : Env0 P w K mg (hidT s₁.heap H) callerA [] s₁ H := law_env KX hns hb hbb hlim hg ha hok (fun b z => by
      rcases hO b with q | ⟨_, _, q, _⟩
      · exact absurd q z
      · exact q) hK
    refine codeAny_mono ((F _ e0.mod.kin e0.mod.glob).run callerA [] s₁ H ⟨[.ref a], []⟩ [.ref a] [.ref a] _ E0 rfl hr e0 (hbind s₁ (.ref a)) (.cons rfl .nil) (hsp H hS)) fun r s' h => ?_
    match r, h with
    | .ok (.ret u), h =>
      obtain ⟨v, H', os, bare, un, hok', r', q⟩ := h
      cases (show v = .bl true from q)
      cases (show u = Value.bool true from r')
      refine ⟨rfl, OldK.of_keep fun b o e => ?_, os, bare⟩
      rcases hO b with z | ⟨ob, xs, _, z⟩
      · exact un.keep b o e z (fun y => nomatch y) (by simp)
      · obtain ⟨e1, _⟩ := hok b _ z
        obtain ⟨e2, _⟩ := hok' b _ (un.frzs b ob _ z)
        rw [e] at e1
        cases e1
        exact e2
    | .error e, h => exact h.elim
    | .ok .next, h => exact False.elim h
    | .ok .brk, h => exact False.elim h
    | .ok .cont, h => exact False.elim h
  have rv := vals_ints hi
  by_cases hk : K.lookup a = none
  · let o : Obj := { cls := .type "list", data := .seq vs.toArray }
    let H : Hp := fun b => if b = a then some (.frz o (.lst (ns.map V.int))) else none
    have Ha : H a = some (.frz o (.lst (ns.map V.int))) := if_pos rfl
    refine run H (fun b => ?_) (fun b u z => ?_) (fun _ => hk) (.inl (.inr ⟨o, Ha⟩))
    · by_cases c : b = a
      · exact .inr ⟨o, _, c, by rw [c]; exact Ha⟩
      · exact .inl (if_neg c)
    · by_cases c : b = a
      · subst c
        rw [Ha] at z
        cases z
        exact ⟨ha, by rw [List.length_map]; exact hl, vs, _, rv, ha⟩
      · rw [show H b = none from if_neg c] at z
        cases z
  · obtain ⟨o, ho⟩ := Option.ne_none_iff_exists'.mp hk
    have e := KX a o ho
    rw [ha] at e
    cases e
    refine run (fun _ => none) (fun _ => .inl rfl) (fun b u z => by cases z) (fun z => absurd rfl z) (.inr ⟨_, vs.toArray, _, ho, rfl, rfl, rfl, ?_, by simpa using rv⟩)
    rw [List.size_toArray, hi.length]
    exact hl
end
theorem walk_ofG {l : PySem.W.OpenLaw} {n k : Nat} {q : Program} {loose : List PySem.Str} {XP : (PySem.Str → Option Value) → Heap → Prop} {YP : World → Heap → Prop} {d : DefRec} {K : Params → PySem.W.Frag} {sp : PySem.W.Frag → Sp} {x : PySem.Str}
    (hn : l.most = some n) (hn2 : n ≤ sizeLine) (hdf : d.params.defaults = []) (hr : Room k callerA) (hY : ∀ (w : World) (h : Heap), YP w h → (K w.params).In h)
    (F : ∀ (w : World) (mg : PySem.Str → Option Value) (fa : Addr) (h : Heap), (K w.params).In h → h.Ns mainGlobals mg → mg d.name = some (.ref fa) →
      ∃ fd : FuncData, (∀ (s : Shared) (u : Value), BindsTo s fd ⟨[u], []⟩ [(x, u)]) ∧ ∀ base : Heap, (K w.params).In base → base.Ns mainGlobals mg → FnOkG l.prog w (K w.params) mg base k fa fd [x] (sp (K w.params)))
    (hsp : ∀ (K : PySem.W.Frag) (H : Hp) (a : Addr) (ns : List Int), ns.length ≤ n → SqL K H a (ns.map V.int) → sp K [.ref a] H (fun v _ => v = .bl true) E0) :
    PySem.W.WalkO q loose XP YP l.row.toRowW d [] (fun f vs => PySem.call f vs) := by
  refine Att.attach_call hn hdf fun w s₀ s₁ mg mb fa o pm cd doc a vs ns G Y ho hd hcd hmg hobj hints hlen hg => ?_
  have KX := hY w _ Y
  obtain ⟨fd, hb, hF⟩ := F w mg fa _ KX G.T.g hmg
  exact law_callG KX G.T.g G.T.b G.T.builtins G.T.nolimit hg hobj hints (Nat.le_trans hlen hn2) hr hF hb fun H hS => hsp _ H a ns hlen hS
end K77
end

section
set_option maxRecDepth 100000
set_option maxHeartbeats 4000000
namespace K77
open PySem L2
section
variable {K : PySem.W.Frag} {h : Heap} {mg : PySem.Str → Option Value}
theorem df_mk {x : PySem.Str} {st : Stmt} {f : Addr} {oc : Value} {od an : Option Addr} {osl : Array (Option Value)} {kV doc pm cdv ct : Value} (X : K.In h) (G : h.Ns mainGlobals mg) (a : PySem.W.nsIn K mainGlobals x = some (some (.ref f)))
    (l : K.lookup f = some ⟨oc, od, .func (PySem.W.fnOf x x (defArgs st) (defBody st) (defScope st) .none kV doc pm an cdv ct), osl⟩) (c : PySem.W.codeIn K cdv x = true) (k : PySem.W.keepIn K (.ref f) = true) : Df K mg x st := ⟨f, _, fun_mk (st := st) l c k, PySem.W.mg_of X G a⟩
theorem dfm_mk {C : Addr} {m qual : PySem.Str} {st : Stmt} {f : Addr} {oc : Value} {od an : Option Addr} {osl : Array (Option Value)} {kV doc pm cdv ct : Value} (a : PySem.W.findIn K (.ref C) m = some (some (.ref f))) (i : PySem.W.isFn K (.ref f) = true)
    (l : K.lookup f = some ⟨oc, od, .func (PySem.W.fnOf m qual (defArgs st) (defBody st) (defScope st) .none kV doc pm an cdv ct), osl⟩) (c : PySem.W.codeIn K cdv qual = true) (k : PySem.W.keepIn K (.ref f) = true) : DfM K C m qual st := ⟨f, _, fun_mk (st := st) l c k, a, i⟩
theorem dfp_mk {C : Addr} {m qual : PySem.Str} {st : Stmt} {p f : Addr} {rest : List Value} {oc : Value} {od an : Option Addr} {osl : Array (Option Value)} {kV doc pm cdv ct : Value} (a : PySem.W.findIn K (.ref C) m = some (some (.ref p))) (s : PySem.W.specialIn K (.ref p) "__get__" = some (some (.builtin "property.__get__"))) (t : PySem.W.takesIn K (.ref p) = some true) (r : PySem.W.recIn K p "property" = some (.ref f :: rest))
    (l : K.lookup f = some ⟨oc, od, .func (PySem.W.fnOf m qual (defArgs st) (defBody st) (defScope st) .none kV doc pm an cdv ct), osl⟩) (c : PySem.W.codeIn K cdv qual = true) (k : PySem.W.keepIn K (.ref f) = true) : DfP K C m qual st := ⟨p, f, _, ⟨a, s, t, rest, r⟩, fun_mk (st := st) l c k⟩
theorem most_mk {t : Nat} (X : K.In h) (G : h.Ns mainGlobals mg) (a : PySem.W.nsIn K mainGlobals "MOST_STARS" = some (some (.int 20 t))) : ∃ u, RelV (.int 20) u ∧ mg "MOST_STARS" = some u := ⟨_, ⟨_, rfl⟩, PySem.W.mg_of X G a⟩
end
theorem all_mk {l : PySem.W.OpenLaw} {w : World} {K : PySem.W.Frag} {h : Heap} {mg : PySem.Str → Option Value} {fa C f0 : Addr} {oc : Value} {od an : Option Addr} {osl : Array (Option Value)} {kV doc pm cdv ct : Value} (X : K.In h) (G : h.Ns mainGlobals mg) (hfa : mg "law" = some (.ref fa))
    (a0 : PySem.W.nsIn K mainGlobals "law" = some (some (.ref f0))) (l0 : K.lookup f0 = some ⟨oc, od, .func (PySem.W.fnOf "law" "law" (defArgs s_law) (defBody s_law) (defScope s_law) .none kV doc pm an cdv ct), osl⟩) (c0 : PySem.W.codeIn K cdv "law" = true) (k0 : PySem.W.keepIn K (.ref f0) = true)
    (aC : PySem.W.nsIn K mainGlobals "Sky" = some (some (.ref C))) (pg : PySem.W.plainGet K C Str.empty = true) (hd : PySem.W.hasDictIn K C = true) (po : PySem.W.plainOver K C = true) (sa : PySem.W.findIn K (.ref C) "__setattr__" = some (some (.builtin "object.__setattr__"))) (mk : PySem.W.makesIn K C = true) (kc : PySem.W.keepIn K (.ref C) = true)
    (n1 : PySem.W.findIn K (.ref C) "_side" = some none) (n2 : PySem.W.findIn K (.ref C) "_stars" = some none) (n3 : PySem.W.findIn K (.ref C) "_camera" = some none) (hMS : ∃ u, RelV (.int 20) u ∧ mg "MOST_STARS" = some u)
    (D_init : DfM K C "__init__" "Sky.__init__" s_Sky___init__) (D_wc : DfM K C "with_camera" "Sky.with_camera" s_Sky_with_camera)
    (DP_side : DfP K C "side" "Sky.side" s_Sky_side)
    (DP_stars : DfP K C "stars" "Sky.stars" s_Sky_stars)
    (DP_reach : DfP K C "reach" "Sky.reach" s_Sky_reach)
    (DP_blur : DfP K C "blur" "Sky.blur" s_Sky_blur)
    (DP_glare : DfP K C "glare" "Sky.glare" s_Sky_glare)
    (DP_limit : DfP K C "limit" "Sky.limit" s_Sky_limit)
    (z_range : PySem.W.nsIn K mainGlobals "range" = some none)
    (z_enumerate : PySem.W.nsIn K mainGlobals "enumerate" = some none)
    (z_len : PySem.W.nsIn K mainGlobals "len" = some none)
    (z_abs : PySem.W.nsIn K mainGlobals "abs" = some none)
    (z_max : PySem.W.nsIn K mainGlobals "max" = some none)
    (z_min : PySem.W.nsIn K mainGlobals "min" = some none)
    (z_int : PySem.W.nsIn K mainGlobals "int" = some none)
    (z_any : PySem.W.nsIn K mainGlobals "any" = some none)
    (z_all : PySem.W.nsIn K mainGlobals "all" = some none)
    (z_set : PySem.W.nsIn K mainGlobals "set" = some none)
    (z_sorted : PySem.W.nsIn K mainGlobals "sorted" = some none)
    (z_tuple : PySem.W.nsIn K mainGlobals "tuple" = some none)
    (z_repr : PySem.W.nsIn K mainGlobals "repr" = some none)
    (D_nearest : Df K mg "nearest" s_nearest)
    (D_turned : Df K mg "turned" s_turned)
    (D_is_motion : Df K mg "is_motion" s_is_motion)
    (D_check_attitude : Df K mg "check_attitude" s_check_attitude)
    (D_offset_of : Df K mg "offset_of" s_offset_of)
    (D_within : Df K mg "within" s_within)
    (D_seen_stars : Df K mg "seen_stars" s_seen_stars)
    (D_sure_stars : Df K mg "sure_stars" s_sure_stars)
    (D_apart : Df K mg "apart" s_apart)
    (D_are_far : Df K mg "are_far" s_are_far)
    (D_all_triples : Df K mg "all_triples" s_all_triples)
    (D_attitudes : Df K mg "attitudes" s_attitudes)
    (D_give : Df K mg "give" s_give)
    (D_extend : Df K mg "extend" s_extend)
    (D_covering : Df K mg "covering" s_covering)
    (D_most : Df K mg "most" s_most)
    (D_sight : Df K mg "sight" s_sight)
    (D_link_table : Df K mg "link_table" s_link_table)
    (D_lack_by : Df K mg "lack_by" s_lack_by)
    (D_unlikeness_by : Df K mg "unlikeness_by" s_unlikeness_by)
    (D_lack : Df K mg "lack" s_lack)
    (D_unlikeness : Df K mg "unlikeness" s_unlikeness)
    (D_are_confusable : Df K mg "are_confusable" s_are_confusable)
    (D_all_sights : Df K mg "all_sights" s_all_sights)
    (D_all_pairs : Df K mg "all_pairs" s_all_pairs)
    (D_far_pairs : Df K mg "far_pairs" s_far_pairs)
    (D_least_distance : Df K mg "least_distance" s_least_distance)
    (D_is_camera : Df K mg "is_camera" s_is_camera)
    (D_is_star : Df K mg "is_star" s_is_star)
    (D__law_row : Df K mg "_law_row" s__law_row)
    (D__law_numbers : Df K mg "_law_numbers" s__law_numbers)
    (D__law_camera : Df K mg "_law_camera" s__law_camera)
    (D__law_stars : Df K mg "_law_stars" s__law_stars)
    (D__law_full : Df K mg "_law_full" s__law_full)
    (D__law_parts : Df K mg "_law_parts" s__law_parts)
    (D__law_made : Df K mg "_law_made" s__law_made)
    (D__law_attitude : Df K mg "_law_attitude" s__law_attitude)
    (D__law_beside : Df K mg "_law_beside" s__law_beside)
    (D__law_turned : Df K mg "_law_turned" s__law_turned)
    (D__law_offsets : Df K mg "_law_offsets" s__law_offsets)
    (D__law_seen : Df K mg "_law_seen" s__law_seen)
    (D__law_sure : Df K mg "_law_sure" s__law_sure)
    (D__law_common : Df K mg "_law_common" s__law_common)
    (D__law_links : Df K mg "_law_links" s__law_links)
    (D__law_at_once : Df K mg "_law_at_once" s__law_at_once)
    (D__law_lack : Df K mg "_law_lack" s__law_lack)
    (D__law_unlike : Df K mg "_law_unlike" s__law_unlike)
    (D__law_is_camera : Df K mg "_law_is_camera" s__law_is_camera)
    (D__law_way : Df K mg "_law_way" s__law_way)
    (D__law_right : Df K mg "_law_right" s__law_right)
    : ∃ fd : FuncData, (∀ (s : Shared) (v : Value), BindsTo s fd ⟨[v], []⟩ [("_law_script", v)]) ∧ ∀ base : Heap, K.In base → base.Ns mainGlobals mg → FnOkG l.prog w K mg base 26 fa fd ["_law_script"] (spLaw (K := K)) := by
  have e := hfa.symm.trans (PySem.W.mg_of X G a0)
  cases e
  have F0 := fun_mk (st := s_law) l0 c0 k0
  refine ⟨PySem.W.fnOf "law" "law" (defArgs s_law) (defBody s_law) (defScope s_law) .none kV doc pm an cdv ct, fun s v => .of_eq rfl, fun base _ _ => ?_⟩
  have T : Txt K C := ⟨⟨pg, hd, po, sa⟩, n1, n2, n3⟩
  have hC : mg "Sky" = some (.ref C) := PySem.W.mg_of X G aC
  obtain ⟨u, hMS⟩ := hMS
  have B : Bl mg := ⟨PySem.W.mg_none_of X G z_range, PySem.W.mg_none_of X G z_enumerate, PySem.W.mg_none_of X G z_len, PySem.W.mg_none_of X G z_abs, PySem.W.mg_none_of X G z_max, PySem.W.mg_none_of X G z_min, PySem.W.mg_none_of X G z_int, PySem.W.mg_none_of X G z_any, PySem.W.mg_none_of X G z_all, PySem.W.mg_none_of X G z_set, PySem.W.mg_none_of X G z_sorted, PySem.W.mg_none_of X G z_tuple, PySem.W.mg_none_of X G z_repr⟩
  have P_side := ok_p_side (P := l.prog) (w := w) (mg := mg) (base := base) T DP_side
  have P_stars := ok_p_stars (P := l.prog) (w := w) (mg := mg) (base := base) T DP_stars
  have P_reach := ok_p_reach (P := l.prog) (w := w) (mg := mg) (base := base) T DP_reach
  have P_blur := ok_p_blur (P := l.prog) (w := w) (mg := mg) (base := base) T DP_blur
  have P_glare := ok_p_glare (P := l.prog) (w := w) (mg := mg) (base := base) T DP_glare
  have P_limit := ok_p_limit (P := l.prog) (w := w) (mg := mg) (base := base) T DP_limit
  have G_nearest := ok_nearest (P := l.prog) (w := w) (mg := mg) (base := base) D_nearest
  have G_turned := ok_turned (P := l.prog) (w := w) (mg := mg) (base := base) B D_turned
  have G_is_motion := ok_is_motion (P := l.prog) (w := w) (mg := mg) (base := base) B D_is_motion
  have G_check_attitude := ok_check_attitude (P := l.prog) (w := w) (mg := mg) (base := base) P_side G_is_motion D_check_attitude
  have G_offset_of := ok_offset_of (P := l.prog) (w := w) (mg := mg) (base := base) B P_side P_reach P_blur G_nearest G_turned D_offset_of
  have G_within := ok_within (P := l.prog) (w := w) (mg := mg) (base := base) B P_stars G_offset_of D_within
  have G_seen_stars := ok_seen_stars (P := l.prog) (w := w) (mg := mg) (base := base) P_reach P_blur P_glare P_limit G_check_attitude G_within D_seen_stars
  have G_sure_stars := ok_sure_stars (P := l.prog) (w := w) (mg := mg) (base := base) P_reach P_blur P_glare P_limit G_check_attitude G_within D_sure_stars
  have G_apart := ok_apart (P := l.prog) (w := w) (mg := mg) (base := base) B P_side G_check_attitude G_nearest D_apart
  have G_are_far := ok_are_far (P := l.prog) (w := w) (mg := mg) (base := base) G_apart D_are_far
  have G_all_triples := ok_all_triples (P := l.prog) (w := w) (mg := mg) (base := base) B D_all_triples
  have G_attitudes := ok_attitudes (P := l.prog) (w := w) (mg := mg) (base := base) P_side G_all_triples D_attitudes
  have G_give := ok_give (P := l.prog) (w := w) (mg := mg) (base := base) D_give
  have G_extend := ok_extend (P := l.prog) (w := w) (mg := mg) (base := base) G_give D_extend
  have G_covering := ok_covering (P := l.prog) (w := w) (mg := mg) (base := base) G_extend D_covering
  have G_most := ok_most (P := l.prog) (w := w) (mg := mg) (base := base) B G_covering D_most
  have G_sight := ok_sight (P := l.prog) (w := w) (mg := mg) (base := base) P_stars G_offset_of G_seen_stars G_sure_stars D_sight
  have G_link_table := ok_link_table (P := l.prog) (w := w) (mg := mg) (base := base) B P_stars P_blur P_glare D_link_table
  have G_lack_by := ok_lack_by (P := l.prog) (w := w) (mg := mg) (base := base) B G_link_table G_most D_lack_by
  have G_unlikeness_by := ok_unlikeness_by (P := l.prog) (w := w) (mg := mg) (base := base) B G_lack_by D_unlikeness_by
  have G_lack := ok_lack (P := l.prog) (w := w) (mg := mg) (base := base) G_lack_by G_sight D_lack
  have G_unlikeness := ok_unlikeness (P := l.prog) (w := w) (mg := mg) (base := base) G_unlikeness_by G_sight D_unlikeness
  have G_are_confusable := ok_are_confusable (P := l.prog) (w := w) (mg := mg) (base := base) G_unlikeness D_are_confusable
  have G_all_sights := ok_all_sights (P := l.prog) (w := w) (mg := mg) (base := base) G_attitudes G_sight D_all_sights
  have G_all_pairs := ok_all_pairs (P := l.prog) (w := w) (mg := mg) (base := base) B G_attitudes D_all_pairs
  have G_far_pairs := ok_far_pairs (P := l.prog) (w := w) (mg := mg) (base := base) G_all_pairs G_are_far D_far_pairs
  have G_least_distance := ok_least_distance (P := l.prog) (w := w) (mg := mg) (base := base) G_all_sights G_far_pairs G_lack_by G_unlikeness_by D_least_distance
  have G_is_camera := ok_is_camera (P := l.prog) (w := w) (mg := mg) (base := base) B D_is_camera
  have G_is_star := ok_is_star (P := l.prog) (w := w) (mg := mg) (base := base) B D_is_star
  have G__law_row := ok__law_row (P := l.prog) (w := w) (mg := mg) (base := base) B D__law_row
  have G__law_numbers := ok__law_numbers (P := l.prog) (w := w) (mg := mg) (base := base) B G__law_row D__law_numbers
  have G__law_camera := ok__law_camera (P := l.prog) (w := w) (mg := mg) (base := base) B D__law_camera
  have G__law_stars := ok__law_stars (P := l.prog) (w := w) (mg := mg) (base := base) B D__law_stars
  have G__law_full := ok__law_full (P := l.prog) (w := w) (mg := mg) (base := base) B D__law_full
  have G__law_parts := ok__law_parts (P := l.prog) (w := w) (mg := mg) (base := base) B G__law_full G__law_stars G__law_camera D__law_parts
  have MS := ok_init (P := l.prog) (w := w) (mg := mg) (base := base) B T hMS mk kc hC G_is_camera G_is_star D_init
  have MW := ok_with_camera T MS D_wc
  have G__law_made := ok__law_made (P := l.prog) (w := w) (mg := mg) (base := base) MS D__law_made
  have G__law_attitude := ok__law_attitude (P := l.prog) (w := w) (mg := mg) (base := base) B D__law_attitude
  have G__law_beside := ok__law_beside (P := l.prog) (w := w) (mg := mg) (base := base) B G__law_attitude D__law_beside
  have G__law_turned := ok__law_turned (P := l.prog) (w := w) (mg := mg) (base := base) B D__law_turned
  have G__law_offsets := ok__law_offsets (P := l.prog) (w := w) (mg := mg) (base := base) B G__law_turned D__law_offsets
  have G__law_seen := ok__law_seen (P := l.prog) (w := w) (mg := mg) (base := base) B G__law_offsets D__law_seen
  have G__law_sure := ok__law_sure (P := l.prog) (w := w) (mg := mg) (base := base) B G__law_offsets D__law_sure
  have G__law_common := ok__law_common (P := l.prog) (w := w) (mg := mg) (base := base) B D__law_common
  have G__law_links := ok__law_links (P := l.prog) (w := w) (mg := mg) (base := base) B G__law_seen G__law_common D__law_links
  have G__law_way := kn_way (P := l.prog) (w := w) (mg := mg) (base := base) D__law_way 21
  have G__law_at_once := ok__law_at_once (P := l.prog) (w := w) (mg := mg) (base := base) B G__law_way D__law_at_once
  have G__law_lack := ok__law_lack (P := l.prog) (w := w) (mg := mg) (base := base) B G__law_sure G__law_links G__law_at_once D__law_lack
  have G__law_unlike := ok__law_unlike (P := l.prog) (w := w) (mg := mg) (base := base) B G__law_lack D__law_unlike
  have G__law_is_camera := ok__law_is_camera (P := l.prog) (w := w) (mg := mg) (base := base) B D__law_is_camera
  have G__law_right := ok_right B G__law_lack G__law_unlike G_lack G_unlikeness D__law_right
  exact ok_law B G__law_numbers G__law_parts G__law_is_camera G__law_made MW G__law_attitude G__law_beside G__law_right G_lack G_unlikeness G_are_confusable G_least_distance F0
theorem walk {l : PySem.W.OpenLaw} {q : Program} {loose : List PySem.Str} {XP : (PySem.Str → Option Value) → Heap → Prop} {YP : World → Heap → Prop} {d : DefRec} {K : Params → PySem.W.Frag} (hn : l.most = some 63) (hdf : d.params.defaults = [])
    (hY : ∀ (w : World) (h : Heap), YP w h → (K w.params).In h)
    (F : ∀ (w : World) (mg : PySem.Str → Option Value) (fa : Addr) (h : Heap), (K w.params).In h → h.Ns mainGlobals mg → mg d.name = some (.ref fa) →
      ∃ fd : FuncData, (∀ (s : Shared) (u : Value), BindsTo s fd ⟨[u], []⟩ [("_law_script", u)]) ∧ ∀ base : Heap, (K w.params).In base → base.Ns mainGlobals mg → FnOkG l.prog w (K w.params) mg base 26 fa fd ["_law_script"] (spLaw (K := K w.params))) :
    PySem.W.WalkO q loose XP YP l.row.toRowW d [] (fun f vs => PySem.call f vs) :=
  walk_ofG (n := 63) (k := 26) (x := "_law_script") (sp := fun K => spLaw (K := K)) hn (by decide) hdf ⟨rfl, by decide, by decide⟩ hY F fun K H a ns hl hS => ⟨a, ns, rfl, hS, hl, fun _ => rfl⟩
end K77
end

open PySem PySem.W PyProof.Rows
set_option maxRecDepth 100000 in
set_option maxHeartbeats 0 in
theorem PySem.Challenge.cw_starward_k77_whole_better_cameras_holds : PySem.Challenge.rw_starward_k77_whole_better_cameras.Holds := by
  w_on; o_law; k_head; (case hw => w_witness2)
  k_fill
  refine K77.walk (l := PySem.Challenge.rw_starward_k77_whole_better_cameras) rfl rfl (fun w h Y => PySem.W.kIn_of Y) ?F
  case F =>
    intro w mg fa h KX G hmg
    refine' K77.all_mk KX G hmg ?a0 ?l0 ?c0 ?k0 ?aC ?pg ?hd ?po ?sa ?mk ?kc ?n1 ?n2 ?n3 (K77.most_mk KX G ?ms) (K77.dfm_mk ?ina ?ini ?inl ?inc ?ink) (K77.dfm_mk ?wca ?wci ?wcl ?wcc ?wck) (K77.dfp_mk ?psidea ?psides ?psidet ?psider ?psidel ?psidec ?psidek) (K77.dfp_mk ?pstarsa ?pstarss ?pstarst ?pstarsr ?pstarsl ?pstarsc ?pstarsk) (K77.dfp_mk ?preacha ?preachs ?preacht ?preachr ?preachl ?preachc ?preachk) (K77.dfp_mk ?pblura ?pblurs ?pblurt ?pblurr ?pblurl ?pblurc ?pblurk) (K77.dfp_mk ?pglarea ?pglares ?pglaret ?pglarer ?pglarel ?pglarec ?pglarek) (K77.dfp_mk ?plimita ?plimits ?plimitt ?plimitr ?plimitl ?plimitc ?plimitk) ?zrange ?zenumerate ?zlen ?zabs ?zmax ?zmin ?zint ?zany ?zall ?zset ?zsorted ?ztuple ?zrepr (K77.df_mk KX G ?d0a ?d0l ?d0c ?d0k) (K77.df_mk KX G ?d1a ?d1l ?d1c ?d1k) (K77.df_mk KX G ?d2a ?d2l ?d2c ?d2k) (K77.df_mk KX G ?d3a ?d3l ?d3c ?d3k) (K77.df_mk KX G ?d4a ?d4l ?d4c ?d4k) (K77.df_mk KX G ?d5a ?d5l ?d5c ?d5k) (K77.df_mk KX G ?d6a ?d6l ?d6c ?d6k) (K77.df_mk KX G ?d7a ?d7l ?d7c ?d7k) (K77.df_mk KX G ?d8a ?d8l ?d8c ?d8k) (K77.df_mk KX G ?d9a ?d9l ?d9c ?d9k) (K77.df_mk KX G ?d10a ?d10l ?d10c ?d10k) (K77.df_mk KX G ?d11a ?d11l ?d11c ?d11k) (K77.df_mk KX G ?d12a ?d12l ?d12c ?d12k) (K77.df_mk KX G ?d13a ?d13l ?d13c ?d13k) (K77.df_mk KX G ?d14a ?d14l ?d14c ?d14k) (K77.df_mk KX G ?d15a ?d15l ?d15c ?d15k) (K77.df_mk KX G ?d16a ?d16l ?d16c ?d16k) (K77.df_mk KX G ?d17a ?d17l ?d17c ?d17k) (K77.df_mk KX G ?d18a ?d18l ?d18c ?d18k) (K77.df_mk KX G ?d19a ?d19l ?d19c ?d19k) (K77.df_mk KX G ?d20a ?d20l ?d20c ?d20k) (K77.df_mk KX G ?d21a ?d21l ?d21c ?d21k) (K77.df_mk KX G ?d22a ?d22l ?d22c ?d22k) (K77.df_mk KX G ?d23a ?d23l ?d23c ?d23k) (K77.df_mk KX G ?d24a ?d24l ?d24c ?d24k) (K77.df_mk KX G ?d25a ?d25l ?d25c ?d25k) (K77.df_mk KX G ?d26a ?d26l ?d26c ?d26k) (K77.df_mk KX G ?d27a ?d27l ?d27c ?d27k) (K77.df_mk KX G ?d28a ?d28l ?d28c ?d28k) (K77.df_mk KX G ?d29a ?d29l ?d29c ?d29k) (K77.df_mk KX G ?d30a ?d30l ?d30c ?d30k) (K77.df_mk KX G ?d31a ?d31l ?d31c ?d31k) (K77.df_mk KX G ?d32a ?d32l ?d32c ?d32k) (K77.df_mk KX G ?d33a ?d33l ?d33c ?d33k) (K77.df_mk KX G ?d34a ?d34l ?d34c ?d34k) (K77.df_mk KX G ?d35a ?d35l ?d35c ?d35k) (K77.df_mk KX G ?d36a ?d36l ?d36c ?d36k) (K77.df_mk KX G ?d37a ?d37l ?d37c ?d37k) (K77.df_mk KX G ?d38a ?d38l ?d38c ?d38k) (K77.df_mk KX G ?d39a ?d39l ?d39c ?d39k) (K77.df_mk KX G ?d40a ?d40l ?d40c ?d40k) (K77.df_mk KX G ?d41a ?d41l ?d41c ?d41k) (K77.df_mk KX G ?d42a ?d42l ?d42c ?d42k) (K77.df_mk KX G ?d43a ?d43l ?d43c ?d43k) (K77.df_mk KX G ?d44a ?d44l ?d44c ?d44k) (K77.df_mk KX G ?d45a ?d45l ?d45c ?d45k) (K77.df_mk KX G ?d46a ?d46l ?d46c ?d46k) (K77.df_mk KX G ?d47a ?d47l ?d47c ?d47k) (K77.df_mk KX G ?d48a ?d48l ?d48c ?d48k) (K77.df_mk KX G ?d49a ?d49l ?d49c ?d49k)
    (case a0 => k_is); (case l0 => k_is); (case c0 => k_is); (case k0 => k_is); (case aC => k_is); (case pg => k_is)
    (case hd => k_is); (case po => k_is); (case sa => k_is); (case mk => k_is); (case kc => k_is); (case n1 => k_is)
    (case n2 => k_is); (case n3 => k_is); (case ms => k_is); (case ina => k_is); (case ini => k_is); (case inl => k_is)
    (case inc => k_is); (case ink => k_is); (case wca => k_is); (case wci => k_is); (case wcl => k_is); (case wcc => k_is)
    (case wck => k_is); (case psidea => k_is); (case psides => k_is); (case psidet => k_is); (case psider => k_is); (case psidel => k_is)
    (case psidec => k_is); (case psidek => k_is); (case pstarsa => k_is); (case pstarss => k_is); (case pstarst => k_is); (case pstarsr => k_is)
    (case pstarsl => k_is); (case pstarsc => k_is); (case pstarsk => k_is); (case preacha => k_is); (case preachs => k_is); (case preacht => k_is)
    (case preachr => k_is); (case preachl => k_is); (case preachc => k_is); (case preachk => k_is); (case pblura => k_is); (case pblurs => k_is)
    (case pblurt => k_is); (case pblurr => k_is); (case pblurl => k_is); (case pblurc => k_is); (case pblurk => k_is); (case pglarea => k_is)
    (case pglares => k_is); (case pglaret => k_is); (case pglarer => k_is); (case pglarel => k_is); (case pglarec => k_is); (case pglarek => k_is)
    (case plimita => k_is); (case plimits => k_is); (case plimitt => k_is); (case plimitr => k_is); (case plimitl => k_is); (case plimitc => k_is)
    (case plimitk => k_is); (case zrange => k_is); (case zenumerate => k_is); (case zlen => k_is); (case zabs => k_is); (case zmax => k_is)
    (case zmin => k_is); (case zint => k_is); (case zany => k_is); (case zall => k_is); (case zset => k_is); (case zsorted => k_is)
    (case ztuple => k_is); (case zrepr => k_is); (case d0a => k_is); (case d0l => k_is); (case d0c => k_is); (case d0k => k_is)
    (case d1a => k_is); (case d1l => k_is); (case d1c => k_is); (case d1k => k_is); (case d2a => k_is); (case d2l => k_is)
    (case d2c => k_is); (case d2k => k_is); (case d3a => k_is); (case d3l => k_is); (case d3c => k_is); (case d3k => k_is)
    (case d4a => k_is); (case d4l => k_is); (case d4c => k_is); (case d4k => k_is); (case d5a => k_is); (case d5l => k_is)
    (case d5c => k_is); (case d5k => k_is); (case d6a => k_is); (case d6l => k_is); (case d6c => k_is); (case d6k => k_is)
    (case d7a => k_is); (case d7l => k_is); (case d7c => k_is); (case d7k => k_is); (case d8a => k_is); (case d8l => k_is)
    (case d8c => k_is); (case d8k => k_is); (case d9a => k_is); (case d9l => k_is); (case d9c => k_is); (case d9k => k_is)
    (case d10a => k_is); (case d10l => k_is); (case d10c => k_is); (case d10k => k_is); (case d11a => k_is); (case d11l => k_is)
    (case d11c => k_is); (case d11k => k_is); (case d12a => k_is); (case d12l => k_is); (case d12c => k_is); (case d12k => k_is)
    (case d13a => k_is); (case d13l => k_is); (case d13c => k_is); (case d13k => k_is); (case d14a => k_is); (case d14l => k_is)
    (case d14c => k_is); (case d14k => k_is); (case d15a => k_is); (case d15l => k_is); (case d15c => k_is); (case d15k => k_is)
    (case d16a => k_is); (case d16l => k_is); (case d16c => k_is); (case d16k => k_is); (case d17a => k_is); (case d17l => k_is)
    (case d17c => k_is); (case d17k => k_is); (case d18a => k_is); (case d18l => k_is); (case d18c => k_is); (case d18k => k_is)
    (case d19a => k_is); (case d19l => k_is); (case d19c => k_is); (case d19k => k_is); (case d20a => k_is); (case d20l => k_is)
    (case d20c => k_is); (case d20k => k_is); (case d21a => k_is); (case d21l => k_is); (case d21c => k_is); (case d21k => k_is)
    (case d22a => k_is); (case d22l => k_is); (case d22c => k_is); (case d22k => k_is); (case d23a => k_is); (case d23l => k_is)
    (case d23c => k_is); (case d23k => k_is); (case d24a => k_is); (case d24l => k_is); (case d24c => k_is); (case d24k => k_is)
    (case d25a => k_is); (case d25l => k_is); (case d25c => k_is); (case d25k => k_is); (case d26a => k_is); (case d26l => k_is)
    (case d26c => k_is); (case d26k => k_is); (case d27a => k_is); (case d27l => k_is); (case d27c => k_is); (case d27k => k_is)
    (case d28a => k_is); (case d28l => k_is); (case d28c => k_is); (case d28k => k_is); (case d29a => k_is); (case d29l => k_is)
    (case d29c => k_is); (case d29k => k_is); (case d30a => k_is); (case d30l => k_is); (case d30c => k_is); (case d30k => k_is)
    (case d31a => k_is); (case d31l => k_is); (case d31c => k_is); (case d31k => k_is); (case d32a => k_is); (case d32l => k_is)
    (case d32c => k_is); (case d32k => k_is); (case d33a => k_is); (case d33l => k_is); (case d33c => k_is); (case d33k => k_is)
    (case d34a => k_is); (case d34l => k_is); (case d34c => k_is); (case d34k => k_is); (case d35a => k_is); (case d35l => k_is)
    (case d35c => k_is); (case d35k => k_is); (case d36a => k_is); (case d36l => k_is); (case d36c => k_is); (case d36k => k_is)
    (case d37a => k_is); (case d37l => k_is); (case d37c => k_is); (case d37k => k_is); (case d38a => k_is); (case d38l => k_is)
    (case d38c => k_is); (case d38k => k_is); (case d39a => k_is); (case d39l => k_is); (case d39c => k_is); (case d39k => k_is)
    (case d40a => k_is); (case d40l => k_is); (case d40c => k_is); (case d40k => k_is); (case d41a => k_is); (case d41l => k_is)
    (case d41c => k_is); (case d41k => k_is); (case d42a => k_is); (case d42l => k_is); (case d42c => k_is); (case d42k => k_is)
    (case d43a => k_is); (case d43l => k_is); (case d43c => k_is); (case d43k => k_is); (case d44a => k_is); (case d44l => k_is)
    (case d44c => k_is); (case d44k => k_is); (case d45a => k_is); (case d45l => k_is); (case d45c => k_is); (case d45k => k_is)
    (case d46a => k_is); (case d46l => k_is); (case d46c => k_is); (case d46k => k_is); (case d47a => k_is); (case d47l => k_is)
    (case d47c => k_is); (case d47k => k_is); (case d48a => k_is); (case d48l => k_is); (case d48c => k_is); (case d48k => k_is)
    (case d49a => k_is); (case d49l => k_is); (case d49c => k_is); (case d49k => k_is)
#print axioms PySem.Challenge.cw_starward_k77_whole_better_cameras_holds
